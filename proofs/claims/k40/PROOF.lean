import PyProof.Rows.All
import HandS.Base
import HandS.Call
import HandS.List
import HandS.Comp
import HandS.Exc
import HandS.Words
import HandS.WordsExc
import HandS.TupAny
import HandS.TupMul
import HandS.Wide
import HandS.Gcd
import HandS.IsInst
import HandS.Zip
import HandS.Iter
import HandS.Dict
import HandS.Ends
import HandS.Style
import HandS.ExcOwn
import HandS.SortInts
import HandS.Text
import HandS.Conv
import HandS.Lambda
import PyProof.RowDictHeap
import PyProof.ReprRoads
import PyProof.EnumMake
import KE.GoesMore
import KE.GoesZip
import KE.GoesEnum
import HandS.Deep
import HandS.ForMost
import PyProof.ReprLen
import HandS.Sort
import PyProof.ListRange
import PyProof.Rows.GenSrcRange
import PySem.Challenge.RW_fairqueue_k40_rows_among_any_values
import KE.RegKIsAll
set_option Elab.async false
set_option linter.all false
set_option maxRecDepth 100000
namespace MP
open PySem PySem.Spec PyProof.Rows L2

/-- a value that never changes -/
inductive D where
  | non | bl (b : Bool) | int (i : Int) | str (x : Str)
  | tup (xs : List D) | lst (xs : List D) | dct (kvs : List (Key × D)) | ob (C : Addr) (fs : List (Str × D)) | rf (a : Addr) | scr (ns : List Int) | ty (n : String)
/-- what a name holds: such a value, or an object that may change -/
inductive W where
  | d (x : D) | loc (n : Nat)
inductive LO where
  | lst (xs : List D) | dic (kvs : List (Key × W)) | ins (C : Addr) (fs : List (Str × W)) | frz (x : D)
abbrev LH := List LO

mutual
inductive RD (K : PySem.W.Frag) (I : Hp) : D → V → Prop
  | non : RD K I .non .non
  | bl (b : Bool) : RD K I (.bl b) (.bl b)
  | int (i : Int) : RD K I (.int i) (.int i)
  | str (x : Str) : RD K I (.str x) (.str x)
  | tup {a : Addr} {xs : List D} {vs : List V} : SqT K I a vs → RDs K I xs vs → RD K I (.tup xs) (.ref a)
  | lst {a : Addr} {xs : List D} {vs : List V} : I a = some (.lst vs) → RDs K I xs vs → RD K I (.lst xs) (.ref a)
  | dct {a : Addr} {kvs : List (Key × D)} {kv : List (Key × V)} : I a = some (.dK kv) → RDk K I kvs kv → RD K I (.dct kvs) (.ref a)
  | ob {a C dx : Addr} {fs : List (Str × D)} {fv : List (Str × V)} : I a = some (.ins C dx fv) → I dx = some (.own a) → RDf K I fs fv → RD K I (.ob C fs) (.ref a)
  | rf (a : Addr) : RD K I (.rf a) (.ref a)
  | scr {a : Addr} {ns : List Int} : SqL K I a (ns.map V.int) → RD K I (.scr ns) (.ref a)
  | ty (n : String) : RD K I (.ty n) (.ty n)
inductive RDs (K : PySem.W.Frag) (I : Hp) : List D → List V → Prop
  | nil : RDs K I [] []
  | cons {x : D} {v : V} {xs : List D} {vs : List V} : RD K I x v → RDs K I xs vs → RDs K I (x :: xs) (v :: vs)
inductive RDk (K : PySem.W.Frag) (I : Hp) : List (Key × D) → List (Key × V) → Prop
  | nil : RDk K I [] []
  | cons {k : Key} {x : D} {v : V} {xs : List (Key × D)} {vs : List (Key × V)} : RD K I x v → RDk K I xs vs → RDk K I ((k, x) :: xs) ((k, v) :: vs)
inductive RDf (K : PySem.W.Frag) (I : Hp) : List (Str × D) → List (Str × V) → Prop
  | nil : RDf K I [] []
  | cons {k : Str} {x : D} {v : V} {xs : List (Str × D)} {vs : List (Str × V)} : RD K I x v → RDf K I xs vs → RDf K I ((k, x) :: xs) ((k, v) :: vs)
end

theorem sqT_mono {K : PySem.W.Frag} {I I' : Hp} (s : Same I I') {a : Addr} {vs : List V} : SqT K I a vs → SqT K I' a vs
  | .inl (.inl h) => .inl (.inl (s _ _ h))
  | .inl (.inr ⟨o, h⟩) => .inl (.inr ⟨o, s _ _ h⟩)
  | .inr h => .inr h
theorem sqL_mono {K : PySem.W.Frag} {I I' : Hp} (s : Same I I') {a : Addr} {vs : List V} (h : SqL K I a vs) : SqL K I' a vs := s.seq h

mutual
theorem RD.mono {K : PySem.W.Frag} {I I' : Hp} (s : Same I I') : ∀ {x : D} {v : V}, RD K I x v → RD K I' x v
  | _, _, .non => .non
  | _, _, .bl b => .bl b
  | _, _, .int i => .int i
  | _, _, .str x => .str x
  | _, _, .tup h r => .tup (sqT_mono s h) (RDs.mono s r)
  | _, _, .lst h r => .lst (s _ _ h) (RDs.mono s r)
  | _, _, .dct h r => .dct (s _ _ h) (RDk.mono s r)
  | _, _, .ob h h2 r => .ob (s _ _ h) (s _ _ h2) (RDf.mono s r)
  | _, _, .rf a => .rf a
  | _, _, .scr h => .scr (sqL_mono s h)
  | _, _, .ty n => .ty n
theorem RDs.mono {K : PySem.W.Frag} {I I' : Hp} (s : Same I I') : ∀ {x : List D} {v : List V}, RDs K I x v → RDs K I' x v
  | _, _, .nil => .nil
  | _, _, .cons h t => .cons (RD.mono s h) (RDs.mono s t)
theorem RDk.mono {K : PySem.W.Frag} {I I' : Hp} (s : Same I I') : ∀ {x : List (Key × D)} {v : List (Key × V)}, RDk K I x v → RDk K I' x v
  | _, _, .nil => .nil
  | _, _, .cons h t => .cons (RD.mono s h) (RDk.mono s t)
theorem RDf.mono {K : PySem.W.Frag} {I I' : Hp} (s : Same I I') : ∀ {x : List (Str × D)} {v : List (Str × V)}, RDf K I x v → RDf K I' x v
  | _, _, .nil => .nil
  | _, _, .cons h t => .cons (RD.mono s h) (RDf.mono s t)
end

inductive RW (K : PySem.W.Frag) (I : Hp) (μ : List Addr) : W → V → Prop
  | d {x : D} {v : V} : RD K I x v → RW K I μ (.d x) v
  | loc {n : Nat} {p : Addr} : μ[n]? = some p → RW K I μ (.loc n) (.ref p)

inductive RWf {κ : Type} (K : PySem.W.Frag) (I : Hp) (μ : List Addr) : List (κ × W) → List (κ × V) → Prop
  | nil : RWf K I μ [] []
  | cons {k : κ} {x : W} {v : V} {xs : List (κ × W)} {vs : List (κ × V)} : RW K I μ x v → RWf K I μ xs vs → RWf K I μ ((k, x) :: xs) ((k, v) :: vs)

def Ext (I : Hp) (μ : List Addr) (I' : Hp) (μ' : List Addr) : Prop := Same I I' ∧ ∃ t, μ' = μ ++ t
theorem Ext.refl (I : Hp) (μ : List Addr) : Ext I μ I μ := ⟨Same.refl I, [], by simp⟩
theorem Ext.trans {I I1 I2 : Hp} {μ μ1 μ2 : List Addr} (a : Ext I μ I1 μ1) (b : Ext I1 μ1 I2 μ2) : Ext I μ I2 μ2 := by
  obtain ⟨s, t, rfl⟩ := a
  obtain ⟨s2, t2, rfl⟩ := b
  exact ⟨s.trans s2, t ++ t2, by simp⟩
theorem Ext.of {I I' : Hp} (μ : List Addr) (s : Same I I') : Ext I μ I' μ := ⟨s, [], by simp⟩
theorem Ext.at {I I' : Hp} {μ μ' : List Addr} (e : Ext I μ I' μ') {n : Nat} {p : Addr} (h : μ[n]? = some p) : μ'[n]? = some p := by
  obtain ⟨_, t, rfl⟩ := e
  rw [List.getElem?_append_left (List.getElem?_eq_some_iff.mp h).1]; exact h
theorem RW.mono {K : PySem.W.Frag} {I I' : Hp} {μ μ' : List Addr} (e : Ext I μ I' μ') {w : W} {v : V} : RW K I μ w v → RW K I' μ' w v
  | .d h => .d (h.mono e.1)
  | .loc h => .loc (e.at h)
theorem RWf.mono {κ : Type} {K : PySem.W.Frag} {I I' : Hp} {μ μ' : List Addr} (e : Ext I μ I' μ') : ∀ {w : List (κ × W)} {v : List (κ × V)}, RWf K I μ w v → RWf K I' μ' w v
  | _, _, .nil => .nil
  | _, _, .cons h t => .cons (h.mono e) (t.mono e)

def LOk (K : PySem.W.Frag) (I : Hp) (μ : List Addr) (H : Hp) (p : Addr) : LO → Prop
  | .lst xs => I p = none ∧ ∃ vs, H p = some (.lst vs) ∧ RDs K I xs vs
  | .dic kvs => I p = none ∧ ∃ kv, H p = some (.dK kv) ∧ RWf K I μ kvs kv
  | .ins C fs => I p = none ∧ ∃ dx fv, H p = some (.ins C dx fv) ∧ H dx = some (.own p) ∧ RWf K I μ fs fv
  | .frz x => RD K I x (.ref p)

/-- no object below n refers to one from n on -/
def W.below (n : Nat) : W → Prop
  | .d _ => True
  | .loc k => k < n
def LO.below (n : Nat) : LO → Prop
  | .dic kvs => ∀ y ∈ kvs, y.2.below n
  | .ins _ fs => ∀ y ∈ fs, y.2.below n
  | _ => True
theorem W.below.mono {n m : Nat} (h : n ≤ m) : ∀ {w : W}, w.below n → w.below m
  | .d _, _ => trivial
  | .loc _, q => Nat.lt_of_lt_of_le q h
theorem LO.below.mono {n m : Nat} (h : n ≤ m) : ∀ {w : LO}, w.below n → w.below m
  | .dic _, q => fun y hy => (q y hy).mono h
  | .ins _ _, q => fun y hy => (q y hy).mono h
  | .lst _, _ => trivial
  | .frz _, _ => trivial

structure HR (K : PySem.W.Frag) (I : Hp) (μ : List Addr) (L : LH) (H : Hp) : Prop where
  sub : Same I H
  len : μ.length = L.length
  nd : μ.Nodup
  there : ∀ p ∈ μ, ∃ o, H p = some o
  obj : ∀ (n : Nat) (p : Addr) (o : LO), μ[n]? = some p → L[n]? = some o → LOk K I μ H p o
  wf : ∀ (n : Nat) (o : LO), L[n]? = some o → o.below L.length

def ER (K : PySem.W.Frag) (I : Hp) (μ : List Addr) (env : List (Option W)) (σ : L2.St) : Prop :=
  env.length = σ.length ∧ ∀ (i : Nat) (w : W), env[i]? = some (some w) → ∃ v, σ[i]? = some (some v) ∧ RW K I μ w v
theorem ER.mono {K : PySem.W.Frag} {I I' : Hp} {μ μ' : List Addr} (e : Ext I μ I' μ') {env : List (Option W)} {σ : L2.St} (h : ER K I μ env σ) : ER K I' μ' env σ :=
  ⟨h.1, fun i w q => let ⟨v, a, b⟩ := h.2 i w q; ⟨v, a, b.mono e⟩⟩

/-- what an expression comes to -/
inductive Res (α : Type) where
  | ok (a : α) (L : LH) | exc (c : Addr) (th : D) (L : LH) | bad
abbrev Ev := List (Option W)
abbrev EM := Ev → LH → Res W
abbrev AM := Ev → LH → Res (List W)
abbrev BM := Ev → LH → Res Bool
def Res.bind {α β : Type} (r : Res α) (k : α → LH → Res β) : Res β := match r with
  | .ok a L => k a L
  | .exc c th L => .exc c th L
  | .bad => .bad

def XR (K : PySem.W.Frag) (I : Hp) (c : Addr) (th : D) (cls : Value) (d : Option Addr) : Prop :=
  cls = .ref c ∧ ∃ dx v, d = some dx ∧ I dx = some (.xd [("thing", v)]) ∧ RD K I th v

/-- what must hold of what an expression comes to -/
def Post {α β : Type} (Rel : Hp → List Addr → α → β → Prop) (K : PySem.W.Frag) (X : WX) (σ : L2.St) (I : Hp) (μ : List Addr) (r : Res α) (Q : β → Hp → Prop) : Prop := match r with
  | .ok w L' => ∀ I' μ' v H', Ext I μ I' μ' → HR K I' μ' L' H' → Rel I' μ' w v → Q v H'
  | .exc c th L' => ∀ I' μ' H' cls d, Ext I μ I' μ' → HR K I' μ' L' H' → XR K I' c th cls d → X cls d σ H'
  | .bad => False
theorem Post.ext {α β : Type} {Rel : Hp → List Addr → α → β → Prop} {K : PySem.W.Frag} {X : WX} {σ : L2.St} {I I' : Hp} {μ μ' : List Addr} {r : Res α} {Q : β → Hp → Prop} (h : Post Rel K X σ I μ r Q) (e : Ext I μ I' μ') : Post Rel K X σ I' μ' r Q := by
  cases r with
  | ok w L => exact fun I2 μ2 v H2 e2 => h I2 μ2 v H2 (e.trans e2)
  | exc c th L => exact fun I2 μ2 H2 cls d e2 => h I2 μ2 H2 cls d (e.trans e2)
  | bad => exact h
theorem Post.imp {α β : Type} {Rel : Hp → List Addr → α → β → Prop} {K : PySem.W.Frag} {X : WX} {σ : L2.St} {I : Hp} {μ : List Addr} {r : Res α} {Q Q' : β → Hp → Prop} (h : Post Rel K X σ I μ r Q) (q : ∀ v H, Q v H → Q' v H) : Post Rel K X σ I μ r Q' := by
  cases r with
  | ok w L => exact fun I2 μ2 v H2 e2 a b => q _ _ (h I2 μ2 v H2 e2 a b)
  | exc c th L => exact h
  | bad => exact h

def TG {α β : Type} (Rel : Hp → List Addr → α → β → Prop) (K : PySem.W.Frag) (X : WX) (m : Ev → LH → Res α) : L2.St → Hp → (β → Hp → Prop) → Prop := fun σ H Q =>
  ∃ env L I μ, ER K I μ env σ ∧ HR K I μ L H ∧ Post Rel K X σ I μ (m env L) Q
theorem TG.imp {α β : Type} {Rel : Hp → List Addr → α → β → Prop} {K : PySem.W.Frag} {X : WX} {m : Ev → LH → Res α} {σ : L2.St} {H : Hp} {Q Q' : β → Hp → Prop} (h : TG Rel K X m σ H Q) (q : ∀ v H, Q v H → Q' v H) : TG Rel K X m σ H Q' := by
  obtain ⟨env, L, I, μ, a, b, c⟩ := h
  exact ⟨env, L, I, μ, a, b, c.imp q⟩
/-- one step, then the rest -/
theorem TG.seq' {α β γ δ : Type} {Rel : Hp → List Addr → α → β → Prop} {Rel' : Hp → List Addr → γ → δ → Prop} {K : PySem.W.Frag} {X : WX} {m : Ev → LH → Res α} {k : α → LH → Res γ} {σ : L2.St} {H I : Hp} {μ : List Addr} {env : Ev} {L : LH} {Q : δ → Hp → Prop}
    (er : ER K I μ env σ) (hr : HR K I μ L H) (h : Post Rel' K X σ I μ ((m env L).bind k) Q) :
    TG Rel K X m σ H (fun v H1 => ∃ L1 I1 μ1 w, Ext I μ I1 μ1 ∧ ER K I1 μ1 env σ ∧ HR K I1 μ1 L1 H1 ∧ Rel I1 μ1 w v ∧ Post Rel' K X σ I1 μ1 (k w L1) Q ∧ m env L = .ok w L1) := by
  refine ⟨env, L, I, μ, er, hr, ?_⟩
  cases e : m env L with
  | ok w L1 =>
    rw [e] at h
    exact fun I1 μ1 v H1 e1 hr1 rw1 => ⟨L1, I1, μ1, w, e1, er.mono e1, hr1, rw1, Post.ext h e1, rfl⟩
  | exc c th L1 => rw [e] at h; exact h
  | bad => rw [e] at h; exact h

/-- one step, then the rest -/
theorem TG.seq {α β γ δ : Type} {Rel : Hp → List Addr → α → β → Prop} {Rel' : Hp → List Addr → γ → δ → Prop} {K : PySem.W.Frag} {X : WX} {m : Ev → LH → Res α} {k : α → LH → Res γ} {σ : L2.St} {H I : Hp} {μ : List Addr} {env : Ev} {L : LH} {Q : δ → Hp → Prop}
    (er : ER K I μ env σ) (hr : HR K I μ L H) (h : Post Rel' K X σ I μ ((m env L).bind k) Q) :
    TG Rel K X m σ H (fun v H1 => ∃ L1 I1 μ1 w, Ext I μ I1 μ1 ∧ ER K I1 μ1 env σ ∧ HR K I1 μ1 L1 H1 ∧ Rel I1 μ1 w v ∧ Post Rel' K X σ I1 μ1 (k w L1) Q) := (TG.seq' er hr h).imp fun _ _ ⟨L1, I1, μ1, w, a, b, c, d, e, _⟩ => ⟨L1, I1, μ1, w, a, b, c, d, e⟩

abbrev relW (K : PySem.W.Frag) : Hp → List Addr → W → V → Prop := fun I μ w v => RW K I μ w v
inductive RWs (K : PySem.W.Frag) (I : Hp) (μ : List Addr) : List W → List V → Prop
  | nil : RWs K I μ [] []
  | cons {x : W} {v : V} {xs : List W} {vs : List V} : RW K I μ x v → RWs K I μ xs vs → RWs K I μ (x :: xs) (v :: vs)
theorem RWs.mono {K : PySem.W.Frag} {I I' : Hp} {μ μ' : List Addr} (e : Ext I μ I' μ') : ∀ {w : List W} {v : List V}, RWs K I μ w v → RWs K I' μ' w v
  | _, _, .nil => .nil
  | _, _, .cons h t => .cons (h.mono e) (t.mono e)
abbrev relWs (K : PySem.W.Frag) : Hp → List Addr → List W → List V → Prop := fun I μ w v => RWs K I μ w v
abbrev relB : Hp → List Addr → Bool → Bool → Prop := fun _ _ a b => a = b
def T (K : PySem.W.Frag) (X : WX) (m : EM) : L2.TE := TG (relW K) K X m
def TA (K : PySem.W.Frag) (X : WX) (m : AM) : L2.TA := TG (relWs K) K X m
def TB (K : PySem.W.Frag) (X : WX) (m : BM) : L2.TT := TG relB K X m
/-- the expression e means m -/
abbrev RE (X : Cx) (Wx : WX) (e : Expr) (m : EM) : Prop := PE X e (T X.K Wx m)
abbrev RA (X : Cx) (Wx : WX) (es : List Expr) (m : AM) : Prop := PA X es (TA X.K Wx m)
abbrev RT (X : Cx) (Wx : WX) (e : Expr) (m : BM) : Prop := PT X e (TB X.K Wx m)
theorem _root_.L2.PE.imp {X : Cx} {e : Expr} {t t' : L2.TE} (h : PE X e t) (i : ∀ σ H Q, t' σ H Q → t σ H Q) : PE X e t' :=
  ⟨fun pins s σ H Q I q => h.run pins s σ H Q I (i σ H Q q)⟩
theorem _root_.L2.PT.imp {X : Cx} {e : Expr} {t t' : L2.TT} (h : PT X e t) (i : ∀ σ H Q, t' σ H Q → t σ H Q) : PT X e t' :=
  ⟨fun pins s σ H Q I q => h.run pins s σ H Q I (i σ H Q q)⟩
theorem _root_.L2.PA.imp {X : Cx} {e : List Expr} {t t' : L2.TA} (h : PA X e t) (i : ∀ σ H Q, t' σ H Q → t σ H Q) : PA X e t' :=
  ⟨fun pos pins s σ H Q I q => h.run pos pins s σ H Q I (i σ H Q q)⟩

/-! ### reading -/
/-- what an operation reads -/
def RR (K : PySem.W.Frag) (I H : Hp) : D → V → Prop
  | .lst xs, v => ∃ a vs, v = .ref a ∧ H a = some (.lst vs) ∧ RDs K I xs vs
  | .dct kvs, v => ∃ a kv, v = .ref a ∧ H a = some (.dK kv) ∧ RDk K I kvs kv
  | x, v => RD K I x v
theorem RD.rr {K : PySem.W.Frag} {I H : Hp} (s : Same I H) : ∀ {x : D} {v : V}, RD K I x v → RR K I H x v
  | _, _, .non => .non
  | _, _, .bl b => .bl b
  | _, _, .int i => .int i
  | _, _, .str x => .str x
  | _, _, .tup h r => .tup h r
  | _, _, .lst h r => ⟨_, _, rfl, s _ _ h, r⟩
  | _, _, .dct h r => ⟨_, _, rfl, s _ _ h, r⟩
  | _, _, .ob h h2 r => .ob h h2 r
  | _, _, .rf a => .rf a
  | _, _, .scr h => .scr h
  | _, _, .ty n => .ty n
def allD {κ : Type} : List (κ × W) → Option (List (κ × D))
  | [] => some []
  | (k, .d x) :: r => (allD r).map ((k, x) :: ·)
  | (_, .loc _) :: _ => none
def rd (L : LH) : W → Option D
  | .d x => some x
  | .loc n => match L[n]? with
    | some (.frz x) => some x
    | some (.lst xs) => some (.lst xs)
    | some (.dic kvs) => (allD kvs).map .dct
    | _ => none
theorem RWf.rdk {K : PySem.W.Frag} {I : Hp} {μ : List Addr} : ∀ {kvs : List (Key × W)} {kv : List (Key × V)} {ks : List (Key × D)}, RWf K I μ kvs kv → allD kvs = some ks → RDk K I ks kv
  | _, _, _, .nil, h => by simp [allD] at h; subst h; exact .nil
  | _, _, _, .cons (x := .d x) (.d r) t, h => by
    simp only [allD, Option.map_eq_some_iff] at h
    obtain ⟨y, h1, rfl⟩ := h
    exact .cons r (RWf.rdk t h1)
  | _, _, _, .cons (x := .loc n) _ _, h => by simp [allD] at h
theorem HR.rd {K : PySem.W.Frag} {I H : Hp} {μ : List Addr} {L : LH} (hr : HR K I μ L H) {w : W} {v : V} {x : D} (r : RW K I μ w v) (h : MP.rd L w = some x) : RR K I H x v := by
  cases r with
  | d r => simp only [MP.rd, Option.some.injEq] at h; subst h; exact r.rr hr.sub
  | loc q =>
    simp only [MP.rd] at h
    split at h
    · rename_i y e
      cases h
      exact (show RD K I x (.ref _) from hr.obj _ _ _ q e).rr hr.sub
    · rename_i y e
      cases h
      obtain ⟨_, vs, h1, h2⟩ := hr.obj _ _ _ q e
      exact ⟨_, vs, rfl, h1, h2⟩
    · rename_i kvs e
      rw [Option.map_eq_some_iff] at h
      obtain ⟨ks, h0, rfl⟩ := h
      obtain ⟨_, kv, h1, h2⟩ := hr.obj _ _ _ q e
      exact ⟨_, kv, rfl, h1, h2.rdk h0⟩
    · cases h

/-! ### new objects -/
inductive Grow : Hp → Hp → Hp → Hp → Prop
  | refl {I H : Hp} : Grow I H I H
  | step {I H I1 H1 : Hp} {p : Addr} {o : HO} : Grow I H I1 H1 → H1 p = none → Grow I H (upd I1 p o) (upd H1 p o)
theorem same_upd {H : Hp} {p : Addr} {o : HO} (h : H p = none) : Same H (upd H p o) := fun b x e => by
  rw [upd_ne (ne_of_none e h)]; exact e
theorem Same.none_of {I H : Hp} (s : Same I H) {p : Addr} (h : H p = none) : I p = none := s.free h
theorem LOk.mono {K : PySem.W.Frag} {I I' H H' : Hp} {μ μ' : List Addr} {p : Addr} (e : Ext I μ I' μ') (k : H' p = H p) (ki : (∀ a, H p ≠ some (.own a)) → I p = none → I' p = none) (ko : ∀ dx, H dx = some (.own p) → H' dx = some (.own p)) : ∀ {o : LO}, LOk K I μ H p o → LOk K I' μ' H' p o
  | .lst _, ⟨a, vs, b, c⟩ => ⟨ki (fun _ z => by rw [b] at z; cases z) a, vs, k.trans b, c.mono e.1⟩
  | .dic _, ⟨a, vs, b, c⟩ => ⟨ki (fun _ z => by rw [b] at z; cases z) a, vs, k.trans b, c.mono e⟩
  | .ins _ _, ⟨a, dx, vs, b, b2, c⟩ => ⟨ki (fun _ z => by rw [b] at z; cases z) a, dx, vs, k.trans b, ko dx b2, c.mono e⟩
  | .frz _, h => RD.mono e.1 h
theorem HR.step {K : PySem.W.Frag} {I H : Hp} {μ : List Addr} {L : LH} (hr : HR K I μ L H) {p : Addr} (o : HO) (hp : H p = none) : HR K (upd I p o) μ L (upd H p o) where
  sub := fun b x e => by
    by_cases h : b = p
    · subst h; rw [upd_same] at e ⊢; exact e
    · rw [upd_ne h] at e ⊢; exact hr.sub b x e
  len := hr.len
  nd := hr.nd
  there := fun q hq => by
    by_cases h : q = p
    · subst h; exact ⟨o, upd_same⟩
    · rw [upd_ne h]; exact hr.there q hq
  obj := fun n q l h1 h2 => by
    obtain ⟨ob, hob⟩ := hr.there q (List.mem_of_getElem? h1)
    have hne : q ≠ p := fun z => by rw [z, hp] at hob; cases hob
    exact (hr.obj n q l h1 h2).mono (Ext.of μ (same_upd (hr.sub.free hp))) (upd_ne hne) (fun _ z => by rw [upd_ne hne]; exact z) fun dx z => by
      rw [upd_ne (ne_of_none z hp)]; exact z
  wf := hr.wf
theorem Grow.hr {K : PySem.W.Frag} {I H I' H' : Hp} (g : Grow I H I' H') {μ : List Addr} {L : LH} (hr : HR K I μ L H) : HR K I' μ L H' := by
  induction g with
  | refl => exact hr
  | step g hp ih => exact ih.step _ hp
theorem Grow.same {I H I' H' : Hp} (g : Grow I H I' H') (s : Same I H) : Same I I' ∧ Same H H' ∧ Same I' H' := by
  induction g with
  | refl => exact ⟨Same.refl _, Same.refl _, s⟩
  | step g hp ih =>
    obtain ⟨a, b, c⟩ := ih
    refine ⟨a.trans (same_upd (c.free hp)), b.trans (same_upd hp), fun x y e => ?_⟩
    rename_i p o
    by_cases h : x = p
    · subst h; rw [upd_same] at e ⊢; exact e
    · rw [upd_ne h] at e ⊢; exact c x y e
theorem Grow.one {I H : Hp} {p : Addr} (o : HO) (h : H p = none) : Grow I H (upd I p o) (upd H p o) := .step .refl h

def pureD (L : LH) : Option D → Res W
  | some z => .ok (.d z) L
  | none => .bad
theorem Post.pure {K : PySem.W.Frag} {X : WX} {σ : L2.St} {I H : Hp} {μ : List Addr} {L : LH} {z : D} {Q : VK} (h : Post (relW K) K X σ I μ (.ok (.d z) L) Q) (hr : HR K I μ L H) :
    ∀ I' H' v', Grow I H I' H' → RD K I' z v' → Q v' H' := fun I' H' v' g r =>
  h I' μ v' H' (Ext.of μ (g.same hr.sub).1) (g.hr hr) (.d r)

/-! ### names, constants -/
def mVar (i : Nat) : EM := fun env L => match env[i]? with
  | some (some w) => .ok w L
  | _ => .bad
def mD (x : D) : EM := fun _ L => .ok (.d x) L
section
variable {X : Cx} {Wx : WX}
theorem re_var (i : Nat) {x : Str} {pos : Pos} (hN : X.N[i]? = some x := by rfl) (hv : Vis X.env.scope x := by first | exact Or.inl rfl | exact Or.inr (Or.inl rfl) | exact Or.inr (Or.inr rfl)) (hd : (x == ("__debug__" : Str)) = false := by decide)
    (hcd : (x == ("__classdict__" : Str)) = false := by decide) : RE X Wx (.Name x pos) (mVar i) := by
  refine (pe_var hN hv hd hcd).imp fun σ H Q ⟨env, L, I, μ, er, hr, h⟩ => ?_
  simp only [mVar] at h
  split at h
  · rename_i w e
    obtain ⟨v, h1, h2⟩ := er.2 i w e
    exact ⟨v, h1, h I μ v H (Ext.refl I μ) hr h2⟩
  · exact h.elim
theorem re_const {e : Expr} {x : D} {v : V} (h : PE X e (tC v)) (r : ∀ I, RD X.K I x v) : RE X Wx e (mD x) := by
  refine h.imp fun σ H Q ⟨env, L, I, μ, er, hr, h⟩ => ?_
  exact h I μ v H (Ext.refl I μ) hr (.d (r I))
theorem re_int {i j pos} : RE X Wx (.Constant (.int i) j pos) (mD (.int i)) := re_const pe_int fun _ => .int i
theorem re_bl {b j pos} : RE X Wx (.Constant (.bool b) j pos) (mD (.bl b)) := re_const pe_bl fun _ => .bl b
theorem re_non {j pos} : RE X Wx (.Constant .none j pos) (mD .non) := re_const pe_non fun _ => .non
theorem re_str {x j pos} : RE X Wx (.Constant (.str x) j pos) (mD (.str x)) := re_const pe_str fun _ => .str x

/-! ### operations of two values -/
def m2 (f : D → D → Option D) (a b : EM) : EM := fun env L => (a env L).bind fun x L1 => (b env L1).bind fun y L2 => pureD L2 ((rd L2 x).bind fun x => (rd L2 y).bind fun y => f x y)
/-- f is what the rule r computes -/
def Op2 (K : PySem.W.Frag) (f : D → D → Option D) (r : R2) : Prop := ∀ (I H : Hp) (x y z : D) (v u : V) (Q : VK), Same I H → f x y = some z → RR K I H x v → RR K I H y u → (∀ I' H' v', Grow I H I' H' → RD K I' z v' → Q v' H') → r v u H Q
theorem t_op2 {r : R2} {f : D → D → Option D} (hs : Op2 X.K f r) {m1 m2 : EM} {σ : L2.St} {H : Hp} {Q : VK} (h : T X.K Wx (MP.m2 f m1 m2) σ H Q) : tOp r (T X.K Wx m1) (T X.K Wx m2) σ H Q := by
  obtain ⟨env, L, I, μ, er, hr, h⟩ := h
  refine (TG.seq er hr h).imp fun v1 H1 ⟨L1, I1, μ1, w1, e1, er1, hr1, r1, h1⟩ => ?_
  refine (TG.seq er1 hr1 h1).imp fun v2 H2 ⟨L2, I2, μ2, w2, e2, er2, hr2, r2, h2⟩ => ?_
  cases ex : rd L2 w1 with
  | none => rw [ex] at h2; exact h2.elim
  | some x =>
    cases ey : rd L2 w2 with
    | none => rw [ex, ey] at h2; exact h2.elim
    | some y =>
      rw [ex, ey] at h2
      simp only [Option.bind_some] at h2
      cases ez : f x y with
      | none => rw [ez] at h2; exact h2.elim
      | some z =>
        rw [ez] at h2
        exact hs I2 H2 x y z v1 v2 Q hr2.sub ez (hr2.rd (r1.mono e2) ex) (hr2.rd r2 ey) (Post.pure h2 hr2)
theorem re_op {op : Operator} {r : R2} {f : D → D → Option D} {a b : Expr} {m1 m2 : EM} {pos : Pos} (ho : OpR X (binaryOp op) r) (hs : Op2 X.K f r) (ha : RE X Wx a m1) (hb : RE X Wx b m2) : RE X Wx (.BinOp a op b pos) (MP.m2 f m1 m2) :=
  (pe_op ho ha hb).imp fun _ _ _ h => t_op2 hs h
theorem re_cmp {op : CmpOp} {r : R2} {f : D → D → Option D} {a b : Expr} {m1 m2 : EM} {pos : Pos} (ho : OpR X (compareOp op) r) (hs : Op2 X.K f r) (ha : RE X Wx a m1) (hb : RE X Wx b m2) (hm : behindInMarks op b = false) : RE X Wx (.Compare a [op] [b] pos) (MP.m2 f m1 m2) :=
  (pe_cmpR ho ha hb hm).imp fun _ _ _ h => t_op2 hs h
end
end MP
namespace MP
open PySem PySem.Spec PyProof.Rows L2

section
variable {K : PySem.W.Frag} {I I' H : Hp}
theorem RDs.length : ∀ {xs : List D} {vs : List V}, RDs K I xs vs → xs.length = vs.length
  | _, _, .nil => rfl
  | _, _, .cons _ t => congrArg (· + 1) t.length
theorem RDs.append : ∀ {xs ys : List D} {vs us : List V}, RDs K I xs vs → RDs K I ys us → RDs K I (xs ++ ys) (vs ++ us)
  | _, _, _, _, .nil, s => s
  | _, _, _, _, .cons r t, s => .cons r (t.append s)
theorem RDs.get : ∀ {xs : List D} {vs : List V} {i : Nat} {x : D}, RDs K I xs vs → xs[i]? = some x → ∃ v, vs[i]? = some v ∧ RD K I x v
  | _, _, _, _, .nil, e => by simp at e
  | _, _, 0, _, .cons r _, e => by simp at e; subst e; exact ⟨_, rfl, r⟩
  | _, _, i + 1, _, .cons _ t, e => by
    obtain ⟨u, h1, h2⟩ := RDs.get (i := i) t (by simpa using e)
    exact ⟨u, by simpa using h1, h2⟩
theorem RDs.take : ∀ {xs : List D} {vs : List V} (n : Nat), RDs K I xs vs → RDs K I (xs.take n) (vs.take n)
  | _, _, 0, _ => .nil
  | _, _, _ + 1, .nil => .nil
  | _, _, n + 1, .cons r t => .cons r (t.take n)
theorem RDs.drop : ∀ {xs : List D} {vs : List V} (n : Nat), RDs K I xs vs → RDs K I (xs.drop n) (vs.drop n)
  | _, _, 0, r => r
  | _, _, _ + 1, .nil => .nil
  | _, _, n + 1, .cons _ t => RDs.drop n t
theorem RDs.set {x : D} {v : V} (r : RD K I x v) : ∀ {xs : List D} {vs : List V} (i : Nat), RDs K I xs vs → RDs K I (xs.set i x) (vs.set i v)
  | _, _, _, .nil => .nil
  | _, _, 0, .cons _ t => .cons r t
  | _, _, i + 1, .cons q t => .cons q (t.set r i)
theorem RDs.dropLast : ∀ {xs : List D} {vs : List V}, RDs K I xs vs → RDs K I xs.dropLast vs.dropLast
  | _, _, .nil => .nil
  | _, _, .cons _ .nil => .nil
  | _, _, .cons r (.cons q t) => .cons r (RDs.dropLast (.cons q t))
theorem RDs.eraseIdx : ∀ {xs : List D} {vs : List V} (i : Nat), RDs K I xs vs → RDs K I (xs.eraseIdx i) (vs.eraseIdx i)
  | _, _, _, .nil => .nil
  | _, _, 0, .cons _ t => t
  | _, _, i + 1, .cons r t => .cons r (t.eraseIdx i)
theorem RDs.rep {xs : List D} {vs : List V} (h : RDs K I xs vs) : ∀ k : Nat, RDs K I (List.replicate k xs).flatten (List.replicate k vs).flatten
  | 0 => .nil
  | k + 1 => by simpa [List.replicate_succ] using h.append (h.rep k)
theorem RDs.reverse : ∀ {xs : List D} {vs : List V}, RDs K I xs vs → RDs K I xs.reverse vs.reverse
  | _, _, .nil => .nil
  | _, _, .cons r t => by simpa using (RDs.reverse t).append (.cons r .nil)
theorem RDs.ne_nil {xs : List D} {vs : List V} (h : RDs K I xs vs) (e : xs ≠ []) : vs ≠ [] := fun z => by
  have := h.length; rw [z] at this; exact e (List.length_eq_zero_iff.mp this)
theorem RDs.eq_nil {xs : List D} {vs : List V} (h : RDs K I xs vs) (e : xs = []) : vs = [] := by
  have := h.length; rw [e] at this; exact List.length_eq_zero_iff.mp this.symm
theorem RDs.nil_of {xs : List D} {vs : List V} (h : RDs K I xs vs) (e : vs = []) : xs = [] := by
  have := h.length; rw [e] at this; exact List.length_eq_zero_iff.mp this
theorem RDs.ints : ∀ (ns : List Int), RDs K I (ns.map D.int) (ns.map V.int)
  | [] => .nil
  | n :: r => .cons (.int n) (RDs.ints r)
theorem RDs.ints_of : ∀ {ns : List Int} {vs : List V}, RDs K I (ns.map D.int) vs → vs = ns.map V.int
  | [], _, .nil => rfl
  | _ :: _, _, .cons (.int _) t => by rw [RDs.ints_of t]; rfl
theorem RDs.strs_of : ∀ {ns : List Str} {vs : List V}, RDs K I (ns.map D.str) vs → vs = ns.map V.str
  | [], _, .nil => rfl
  | _ :: _, _, .cons (.str _) t => by rw [RDs.strs_of t]; rfl
theorem RDs.bls_of : ∀ {ns : List Bool} {vs : List V}, RDs K I (ns.map D.bl) vs → vs = ns.map V.bl
  | [], _, .nil => rfl
  | _ :: _, _, .cons (.bl _) t => by rw [RDs.bls_of t]; rfl
end
def cutD (xs : List D) (lo hi : Option Int) : List D := (xs.drop (HT.sIx xs.length 0 lo)).take (HT.sIx xs.length xs.length hi - HT.sIx xs.length 0 lo)
theorem RDs.cut {K : PySem.W.Frag} {I : Hp} {xs : List D} {vs : List V} (h : RDs K I xs vs) (lo hi : Option Int) : RDs K I (cutD xs lo hi) (cutV vs lo hi) := by
  unfold cutD cutV
  rw [h.length]
  exact (h.drop _).take _
/-- all ints, all bools -/
def intsD : List D → Option (List Int)
  | [] => some []
  | .int i :: r => (intsD r).map (i :: ·)
  | _ => none
def bls : List D → Option (List Bool)
  | [] => some []
  | .bl i :: r => (bls r).map (i :: ·)
  | _ => none
def strs' : List D → Option (List Str)
  | [] => some []
  | .str i :: r => (strs' r).map (i :: ·)
  | _ => none
theorem intsD_map : ∀ {xs : List D} {ns : List Int}, intsD xs = some ns → xs = ns.map D.int
  | [], _, h => by simp [intsD] at h; subst h; rfl
  | .int i :: r, _, h => by
    simp only [intsD, Option.map_eq_some_iff] at h
    obtain ⟨y, h1, rfl⟩ := h
    rw [intsD_map h1]; rfl
  | .non :: _, _, h => by simp [intsD] at h
  | .bl _ :: _, _, h => by simp [intsD] at h
  | .str _ :: _, _, h => by simp [intsD] at h
  | .tup _ :: _, _, h => by simp [intsD] at h
  | .lst _ :: _, _, h => by simp [intsD] at h
  | .dct _ :: _, _, h => by simp [intsD] at h
  | .ob _ _ :: _, _, h => by simp [intsD] at h
  | .rf _ :: _, _, h => by simp [intsD] at h
  | .scr _ :: _, _, h => by simp [intsD] at h
  | .ty _ :: _, _, h => by simp [intsD] at h
theorem bls_map : ∀ {xs : List D} {ns : List Bool}, bls xs = some ns → xs = ns.map D.bl
  | [], _, h => by simp [bls] at h; subst h; rfl
  | .bl i :: r, _, h => by
    simp only [bls, Option.map_eq_some_iff] at h
    obtain ⟨y, h1, rfl⟩ := h
    rw [bls_map h1]; rfl
  | .non :: _, _, h => by simp [bls] at h
  | .int _ :: _, _, h => by simp [bls] at h
  | .str _ :: _, _, h => by simp [bls] at h
  | .tup _ :: _, _, h => by simp [bls] at h
  | .lst _ :: _, _, h => by simp [bls] at h
  | .dct _ :: _, _, h => by simp [bls] at h
  | .ob _ _ :: _, _, h => by simp [bls] at h
  | .rf _ :: _, _, h => by simp [bls] at h
  | .scr _ :: _, _, h => by simp [bls] at h
  | .ty _ :: _, _, h => by simp [bls] at h
theorem intsD_of_map : ∀ ns : List Int, intsD (ns.map D.int) = some ns
  | [] => rfl
  | n :: r => by simp [intsD, intsD_of_map r]
theorem bls_of_map : ∀ ns : List Bool, bls (ns.map D.bl) = some ns
  | [] => rfl
  | n :: r => by simp [bls, bls_of_map r]

/-! ### the operators -/
def addD : D → D → Option D
  | .int i, .int j => some (.int (i + j))
  | .str x, .str y => if x.length + y.length ≤ sizeLine then some (.str (x ++ y)) else none
  | .tup xs, .tup ys => if xs.length + ys.length ≤ sizeLine then some (.tup (xs ++ ys)) else none
  | .lst xs, .lst ys => if xs.length + ys.length ≤ sizeLine then some (.lst (xs ++ ys)) else none
  | _, _ => none
def subD : D → D → Option D
  | .int i, .int j => some (.int (i - j))
  | _, _ => none
def mulD : D → D → Option D
  | .int i, .int j => if i.natAbs.log2 + j.natAbs.log2 < 1000000 then some (.int (i * j)) else none
  | .lst xs, .int k => if -(2 ^ 63) ≤ k ∧ k < 2 ^ 63 ∧ xs.length * k.toNat ≤ sizeLine then some (.lst (List.replicate k.toNat xs).flatten) else none
  | .tup xs, .int k => if xs ≠ [] ∧ 2 ≤ k ∧ k ≤ 1000 ∧ xs.length ≤ 1000 then some (.tup (List.replicate k.toNat xs).flatten) else none
  | _, _ => none
def fdivD : D → D → Option D
  | .int i, .int j => if 0 < j ∧ j.natAbs.log2 < 9000 then some (.int (i / j)) else none
  | _, _ => none
def modD : D → D → Option D
  | .int i, .int j => if 0 < j then some (.int (i % j)) else none
  | _, _ => none
def ltD : D → D → Option D
  | .int i, .int j => some (.bl (decide (i < j)))
  | .tup xs, .tup ys => (intsD xs).bind fun a => (intsD ys).bind fun b => some (.bl (HT.lexLt a b))
  | _, _ => none
def leD : D → D → Option D
  | .int i, .int j => some (.bl (decide (i ≤ j)))
  | _, _ => none
def gtD : D → D → Option D
  | .int i, .int j => some (.bl (decide (j < i)))
  | _, _ => none
def geD : D → D → Option D
  | .int i, .int j => some (.bl (decide (j ≤ i)))
  | _, _ => none
section
variable {X : Cx} {Wx : WX} {a b : Expr} {ma mb : EM} {pos : Pos}
theorem s_int {K : PySem.W.Frag} {g : Int → Int → Int} {C : Int → Int → Prop} [∀ i j, Decidable (C i j)] : Op2 K (fun x y => match x, y with | .int i, .int j => if C i j then some (.int (g i j)) else none | _, _ => none) (rI C fun i j => .int (g i j)) := by
  intro I H x y z v u Q s e rx ry q
  dsimp only at e
  split at e
  · rename_i i j
    cases (rx : RD _ _ _ _)
    cases (ry : RD _ _ _ _)
    split at e
    · rename_i c
      cases e
      exact ⟨i, j, rfl, rfl, c, q _ _ _ .refl (.int _)⟩
    · cases e
  · cases e
abbrev rAddAll (K : PySem.W.Frag) : R2 := fun x y H Q => rI0 (fun i j => .int (i + j)) x y H Q ∨ (∃ i j, x = .str i ∧ y = .str j ∧ i.length + j.length ≤ sizeLine ∧ Q (.str (i ++ j)) H) ∨ rCatA K x y H Q ∨ rCat x y H Q
theorem o_add : OpR X (binaryOp .Add) (rAddAll X.K) := op_add.or (op_add_str.or (op_catA.or op_cat))
theorem s_add {K : PySem.W.Frag} : Op2 K addD (rAddAll K) := by
  intro I H x y z v u Q s e rx ry q
  unfold addD at e
  split at e
  · rename_i i j
    cases (rx : RD _ _ _ _)
    cases (ry : RD _ _ _ _)
    cases e
    exact .inl ⟨i, j, rfl, rfl, q _ _ _ .refl (.int _)⟩
  · rename_i i j
    cases (rx : RD _ _ _ _)
    cases (ry : RD _ _ _ _)
    split at e
    · rename_i c
      cases e
      exact .inr (.inl ⟨i, j, rfl, rfl, c, q _ _ _ .refl (.str _)⟩)
    · cases e
  · rename_i xs ys
    cases (rx : RD _ _ _ _) with | tup hp rp =>
    cases (ry : RD _ _ _ _) with | tup hp' rp' =>
    split at e
    · rename_i c
      cases e
      refine .inr (.inr (.inl ⟨_, _, _, _, rfl, rfl, sqT_mono s hp, sqT_mono s hp', by rw [← rp.length, ← rp'.length]; exact c, fun e0 => ?_, fun e0 e1 => ?_, fun e0 e1 t ht => ?_⟩))
      · rw [rp.nil_of e0, List.nil_append] at q
        exact q _ _ _ .refl (.tup hp' rp')
      · rw [rp'.nil_of e1, List.append_nil] at q
        exact q _ _ _ .refl (.tup hp rp)
      · exact q _ _ _ (.one _ ht) (.tup (.of upd_same) ((rp.append rp').mono (same_upd (s.free ht))))
    · cases e
  · rename_i xs ys
    obtain ⟨p, vs, rfl, hp, rp⟩ := rx
    obtain ⟨p', us, rfl, hp', rp'⟩ := ry
    split at e
    · rename_i c
      cases e
      exact .inr (.inr (.inr ⟨p, p', vs, us, rfl, rfl, hp, hp', by rw [← rp.length, ← rp'.length]; exact c, fun t ht => q _ _ _ (.one _ ht) (.lst upd_same ((rp.append rp').mono (same_upd (s.free ht))))⟩))
    · cases e
  · cases e
end
end MP
namespace MP
open PySem PySem.Spec PyProof.Rows L2
section
variable {X : Cx} {Wx : WX} {a b c : Expr} {ma mb mc : EM} {pos : Pos}
theorem re_add (ha : RE X Wx a ma) (hb : RE X Wx b mb) : RE X Wx (.BinOp a .Add b pos) (m2 addD ma mb) := re_op o_add s_add ha hb

theorem s_sub {K : PySem.W.Frag} : Op2 K subD (rI0 fun i j => .int (i - j)) := by
  intro I H x y z v u Q s e rx ry q
  unfold subD at e
  split at e
  · cases (rx : RD _ _ _ _)
    cases (ry : RD _ _ _ _)
    cases e
    exact ⟨_, _, rfl, rfl, q _ _ _ .refl (.int _)⟩
  · cases e
theorem re_sub (ha : RE X Wx a ma) (hb : RE X Wx b mb) : RE X Wx (.BinOp a .Sub b pos) (m2 subD ma mb) := re_op op_sub s_sub ha hb
abbrev rMulAll (K : PySem.W.Frag) : R2 := fun x y H Q => rI CMulW (fun i j => .int (i * j)) x y H Q ∨ rRep x y H Q ∨ rRepT K x y H Q
theorem o_mul : OpR X (binaryOp .Mult) (rMulAll X.K) := op_mulW.or (op_rep.or op_repT)
theorem s_mul {K : PySem.W.Frag} : Op2 K mulD (rMulAll K) := by
  intro I H x y z v u Q s e rx ry q
  unfold mulD at e
  split at e
  · cases (rx : RD _ _ _ _)
    cases (ry : RD _ _ _ _)
    split at e
    · rename_i c
      cases e
      exact .inl ⟨_, _, rfl, rfl, c, q _ _ _ .refl (.int _)⟩
    · cases e
  · obtain ⟨p, vs, rfl, hp, rp⟩ := rx
    cases (ry : RD _ _ _ _)
    split at e
    · rename_i c
      cases e
      exact .inr (.inl ⟨p, _, vs, rfl, rfl, hp, c.1, c.2.1, by rw [← rp.length]; exact c.2.2, fun t ht => q _ _ _ (.one _ ht) (.lst upd_same ((rp.rep _).mono (same_upd (s.free ht))))⟩)
    · cases e
  · cases (rx : RD _ _ _ _) with | tup hp rp =>
    cases (ry : RD _ _ _ _)
    split at e
    · rename_i c
      cases e
      exact .inr (.inr ⟨_, _, _, rfl, rfl, sqT_mono s hp, rp.ne_nil c.1, c.2.1, c.2.2.1, by rw [← rp.length]; exact c.2.2.2, fun t ht => q _ _ _ (.one _ ht) (.tup (.of upd_same) ((rp.rep _).mono (same_upd (s.free ht))))⟩)
    · cases e
  · cases e
theorem re_mul (ha : RE X Wx a ma) (hb : RE X Wx b mb) : RE X Wx (.BinOp a .Mult b pos) (m2 mulD ma mb) := re_op o_mul s_mul ha hb
theorem s_fdiv {K : PySem.W.Frag} : Op2 K fdivD (rI CDivW fun i j => .int (i / j)) := by
  intro I H x y z v u Q s e rx ry q
  unfold fdivD at e
  split at e
  · cases (rx : RD _ _ _ _)
    cases (ry : RD _ _ _ _)
    split at e
    · rename_i c
      cases e
      exact ⟨_, _, rfl, rfl, c, q _ _ _ .refl (.int _)⟩
    · cases e
  · cases e
theorem re_fdiv (ha : RE X Wx a ma) (hb : RE X Wx b mb) : RE X Wx (.BinOp a .FloorDiv b pos) (m2 fdivD ma mb) := re_op op_fdivW s_fdiv ha hb
theorem s_mod {K : PySem.W.Frag} : Op2 K modD (rI (fun _ j => 0 < j) fun i j => .int (i % j)) := by
  intro I H x y z v u Q s e rx ry q
  unfold modD at e
  split at e
  · cases (rx : RD _ _ _ _)
    cases (ry : RD _ _ _ _)
    split at e
    · rename_i c
      cases e
      exact ⟨_, _, rfl, rfl, c, q _ _ _ .refl (.int _)⟩
    · cases e
  · cases e
theorem re_mod (ha : RE X Wx a ma) (hb : RE X Wx b mb) : RE X Wx (.BinOp a .Mod b pos) (m2 modD ma mb) := re_op op_mod s_mod ha hb

/-! comparisons -/
abbrev rLtAll (K : PySem.W.Frag) : R2 := fun x y H Q => rI0 (fun i j => .bl (decide (i < j))) x y H Q ∨ rLtT K x y H Q
theorem s_lt {K : PySem.W.Frag} : Op2 K ltD (rLtAll K) := by
  intro I H x y z v u Q s e rx ry q
  unfold ltD at e
  split at e
  · cases (rx : RD _ _ _ _)
    cases (ry : RD _ _ _ _)
    cases e
    exact .inl ⟨_, _, rfl, rfl, q _ _ _ .refl (.bl _)⟩
  · cases (rx : RD _ _ _ _) with | tup hp rp =>
    cases (ry : RD _ _ _ _) with | tup hp' rp' =>
    rename_i xs ys _ _ _ _
    cases ex : intsD xs with
    | none => rw [ex] at e; cases e
    | some ns =>
      cases ey : intsD ys with
      | none => rw [ex, ey] at e; cases e
      | some ms =>
        rw [ex, ey] at e
        cases e
        rw [intsD_map ex] at rp
        rw [intsD_map ey] at rp'
        have h1 := rp.ints_of
        have h2 := rp'.ints_of
        subst h1 h2
        exact .inr ⟨_, _, ns, ms, rfl, rfl, sqT_mono s hp, sqT_mono s hp', q _ _ _ .refl (.bl _)⟩
  · cases e
theorem s_cmpI {K : PySem.W.Frag} {f : D → D → Option D} {g : Int → Int → Bool} (hf : ∀ x y z, f x y = some z → ∃ i j, x = .int i ∧ y = .int j ∧ z = .bl (g i j)) : Op2 K f (rI0 fun i j => .bl (g i j)) := by
  intro I H x y z v u Q s e rx ry q
  obtain ⟨i, j, rfl, rfl, rfl⟩ := hf _ _ _ e
  cases (rx : RD _ _ _ _)
  cases (ry : RD _ _ _ _)
  exact ⟨_, _, rfl, rfl, q _ _ _ .refl (.bl _)⟩
theorem re_lt (hu : X.A.units < cLine) (ha : RE X Wx a ma) (hb : RE X Wx b mb) : RE X Wx (.Compare a [.Lt] [b] pos) (m2 ltD ma mb) := re_cmp (op_lt.or (op_ltT hu)) s_lt ha hb (nomark _)
theorem re_le (ha : RE X Wx a ma) (hb : RE X Wx b mb) : RE X Wx (.Compare a [.LtE] [b] pos) (m2 leD ma mb) :=
  re_cmp op_le (s_cmpI fun x y z h => by unfold leD at h; split at h; cases h; exact ⟨_, _, rfl, rfl, rfl⟩; cases h) ha hb (nomark _)
theorem re_gt (ha : RE X Wx a ma) (hb : RE X Wx b mb) : RE X Wx (.Compare a [.Gt] [b] pos) (m2 gtD ma mb) :=
  re_cmp op_gt (s_cmpI fun x y z h => by unfold gtD at h; split at h; cases h; exact ⟨_, _, rfl, rfl, rfl⟩; cases h) ha hb (nomark _)
theorem re_ge (ha : RE X Wx a ma) (hb : RE X Wx b mb) : RE X Wx (.Compare a [.GtE] [b] pos) (m2 geD ma mb) :=
  re_cmp op_ge (s_cmpI fun x y z h => by unfold geD at h; split at h; cases h; exact ⟨_, _, rfl, rfl, rfl⟩; cases h) ha hb (nomark _)

/-! == of data -/
mutual
def toP : D → Option PyData
  | .non => some .none
  | .bl b => some (.bool b)
  | .int i => some (.int i)
  | .str x => some (.str x)
  | .tup xs => (toPs xs).map .tuple
  | .lst xs => (toPs xs).map .list
  | .dct kvs => (toPk kvs).map .dict
  | .ob _ _ => none
  | .rf _ => none
  | .scr _ => none
  | .ty _ => none
def toPs : List D → Option (List PyData)
  | [] => some []
  | x :: r => (toP x).bind fun y => (toPs r).map (y :: ·)
def toPk : List (Key × D) → Option (List (PyData × PyData))
  | [] => some []
  | (k, x) :: r => (toP x).bind fun y => (toPk r).map (((match k with | .inl i => PyData.int i | .inr s => PyData.str s), y) :: ·)
end
mutual
def noDct : PyData → Bool
  | .none => true
  | .bool _ => true
  | .int _ => true
  | .str _ => true
  | .list xs => noDcts xs
  | .tuple xs => noDcts xs
  | .dict _ => false
def noDcts : List PyData → Bool
  | [] => true
  | x :: r => noDct x && noDcts r
end
mutual
theorem dp_of {K : PySem.W.Frag} {I H : Hp} (s : Same I H) : ∀ {x : D} {v : V} {p : PyData}, RD K I x v → toP x = some p → noDct p = true → Dp K H v p
  | _, _, _, .non, h, _ => by simp only [toP] at h; cases h; exact .non
  | _, _, _, .bl b, h, _ => by simp only [toP] at h; cases h; exact .bl b
  | _, _, _, .int i, h, _ => by simp only [toP] at h; cases h; exact .int i
  | _, _, _, .str x, h, _ => by simp only [toP] at h; cases h; exact .str x
  | .tup xs, _, _, .tup hp rp, h, n => by
    simp only [toP, Option.map_eq_some_iff] at h
    obtain ⟨ps, h1, rfl⟩ := h
    simp only [noDct] at n
    exact .tup (sqT_mono s hp) (dps_of s rp h1 n)
  | .lst xs, _, _, .lst hp rp, h, n => by
    simp only [toP, Option.map_eq_some_iff] at h
    obtain ⟨ps, h1, rfl⟩ := h
    simp only [noDct] at n
    exact .lst (.of (s _ _ hp)) (dps_of s rp h1 n)
  | .dct xs, _, _, .dct hp rp, h, n => by
    simp only [toP, Option.map_eq_some_iff] at h
    obtain ⟨ps, h1, rfl⟩ := h
    simp only [noDct] at n
    cases n
  | _, _, _, .ob _ _ _, h, _ => by simp [toP] at h
  | _, _, _, .rf _, h, _ => by simp [toP] at h
  | _, _, _, .scr _, h, _ => by simp [toP] at h
  | _, _, _, .ty _, h, _ => by simp [toP] at h
theorem dps_of {K : PySem.W.Frag} {I H : Hp} (s : Same I H) : ∀ {x : List D} {v : List V} {p : List PyData}, RDs K I x v → toPs x = some p → noDcts p = true → DpAll K H v p
  | _, _, _, .nil, h, _ => by simp only [toPs] at h; cases h; exact .nil
  | x :: xs, _, _, .cons r t, h, n => by
    simp only [toPs] at h
    cases e : toP x with
    | none => rw [e] at h; cases h
    | some y =>
      rw [e, Option.bind_some, Option.map_eq_some_iff] at h
      obtain ⟨ps, h1, rfl⟩ := h
      simp only [noDcts, Bool.and_eq_true] at n
      exact .cons (dp_of s r e n.1) (dps_of s t h1 n.2)
end
theorem rr_dp {K : PySem.W.Frag} {I H : Hp} (s : Same I H) {x : D} {v : V} {p : PyData} (r : RR K I H x v) (h : toP x = some p) (n : noDct p = true) : Dp K H v p := by
  cases x with
  | lst xs =>
    obtain ⟨a, vs, rfl, h1, h2⟩ := r
    simp only [toP, Option.map_eq_some_iff] at h
    obtain ⟨ps, h3, rfl⟩ := h
    simp only [noDct] at n
    exact .lst (.of h1) (dps_of s h2 h3 n)
  | dct xs =>
    simp only [toP, Option.map_eq_some_iff] at h
    obtain ⟨ps, h3, rfl⟩ := h
    simp only [noDct] at n
    cases n
  | non => exact dp_of s r h n
  | bl b => exact dp_of s r h n
  | int i => exact dp_of s r h n
  | str i => exact dp_of s r h n
  | tup i => exact dp_of s r h n
  | ob _ _ => exact dp_of s r h n
  | rf i => exact dp_of s r h n
  | scr i => exact dp_of s r h n
  | ty i => exact dp_of s r h n
def okP (p : PyData) : Bool := noDct p && SeqAt.shaped p
def eqG (x y : D) : Option D := (toP x).bind fun p => (toP y).bind fun q => if (okP p && okP q) = true then some (.bl (PyData.eqv p q)) else none
def neG (x y : D) : Option D := (toP x).bind fun p => (toP y).bind fun q => if (okP p && okP q) = true then some (.bl (!PyData.eqv p q)) else none
theorem s_eqG {K : PySem.W.Frag} : Op2 K eqG (rEqD K) := by
  intro I H x y z v u Q s e rx ry q
  unfold eqG at e
  cases ex : toP x with
  | none => rw [ex] at e; cases e
  | some p =>
    cases ey : toP y with
    | none => rw [ex, ey] at e; cases e
    | some p2 =>
      rw [ex, ey] at e
      simp only [Option.bind_some] at e
      split at e
      · rename_i c
        cases e
        simp only [okP, Bool.and_eq_true] at c
        exact ⟨p, p2, rr_dp s rx ex c.1.1, rr_dp s ry ey c.2.1, c.1.2, c.2.2, q _ _ _ .refl (.bl _)⟩
      · cases e
theorem s_neG {K : PySem.W.Frag} : Op2 K neG (rNeD K) := by
  intro I H x y z v u Q s e rx ry q
  unfold neG at e
  cases ex : toP x with
  | none => rw [ex] at e; cases e
  | some p =>
    cases ey : toP y with
    | none => rw [ex, ey] at e; cases e
    | some p2 =>
      rw [ex, ey] at e
      simp only [Option.bind_some] at e
      split at e
      · rename_i c
        cases e
        simp only [okP, Bool.and_eq_true] at c
        exact ⟨p, p2, rr_dp s rx ex c.1.1, rr_dp s ry ey c.2.1, c.1.2, c.2.2, q _ _ _ .refl (.bl _)⟩
      · cases e
/-- two texts, whatever their length; two lists of other lengths; any other data -/
def eqD (x y : D) : Option D := match x, y with
  | .str a, .str b => some (.bl (decide (a = b)))
  | .lst xs, .lst ys => if xs.length ≠ ys.length then some (.bl false) else eqG (.lst xs) (.lst ys)
  | .tup xs, .tup ys => if (xs.isEmpty || ys.isEmpty) = true then some (.bl (xs.isEmpty && ys.isEmpty)) else eqG (.tup xs) (.tup ys)
  | x, y => eqG x y
def neD (x y : D) : Option D := match x, y with
  | .str a, .str b => some (.bl (!decide (a = b)))
  | .lst xs, .lst ys => if xs.length ≠ ys.length then some (.bl true) else neG (.lst xs) (.lst ys)
  | .tup xs, .tup ys => if (xs.isEmpty || ys.isEmpty) = true then some (.bl (!(xs.isEmpty && ys.isEmpty))) else neG (.tup xs) (.tup ys)
  | x, y => neG x y
def rLens (r : Bool) : R2 := fun x y H Q => ∃ a b us ws, x = .ref a ∧ y = .ref b ∧ H a = some (.lst us) ∧ H b = some (.lst ws) ∧ us.length ≠ ws.length ∧ Q (.bl r) H
theorem op_eqLens (hu : X.A.units + 64 < cLine) : OpR X (compareOp .Eq) (rLens false) := by
  intro pins s σ H x y v u Q I rx ry ⟨a, b, us, ws, e1, e2, h1, h2, hn, q⟩
  subst e1
  subst e2
  cases rx
  cases ry
  obtain ⟨i1, n1, r1, g1, _⟩ := I.lst h1
  obtain ⟨i2, n2, r2, g2, _⟩ := I.lst h2
  have l1 := r1.length
  have l2 := r2.length
  refine SeqAt.eq_list_lengthsAt (items := i1.toArray) (items2 := i2.toArray) ⟨_, g1, rfl, _, rfl⟩ ⟨_, g2, rfl, _, rfl⟩ ?_ (by omega) ⟨.bl _, H, I, rfl, q⟩
  simp only [bne_iff_ne, ne_eq, List.size_toArray]
  omega
theorem op_neLens (hu : X.A.units + 64 < cLine) : OpR X (compareOp .NotEq) (rLens true) := by
  intro pins s σ H x y v u Q I rx ry ⟨a, b, us, ws, e1, e2, h1, h2, hn, q⟩
  subst e1
  subst e2
  cases rx
  cases ry
  obtain ⟨i1, n1, r1, g1, _⟩ := I.lst h1
  obtain ⟨i2, n2, r2, g2, _⟩ := I.lst h2
  have l1 := r1.length
  have l2 := r2.length
  refine SeqAt.RcNeAt.lists_lengths (items := i1.toArray) (items2 := i2.toArray) ⟨_, g1, rfl, _, rfl⟩ ⟨_, g2, rfl, _, rfl⟩ ?_ (by omega) _ _ _ _ ⟨.bl _, H, I, rfl, q⟩
  simp only [bne_iff_ne, ne_eq, List.size_toArray]
  omega
def rTupE (K : PySem.W.Frag) (f : Bool → Bool) : R2 := fun x y H Q => ∃ a b us ws, x = .ref a ∧ y = .ref b ∧ SqT K H a us ∧ SqT K H b ws ∧ (us = [] ∨ ws = []) ∧ Q (.bl (f (us.isEmpty && ws.isEmpty))) H
theorem emp_len {α : Type} {us : List α} {its : List Value} (h : us.length = its.length) : us.isEmpty = its.isEmpty := by
  cases us <;> cases its <;> simp at h ⊢
theorem op_eqTupE (hu : X.A.units + 64 < cLine) : OpR X (compareOp .Eq) (rTupE X.K id) := by
  intro pins s σ H x y v u Q I rx ry ⟨a, b, us, ws, e1, e2, h1, h2, hn, q⟩
  subst e1
  subst e2
  cases rx
  cases ry
  obtain ⟨i1, r1, ⟨o, g1, c1, n1, d1⟩, _⟩ := I.tuple h1
  obtain ⟨i2, r2, ⟨o2, g2, c2, n2, d2⟩, _⟩ := I.tuple h2
  have l1 := r1.length
  have l2 := r2.length
  have hz : i1.length = 0 ∨ i2.length = 0 := by
    rcases hn with rfl | rfl
    · left; simpa using l1.symm
    · right; simpa using l2.symm
  refine SeqAt.eq_tupleAt (items := i1.toArray) (items2 := i2.toArray) (e := fun _ => true) ⟨o, g1, c1, n1, d1⟩ ⟨o2, g2, c2, n2, d2⟩ (by omega) (fun j h1 h2 => ?_) ⟨.bl _, H, I, ?_, q⟩
  · simp only [List.size_toArray] at h1 h2
    omega
  · rw [emp_len l1, emp_len l2]
    show Value.bool _ = Value.bool _
    congr 1
    rw [List.size_toArray, List.size_toArray]
    rcases hz with h | h
    · have : i1 = [] := List.length_eq_zero_iff.mp h
      subst this
      cases i2 <;> simp
    · have : i2 = [] := List.length_eq_zero_iff.mp h
      subst this
      cases i1 <;> simp
theorem op_neTupE (hu : X.A.units + 64 < cLine) : OpR X (compareOp .NotEq) (rTupE X.K not) := by
  intro pins s σ H x y v u Q I rx ry ⟨a, b, us, ws, e1, e2, h1, h2, hn, q⟩
  subst e1
  subst e2
  cases rx
  cases ry
  obtain ⟨i1, r1, ⟨o, g1, c1, n1, d1⟩, _⟩ := I.tuple h1
  obtain ⟨i2, r2, ⟨o2, g2, c2, n2, d2⟩, _⟩ := I.tuple h2
  have l1 := r1.length
  have l2 := r2.length
  have hz : i1.length = 0 ∨ i2.length = 0 := by
    rcases hn with rfl | rfl
    · left; simpa using l1.symm
    · right; simpa using l2.symm
  refine SeqAt.RcNeAt.tuples (items := i1.toArray) (items2 := i2.toArray) (e := fun _ => true) ⟨o, g1, c1, n1, d1⟩ ⟨o2, g2, c2, n2, d2⟩ (by omega) (fun j h1 h2 => ?_) _ _ _ _ ⟨.bl _, H, I, ?_, q⟩
  · simp only [List.size_toArray] at h1 h2
    omega
  · rw [emp_len l1, emp_len l2]
    show Value.bool _ = Value.bool _
    congr 1
    rw [List.size_toArray, List.size_toArray]
    rcases hz with h | h
    · have : i1 = [] := List.length_eq_zero_iff.mp h
      subst this
      cases i2 <;> simp
    · have : i2 = [] := List.length_eq_zero_iff.mp h
      subst this
      cases i1 <;> simp
theorem s_tupE {K : PySem.W.Frag} {I H : Hp} {xs ys : List D} {v u : V} {Q : VK} {f : Bool → Bool} (s : Same I H) (rx : RR K I H (.tup xs) v) (ry : RR K I H (.tup ys) u) (hn : (xs.isEmpty || ys.isEmpty) = true) (q : ∀ I' H' v', Grow I H I' H' → RD K I' (.bl (f (xs.isEmpty && ys.isEmpty))) v' → Q v' H') : rTupE K f v u H Q := by
  cases (rx : RD _ _ _ _) with | tup hp rp =>
  cases (ry : RD _ _ _ _) with | tup hp2 rp2 =>
  rename_i a us b ws
  have e : ∀ {zs : List D} {ts : List V}, RDs K I zs ts → zs.isEmpty = ts.isEmpty := fun r => by cases r <;> rfl
  refine ⟨_, _, _, _, rfl, rfl, sqT_mono s hp, sqT_mono s hp2, ?_, ?_⟩
  · rw [e rp, e rp2, Bool.or_eq_true] at hn
    exact hn.imp (fun h => List.isEmpty_iff.mp h) (fun h => List.isEmpty_iff.mp h)
  · rw [← e rp, ← e rp2]
    exact q _ _ _ .refl (.bl _)
abbrev rEqAll (K : PySem.W.Frag) : R2 := fun x y H Q => ((rEqD K x y H Q ∨ rLens false x y H Q) ∨ rTupE K id x y H Q) ∨ rEq x y H Q
abbrev rNeAll (K : PySem.W.Frag) : R2 := fun x y H Q => ((rNeD K x y H Q ∨ rLens true x y H Q) ∨ rTupE K not x y H Q) ∨ rNe x y H Q
theorem s_lens {K : PySem.W.Frag} {I H : Hp} {xs ys : List D} {v u : V} {Q : VK} {r : Bool} (rx : RR K I H (.lst xs) v) (ry : RR K I H (.lst ys) u) (hn : xs.length ≠ ys.length) (q : ∀ I' H' v', Grow I H I' H' → RD K I' (.bl r) v' → Q v' H') : rLens r v u H Q := by
  obtain ⟨a, us, rfl, h1, r1⟩ := rx
  obtain ⟨b, ws, rfl, h2, r2⟩ := ry
  exact ⟨a, b, us, ws, rfl, rfl, h1, h2, by rw [← r1.length, ← r2.length]; exact hn, q _ _ _ .refl (.bl _)⟩
theorem s_eq {K : PySem.W.Frag} : Op2 K eqD (rEqAll K) := by
  intro I H x y z v u Q s e rx ry q
  unfold eqD at e
  split at e
  · cases (rx : RD _ _ _ _)
    cases (ry : RD _ _ _ _)
    cases e
    refine .inr ⟨rfl, ?_⟩
    rename_i a b
    have h : decide (V.str a = V.str b) = decide (a = b) := decide_eq_decide.mpr ⟨fun h => V.str.inj h, fun h => by rw [h]⟩
    rw [h]
    exact q _ _ _ .refl (.bl _)
  · split at e
    · rename_i hn
      cases e
      exact .inl (.inl (.inr (s_lens rx ry hn q)))
    · exact .inl (.inl (.inl (s_eqG I H _ _ z v u Q s e rx ry q)))
  · split at e
    · rename_i hn
      cases e
      exact .inl (.inr (s_tupE (f := id) s rx ry hn q))
    · exact .inl (.inl (.inl (s_eqG I H _ _ z v u Q s e rx ry q)))
  · exact .inl (.inl (.inl (s_eqG I H _ _ z v u Q s e rx ry q)))
theorem s_ne {K : PySem.W.Frag} : Op2 K neD (rNeAll K) := by
  intro I H x y z v u Q s e rx ry q
  unfold neD at e
  split at e
  · cases (rx : RD _ _ _ _)
    cases (ry : RD _ _ _ _)
    cases e
    refine .inr ⟨rfl, ?_⟩
    rename_i a b
    have h : decide (V.str a = V.str b) = decide (a = b) := decide_eq_decide.mpr ⟨fun h => V.str.inj h, fun h => by rw [h]⟩
    rw [h]
    exact q _ _ _ .refl (.bl _)
  · split at e
    · rename_i hn
      cases e
      exact .inl (.inl (.inr (s_lens rx ry hn q)))
    · exact .inl (.inl (.inl (s_neG I H _ _ z v u Q s e rx ry q)))
  · split at e
    · rename_i hn
      cases e
      exact .inl (.inr (s_tupE (f := not) s rx ry hn q))
    · exact .inl (.inl (.inl (s_neG I H _ _ z v u Q s e rx ry q)))
  · exact .inl (.inl (.inl (s_neG I H _ _ z v u Q s e rx ry q)))
theorem re_eq (hu : X.A.units + 64 < cLine) (ha : RE X Wx a ma) (hb : RE X Wx b mb) : RE X Wx (.Compare a [.Eq] [b] pos) (m2 eqD ma mb) := re_cmp ((((op_eqD hu).or (op_eqLens hu)).or (op_eqTupE hu)).or op_eq) s_eq ha hb (nomark _)
theorem re_ne (hu : X.A.units + 64 < cLine) (ha : RE X Wx a ma) (hb : RE X Wx b mb) : RE X Wx (.Compare a [.NotEq] [b] pos) (m2 neD ma mb) := re_cmp ((((op_neD hu).or (op_neLens hu)).or (op_neTupE hu)).or op_ne) s_ne ha hb (nomark _)

/-! x in y -/
def inD (neg : Bool) (x y : D) : Option D := match y with
  | .str b => match x with
    | .str a => some (.bl (if neg then !(!(Builtin.Str.occurrences a b 0 b.length 1).isEmpty) else !(Builtin.Str.occurrences a b 0 b.length 1).isEmpty))
    | _ => none
  | .lst ys => (toP x).bind fun p => (toPs ys).bind fun qs => if (okP p && okP (.list qs)) = true then some (.bl (if neg then !(qs.any fun z => PyData.eqv z p) else qs.any fun z => PyData.eqv z p)) else none
  | _ => none

/-! is None -/
def D.isNon : D → Bool
  | .non => true
  | _ => false
def isN (neg : Bool) (a : EM) : EM := fun env L => (a env L).bind fun x L1 => match x with
  | .d x => .ok (.d (.bl (if neg then !x.isNon else x.isNon))) L1
  | .loc _ => .ok (.d (.bl (if neg then true else false))) L1
theorem non_iff {K : PySem.W.Frag} {I : Hp} {x : D} {v : V} (r : RD K I x v) : decide (v = .non) = x.isNon := by
  cases r <;> rfl
theorem re_isN {j : Option Str} {pos' : Pos} {k : _} (ha : RE X Wx a ma) : RE X Wx (.Compare a [.Is] [.Constant .none k pos'] pos) (isN false ma) := by
  refine (pe_cmp (pc_isN ha)).imp fun σ H Q ⟨env, L, I, μ, er, hr, h⟩ => ?_
  refine (TG.seq er hr h).imp fun v H1 ⟨L1, I1, μ1, w1, e1, er1, hr1, r1, h1⟩ => ?_
  cases r1 with
  | d r => rw [non_iff r]; exact h1 I1 μ1 _ H1 (.refl _ _) hr1 (.d (.bl _))
  | loc r => exact h1 I1 μ1 _ H1 (.refl _ _) hr1 (.d (.bl _))
theorem re_notN {pos' : Pos} {k : _} (ha : RE X Wx a ma) : RE X Wx (.Compare a [.IsNot] [.Constant .none k pos'] pos) (isN true ma) := by
  refine (pe_cmp (pc_notN ha)).imp fun σ H Q ⟨env, L, I, μ, er, hr, h⟩ => ?_
  refine (TG.seq er hr h).imp fun v H1 ⟨L1, I1, μ1, w1, e1, er1, hr1, r1, h1⟩ => ?_
  cases r1 with
  | d r => rw [non_iff r]; exact h1 I1 μ1 _ H1 (.refl _ _) hr1 (.d (.bl _))
  | loc r => exact h1 I1 μ1 _ H1 (.refl _ _) hr1 (.d (.bl _))

/-! one value -/
def m1 (f : D → Option D) (a : EM) : EM := fun env L => (a env L).bind fun x L1 => pureD L1 ((rd L1 x).bind f)
def Op1 (K : PySem.W.Frag) (f : D → Option D) (r : V → Hp → VK → Prop) : Prop := ∀ (I H : Hp) (x z : D) (v : V) (Q : VK), Same I H → f x = some z → RR K I H x v → (∀ I' H' v', Grow I H I' H' → RD K I' z v' → Q v' H') → r v H Q
theorem t_op1 {r : V → Hp → VK → Prop} {f : D → Option D} (hs : Op1 X.K f r) {m : EM} {σ : L2.St} {H : Hp} {Q : VK} (h : T X.K Wx (m1 f m) σ H Q) : tUn r (T X.K Wx m) σ H Q := by
  obtain ⟨env, L, I, μ, er, hr, h⟩ := h
  refine (TG.seq er hr h).imp fun v1 H1 ⟨L1, I1, μ1, w1, e1, er1, hr1, r1, h1⟩ => ?_
  cases ex : rd L1 w1 with
  | none => rw [ex] at h1; exact h1.elim
  | some x =>
    rw [ex] at h1
    simp only [Option.bind_some] at h1
    cases ez : f x with
    | none => rw [ez] at h1; exact h1.elim
    | some z =>
      rw [ez] at h1
      exact hs I1 H1 x z v1 Q hr1.sub ez (hr1.rd r1 ex) (Post.pure h1 hr1)
def negD : D → Option D
  | .int i => some (.int (-i))
  | _ => none
theorem re_neg (ha : RE X Wx a ma) : RE X Wx (.UnaryOp .USub a pos) (m1 negD ma) :=
  (pe_un un_neg ha).imp fun _ _ _ h => t_op1 (fun I H x z v Q s e r q => by
    unfold negD at e
    split at e
    · cases (r : RD _ _ _ _); cases e; exact ⟨_, rfl, q _ _ _ .refl (.int _)⟩
    · cases e) h

/-! truth -/
def trD : D → Option Bool
  | .non => some false
  | .bl b => some b
  | .int i => some (i != 0)
  | .str y => if y.length ≤ sizeLine then some ((y.length : Int) != 0) else none
  | .lst xs => some (!xs.isEmpty)
  | .tup xs => some (!xs.isEmpty)
  | .dct xs => some (!xs.isEmpty)
  | _ => none
def tst (a : EM) : BM := fun env L => (a env L).bind fun x L1 => match (rd L1 x).bind trD with
  | some b => .ok b L1
  | none => .bad
theorem len_k {K : PySem.W.Frag} {I : Hp} : ∀ {xs : List (Key × D)} {vs : List (Key × V)}, RDk K I xs vs → vs.isEmpty = xs.isEmpty
  | _, _, .nil => rfl
  | _, _, .cons _ _ => rfl
theorem len_s {K : PySem.W.Frag} {I : Hp} : ∀ {xs : List D} {vs : List V}, RDs K I xs vs → vs.isEmpty = xs.isEmpty
  | _, _, .nil => rfl
  | _, _, .cons _ _ => rfl
theorem tru_of {K : PySem.W.Frag} {I H : Hp} (s : Same I H) {x : D} {v : V} {b : Bool} (r : RR K I H x v) (e : trD x = some b) : TruV K v H b := by
  cases x with
  | lst xs =>
    obtain ⟨a, vs, rfl, h1, h2⟩ := r
    cases e
    exact .inl ⟨vs, .of h1, by rw [len_s h2]⟩
  | dct xs =>
    obtain ⟨a, vs, rfl, h1, h2⟩ := r
    cases e
    exact .inr (.inr ⟨vs, h1, by rw [len_k h2]⟩)
  | non => cases (r : RD _ _ _ _); cases e; rfl
  | bl b => cases (r : RD _ _ _ _); cases e; rfl
  | int i => cases (r : RD _ _ _ _); cases e; rfl
  | str y =>
    cases (r : RD _ _ _ _)
    simp only [trD] at e
    split at e
    · rename_i c; cases e; exact ⟨c, rfl⟩
    · cases e
  | tup xs =>
    cases (r : RD _ _ _ _) with | tup hp rp =>
    cases e
    exact .inr (.inl ⟨_, sqT_mono s hp, by rw [len_s rp]⟩)
  | ob _ _ => cases e
  | rf i => cases e
  | scr i => cases e
  | ty i => cases e
theorem rt_val (ha : RE X Wx a ma) (he : ∀ whole, isTrue a X.env whole = (do let v ← whole; standAt a.pos; holding [v] (truthy v)) := by intro _; rfl) : RT X Wx a (tst ma) := by
  refine (pt_truth ha he).imp fun σ H Q ⟨env, L, I, μ, er, hr, h⟩ => ?_
  refine (TG.seq er hr h).imp fun v H1 ⟨L1, I1, μ1, w1, e1, er1, hr1, r1, h1⟩ => ?_
  cases ex : rd L1 w1 with
  | none => rw [ex] at h1; exact h1.elim
  | some x =>
    rw [ex] at h1
    simp only [Option.bind_some] at h1
    cases ez : trD x with
    | none => rw [ez] at h1; exact h1.elim
    | some z =>
      rw [ez] at h1
      exact ⟨z, tru_of hr1.sub (hr1.rd r1 ex) ez, h1 I1 μ1 _ H1 (.refl _ _) hr1 rfl⟩
end
end MP
namespace MP
open PySem PySem.Spec PyProof.Rows L2
/-! ### and, or, not, x if c else y -/
def andV (a b : EM) : EM := fun env L => (a env L).bind fun x L1 => match x with
  | .d (.bl true) => b env L1
  | .d (.bl false) => .ok (.d (.bl false)) L1
  | _ => .bad
def orV (a b : EM) : EM := fun env L => (a env L).bind fun x L1 => match x with
  | .d (.bl true) => .ok (.d (.bl true)) L1
  | .d (.bl false) => b env L1
  | _ => .bad
def notV (a : EM) : EM := fun env L => (a env L).bind fun x L1 => match x with
  | .d (.bl c) => .ok (.d (.bl (!c))) L1
  | _ => .bad
def ifV (c : BM) (a b : EM) : EM := fun env L => (c env L).bind fun x L1 => if x = true then a env L1 else b env L1
def tAndM (a b : BM) : BM := fun env L => (a env L).bind fun x L1 => if x = true then b env L1 else .ok false L1
def tOrM (a b : BM) : BM := fun env L => (a env L).bind fun x L1 => if x = true then .ok true L1 else b env L1
def tNotM (a : BM) : BM := fun env L => (a env L).bind fun x L1 => .ok (!x) L1
abbrev RWT (X : Cx) (Wx : WX) (e : Expr) (m : BM) : Prop := PW X e (TB X.K Wx m)
theorem _root_.L2.PW.imp {X : Cx} {e : Expr} {t t' : L2.TT} (h : PW X e t) (i : ∀ σ H Q, t' σ H Q → t σ H Q) : PW X e t' :=
  ⟨fun whole pins s σ H Q I q => h.run whole pins s σ H Q I (i σ H Q q)⟩
section
variable {X : Cx} {Wx : WX} {a b c : Expr} {rest : List Expr} {ma mb mc : EM} {ba bb : BM} {pos : Pos}
theorem TG.ret {α β : Type} {Rel : Hp → List Addr → α → β → Prop} {K : PySem.W.Frag} {Wx : WX} {σ : L2.St} {I : Hp} {μ : List Addr} {H : Hp} {L : LH} {w : α} {v : β} {Q : β → Hp → Prop} (h : Post Rel K Wx σ I μ (.ok w L) Q) (hr : HR K I μ L H) (r : Rel I μ w v) : Q v H :=
  h I μ v H (.refl _ _) hr r
theorem re_and (ha : RE X Wx a ma) (hb : RE X Wx (.BoolOp .And (b :: rest) pos) mb) : RE X Wx (.BoolOp .And (a :: b :: rest) pos) (andV ma mb) := by
  refine (pe_and ha hb).imp fun σ H Q ⟨env, L, I, μ, er, hr, h⟩ => ?_
  refine (TG.seq er hr h).imp fun v H1 ⟨L1, I1, μ1, w1, e1, er1, hr1, r1, h1⟩ => ?_
  split at h1
  · cases r1 with | d r => cases r; exact ⟨true, rfl, iteT ⟨env, L1, I1, μ1, er1, hr1, h1⟩⟩
  · cases r1 with | d r => cases r; exact ⟨false, rfl, iteF (TG.ret h1 hr1 (.d (.bl _)))⟩
  · exact h1.elim
theorem re_or (ha : RE X Wx a ma) (hb : RE X Wx (.BoolOp .Or (b :: rest) pos) mb) : RE X Wx (.BoolOp .Or (a :: b :: rest) pos) (orV ma mb) := by
  refine (pe_or ha hb).imp fun σ H Q ⟨env, L, I, μ, er, hr, h⟩ => ?_
  refine (TG.seq er hr h).imp fun v H1 ⟨L1, I1, μ1, w1, e1, er1, hr1, r1, h1⟩ => ?_
  split at h1
  · cases r1 with | d r => cases r; exact ⟨true, rfl, iteT (TG.ret h1 hr1 (.d (.bl _)))⟩
  · cases r1 with | d r => cases r; exact ⟨false, rfl, iteF ⟨env, L1, I1, μ1, er1, hr1, h1⟩⟩
  · exact h1.elim
theorem re_one {op : _} (ha : RE X Wx a ma) : RE X Wx (.BoolOp op [a] pos) ma := pe_one ha
theorem re_not (ha : RE X Wx a ma) : RE X Wx (.UnaryOp .Not a pos) (notV ma) := by
  refine (pe_not ha).imp fun σ H Q ⟨env, L, I, μ, er, hr, h⟩ => ?_
  refine (TG.seq er hr h).imp fun v H1 ⟨L1, I1, μ1, w1, e1, er1, hr1, r1, h1⟩ => ?_
  split at h1
  · cases r1 with | d r => cases r; exact ⟨_, rfl, TG.ret h1 hr1 (.d (.bl _))⟩
  · exact h1.elim
theorem re_if (hc : RT X Wx c ba) (ha : RE X Wx a ma) (hb : RE X Wx b mb) : RE X Wx (.IfExp c a b pos) (ifV ba ma mb) := by
  refine (pe_ifExp hc ha hb).imp fun σ H Q ⟨env, L, I, μ, er, hr, h⟩ => ?_
  refine (TG.seq er hr h).imp fun v H1 ⟨L1, I1, μ1, w1, e1, er1, hr1, r1, h1⟩ => ?_
  subst r1
  refine ite2 (fun e => ?_) (fun e => ?_)
  · rw [if_pos e] at h1; exact ⟨env, L1, I1, μ1, er1, hr1, h1⟩
  · rw [if_neg e] at h1; exact ⟨env, L1, I1, μ1, er1, hr1, h1⟩
theorem rw_and1 (ha : RT X Wx a ba) : RWT X Wx (.BoolOp .And [a] pos) ba := pw_and1 ha
theorem rw_or1 (ha : RT X Wx a ba) : RWT X Wx (.BoolOp .Or [a] pos) ba := pw_or1 ha
theorem rw_and (ha : RT X Wx a ba) (hb : RWT X Wx (.BoolOp .And (b :: rest) pos) bb) : RWT X Wx (.BoolOp .And (a :: b :: rest) pos) (tAndM ba bb) := by
  refine (pw_and ha hb).imp fun σ H Q ⟨env, L, I, μ, er, hr, h⟩ => ?_
  refine (TG.seq er hr h).imp fun v H1 ⟨L1, I1, μ1, w1, e1, er1, hr1, r1, h1⟩ => ?_
  subst r1
  refine ite2 (fun e => ?_) (fun e => ?_)
  · rw [if_pos e] at h1; exact ⟨env, L1, I1, μ1, er1, hr1, h1⟩
  · rw [if_neg e] at h1; exact TG.ret h1 hr1 rfl
theorem rw_or (ha : RT X Wx a ba) (hb : RWT X Wx (.BoolOp .Or (b :: rest) pos) bb) : RWT X Wx (.BoolOp .Or (a :: b :: rest) pos) (tOrM ba bb) := by
  refine (pw_or ha hb).imp fun σ H Q ⟨env, L, I, μ, er, hr, h⟩ => ?_
  refine (TG.seq er hr h).imp fun v H1 ⟨L1, I1, μ1, w1, e1, er1, hr1, r1, h1⟩ => ?_
  subst r1
  refine ite2 (fun e => ?_) (fun e => ?_)
  · rw [if_pos e] at h1; exact TG.ret h1 hr1 rfl
  · rw [if_neg e] at h1; exact ⟨env, L1, I1, μ1, er1, hr1, h1⟩
theorem rt_not (ha : RT X Wx a ba) : RT X Wx (.UnaryOp .Not a pos) (tNotM ba) := by
  refine (pt_not ha).imp fun σ H Q ⟨env, L, I, μ, er, hr, h⟩ => ?_
  refine (TG.seq er hr h).imp fun v H1 ⟨L1, I1, μ1, w1, e1, er1, hr1, r1, h1⟩ => ?_
  subst r1
  exact TG.ret h1 hr1 rfl
/-- a comparison as a test -/
theorem TG.cmpT {σ : L2.St} {H : Hp} {Q : Bool → Hp → Prop} (h : TB X.K Wx (tst ma) σ H Q) : (T X.K Wx ma) σ H fun x H' => ∃ L I μ w b, HR X.K I μ L H' ∧ RW X.K I μ w x ∧ (rd L w).bind trD = some b ∧ Q b H' := by
  obtain ⟨env, L, I, μ, er, hr, h⟩ := h
  refine (TG.seq er hr h).imp fun v H1 ⟨L1, I1, μ1, w1, e1, er1, hr1, r1, h1⟩ => ?_
  cases ex : (rd L1 w1).bind trD with
  | none => rw [ex] at h1; exact h1.elim
  | some b =>
    rw [ex] at h1
    exact ⟨L1, I1, μ1, w1, b, hr1, r1, ex, TG.ret h1 hr1 rfl⟩
end

/-! ### arguments, displays -/
def aNil : AM := fun _ L => .ok [] L
def aCons (a : EM) (r : AM) : AM := fun env L => (a env L).bind fun x L1 => (r env L1).bind fun xs L2 => .ok (x :: xs) L2
section
variable {X : Cx} {Wx : WX} {e : Expr} {es : List Expr} {m : EM} {ms : AM} {pos : Pos}
theorem ra_nil : RA X Wx [] aNil := pa_nil.imp fun σ H Q ⟨env, L, I, μ, er, hr, h⟩ => TG.ret h hr .nil
theorem ra_cons (ha : RE X Wx e m) (hb : RA X Wx es ms) (hs : starEach (e :: es) X.env = (false, eval e X.env) :: starEach es X.env := by rfl) : RA X Wx (e :: es) (aCons m ms) := by
  refine (pa_cons ha hb hs).imp fun σ H Q ⟨env, L, I, μ, er, hr, h⟩ => ?_
  refine (TG.seq er hr h).imp fun v H1 ⟨L1, I1, μ1, w1, e1, er1, hr1, r1, h1⟩ => ?_
  refine (TG.seq er1 hr1 h1).imp fun v2 H2 ⟨L2, I2, μ2, w2, e2, er2, hr2, r2, h2⟩ => ?_
  exact TG.ret h2 hr2 (.cons (r1.mono e2) r2)
end
/-- from now on it does not change -/
def fzW (L : LH) : W → Option (D × LH)
  | .d x => some (x, L)
  | .loc n => match L[n]? with
    | some (.frz x) => some (x, L)
    | some (.lst xs) => some (.lst xs, L.set n (.frz (.lst xs)))
    | some (.dic kvs) => (allD kvs).map fun ks => (.dct ks, L.set n (.frz (.dct ks)))
    | some (.ins C fs) => (allD fs).map fun ks => (.ob C ks, L.set n (.frz (.ob C ks)))
    | none => none
def fzs : LH → List W → Option (List D × LH)
  | L, [] => some ([], L)
  | L, w :: r => (fzW L w).bind fun p => (fzs p.2 r).map fun q => (p.1 :: q.1, q.2)
section
variable {K : PySem.W.Frag} {I H : Hp} {μ : List Addr} {L : LH}
theorem RWf.rdf : ∀ {kvs : List (Str × W)} {kv : List (Str × V)} {ks : List (Str × D)}, RWf K I μ kvs kv → allD kvs = some ks → RDf K I ks kv
  | _, _, _, .nil, h => by simp [allD] at h; subst h; exact .nil
  | _, _, _, .cons (x := .d x) (.d r) t, h => by
    simp only [allD, Option.map_eq_some_iff] at h
    obtain ⟨y, h1, rfl⟩ := h
    exact .cons r (RWf.rdf t h1)
  | _, _, _, .cons (x := .loc n) _ _, h => by simp [allD] at h
theorem HR.frz (hr : HR K I μ L H) {I' : Hp} {n : Nat} {p : Addr} {x : D} (hp : μ[n]? = some p) (s : Same I I') (s' : Same I' H) (r : RD K I' x (.ref p))
    (ki : ∀ q, q ≠ p → (∀ a, H q ≠ some (.own a)) → I q = none → I' q = none) : HR K I' μ (L.set n (.frz x)) H where
  sub := s'
  len := by rw [List.length_set]; exact hr.len
  nd := hr.nd
  there := hr.there
  obj := fun m q o h1 h2 => by
    by_cases e : m = n
    · subst e
      rw [hp] at h1; cases h1
      have := (List.getElem?_eq_some_iff.mp h2).1
      rw [List.length_set] at this
      rw [List.getElem?_set_self this] at h2
      cases h2
      exact r
    · rw [List.getElem?_set_ne (Ne.symm e)] at h2
      have ne : q ≠ p := fun z => e (by
        subst z
        obtain ⟨a1, b1⟩ := List.getElem?_eq_some_iff.mp h1
        obtain ⟨a2, b2⟩ := List.getElem?_eq_some_iff.mp hp
        exact (List.getElem_inj hr.nd).mp (b1.trans b2.symm))
      exact (hr.obj m q o h1 h2).mono (Ext.of μ s) rfl (ki q ne) fun _ z => z
  wf := fun m o h => by
    rw [List.length_set]
    by_cases e : m = n
    · subst e
      have := (List.getElem?_eq_some_iff.mp h).1
      rw [List.length_set] at this
      rw [List.getElem?_set_self this] at h
      cases h
      trivial
    · rw [List.getElem?_set_ne (Ne.symm e)] at h
      exact hr.wf m o h
theorem upd_sub {I H : Hp} (s : Same I H) {p : Addr} {o : HO} (h : H p = some o) : Same (upd I p o) H := fun a x e => by
  by_cases z : a = p
  · subst z; rw [upd_same] at e; cases e; exact h
  · rw [upd_ne z] at e; exact s a x e
theorem same_upd' {I H : Hp} (s : Same I H) {p : Addr} {o : HO} (h : H p = some o) : Same I (upd I p o) := fun a x e => by
  by_cases z : a = p
  · subst z; rw [upd_same]; rw [s _ _ e] at h; exact h.symm
  · rw [upd_ne z]; exact e
theorem HR.fzW (hr : HR K I μ L H) {w : W} {v : V} {x : D} {L' : LH} (r : RW K I μ w v) (h : MP.fzW L w = some (x, L')) : ∃ I', Same I I' ∧ HR K I' μ L' H ∧ RD K I' x v := by
  cases r with
  | d r => simp only [MP.fzW, Option.some.injEq, Prod.mk.injEq] at h; obtain ⟨rfl, rfl⟩ := h; exact ⟨I, Same.refl I, hr, r⟩
  | loc q =>
    rename_i n p
    simp only [MP.fzW] at h
    split at h
    · rename_i y e
      cases h
      exact ⟨I, Same.refl I, hr, (show RD K I x (.ref _) from hr.obj _ _ _ q e)⟩
    · rename_i y e
      cases h
      obtain ⟨hi, vs, h1, h2⟩ := hr.obj _ _ _ q e
      have s := same_upd' hr.sub h1
      have rr : RD K (upd I p (.lst vs)) (.lst y) (.ref p) := .lst upd_same (h2.mono s)
      exact ⟨_, s, hr.frz q s (upd_sub hr.sub h1) rr fun q ne _ z => by rw [upd_ne ne]; exact z, rr⟩
    · rename_i kvs e
      rw [Option.map_eq_some_iff] at h
      obtain ⟨ks, h0, h00⟩ := h
      cases h00
      obtain ⟨hi, vs, h1, h2⟩ := hr.obj _ _ _ q e
      have s := same_upd' hr.sub h1
      have rr : RD K (upd I p (.dK vs)) (.dct ks) (.ref p) := .dct upd_same ((h2.rdk h0).mono s)
      exact ⟨_, s, hr.frz q s (upd_sub hr.sub h1) rr fun q ne _ z => by rw [upd_ne ne]; exact z, rr⟩
    · rename_i C fs e
      rw [Option.map_eq_some_iff] at h
      obtain ⟨ks, h0, h00⟩ := h
      cases h00
      obtain ⟨hi, dx, fv, h1, hd, h2⟩ := hr.obj _ _ _ q e
      have s := same_upd' hr.sub h1
      have sH := upd_sub hr.sub h1
      have s2 := same_upd' sH hd
      have sH2 := upd_sub sH hd
      have ne : dx ≠ p := fun z => by rw [z, h1] at hd; cases hd
      have rr : RD K (upd (upd I p (.ins C dx fv)) dx (.own p)) (.ob C ks) (.ref p) := .ob (by rw [upd_ne ne.symm]; exact upd_same) upd_same ((h2.rdf h0).mono (s.trans s2))
      exact ⟨_, s.trans s2, hr.frz q (s.trans s2) sH2 rr fun q neq hn z => by
        have : q ≠ dx := fun y => hn p (by rw [y]; exact hd)
        rw [upd_ne this, upd_ne neq]; exact z, rr⟩
    · cases h
theorem HR.fzs : ∀ {I : Hp} {L : LH} {ws : List W} {vs : List V} {xs : List D} {L' : LH}, HR K I μ L H → RWs K I μ ws vs → MP.fzs L ws = some (xs, L') → ∃ I', Same I I' ∧ HR K I' μ L' H ∧ RDs K I' xs vs
  | I, L, _, _, xs, L', hr, .nil, h => by simp only [MP.fzs, Option.some.injEq, Prod.mk.injEq] at h; obtain ⟨rfl, rfl⟩ := h; exact ⟨I, Same.refl I, hr, .nil⟩
  | I, L, w :: ws, v :: vs, xs, L', hr, .cons rw1 rws, h => by
    simp only [MP.fzs] at h
    cases e : MP.fzW L w with
    | none => rw [e] at h; cases h
    | some p =>
      obtain ⟨x, L1⟩ := p
      rw [e, Option.bind_some, Option.map_eq_some_iff] at h
      obtain ⟨⟨ys, L2⟩, h1, h2⟩ := h
      cases h2
      obtain ⟨I1, s1, hr1, r1⟩ := hr.fzW rw1 e
      obtain ⟨I2, s2, hr2, r2⟩ := HR.fzs hr1 (rws.mono (Ext.of μ s1)) h1
      exact ⟨I2, s1.trans s2, hr2, .cons (r1.mono s2) r2⟩
theorem fzs_len : ∀ {ws : List W} {L L' : LH} {xs : List D}, MP.fzs L ws = some (xs, L') → xs.length = ws.length
  | [], _, _, _, h => by simp only [MP.fzs, Option.some.injEq, Prod.mk.injEq] at h; obtain ⟨rfl, rfl⟩ := h; rfl
  | w :: ws, L, L', xs, h => by
    simp only [MP.fzs] at h
    cases e : MP.fzW L w with
    | none => rw [e] at h; cases h
    | some p =>
      obtain ⟨x, L1⟩ := p
      rw [e, Option.bind_some, Option.map_eq_some_iff] at h
      obtain ⟨⟨ys, L2⟩, h1, h2⟩ := h
      cases h2
      simp [fzs_len h1]
/-- a new object that may change -/
theorem HR.new (hr : HR K I μ L H) {p : Addr} {o : LO} {ho : HO} (hp : H p = none) (lo : LOk K I (μ ++ [p]) (upd H p ho) p o) (wf : o.below (L.length + 1)) : HR K I (μ ++ [p]) (L ++ [o]) (upd H p ho) where
  sub := hr.sub.trans (same_upd hp)
  len := by simp [hr.len]
  nd := by
    rw [List.nodup_append]
    refine ⟨hr.nd, by simp, fun a ha b hb => ?_⟩
    have e : b = p := by simpa using hb
    subst e
    rintro rfl
    obtain ⟨o, h⟩ := hr.there _ ha
    rw [hp] at h; cases h
  there := fun q hq => by
    rcases List.mem_append.mp hq with h | h
    · obtain ⟨o, h'⟩ := hr.there q h
      exact ⟨o, by rw [upd_ne (ne_of_none h' hp)]; exact h'⟩
    · have e : q = p := by simpa using h
      subst e
      exact ⟨_, upd_same⟩
  obj := fun m q o' h1 h2 => by
    by_cases e : m < L.length
    · rw [List.getElem?_append_left e] at h2
      rw [List.getElem?_append_left (by rw [hr.len]; exact e)] at h1
      obtain ⟨oq, hq⟩ := hr.there q (List.mem_of_getElem? h1)
      have ne := ne_of_none hq hp
      exact (hr.obj m q o' h1 h2).mono ⟨Same.refl I, [p], rfl⟩ (upd_ne ne) (fun _ z => z) fun dx z => by rw [upd_ne (ne_of_none z hp)]; exact z
    · have h3 := (List.getElem?_eq_some_iff.mp h2).1
      rw [List.length_append, List.length_singleton] at h3
      have em : m = L.length := by omega
      subst em
      rw [List.getElem?_append_right (Nat.le_refl _), Nat.sub_self] at h2
      rw [List.getElem?_append_right (by rw [hr.len]; exact Nat.le_refl _), hr.len, Nat.sub_self] at h1
      cases h1
      cases h2
      exact lo
  wf := fun m o' h => by
    rw [List.length_append, List.length_singleton]
    by_cases e : m < L.length
    · rw [List.getElem?_append_left e] at h
      exact (hr.wf m o' h).mono (Nat.le_succ _)
    · have h3 := (List.getElem?_eq_some_iff.mp h).1
      rw [List.length_append, List.length_singleton] at h3
      have em : m = L.length := by omega
      subst em
      rw [List.getElem?_append_right (Nat.le_refl _), Nat.sub_self] at h
      cases h
      exact wf
theorem HR.lastEq (hr : HR K I μ L H) {p : Addr} {x : LO} : (μ ++ [p])[L.length]? = some p := by
  rw [List.getElem?_append_right (by rw [hr.len]; exact Nat.le_refl _), hr.len, Nat.sub_self]; rfl
/-- an object is written -/
theorem HR.write (hr : HR K I μ L H) {n : Nat} {p : Addr} {o : LO} {ho : HO} {old : HO} (hp : μ[n]? = some p) (hi : I p = none) (hold : H p = some old) (nold : ∀ a, old ≠ .own a) (lo : LOk K I μ (upd H p ho) p o) (wf : o.below L.length) : HR K I μ (L.set n o) (upd H p ho) where
  sub := fun a x e => by
    have : a ≠ p := fun z => by rw [z, hi] at e; cases e
    rw [upd_ne this]; exact hr.sub a x e
  len := by rw [List.length_set]; exact hr.len
  nd := hr.nd
  there := fun q hq => by
    by_cases e : q = p
    · subst e; exact ⟨_, upd_same⟩
    · rw [upd_ne e]; exact hr.there q hq
  obj := fun m q o' h1 h2 => by
    by_cases e : m = n
    · subst e
      rw [hp] at h1; cases h1
      have := (List.getElem?_eq_some_iff.mp h2).1
      rw [List.length_set] at this
      rw [List.getElem?_set_self this] at h2
      cases h2
      exact lo
    · rw [List.getElem?_set_ne (Ne.symm e)] at h2
      have ne : q ≠ p := fun z => e (by
        subst z
        obtain ⟨a1, b1⟩ := List.getElem?_eq_some_iff.mp h1
        obtain ⟨a2, b2⟩ := List.getElem?_eq_some_iff.mp hp
        exact (List.getElem_inj hr.nd).mp (b1.trans b2.symm))
      refine (hr.obj m q o' h1 h2).mono (Ext.refl I μ) (upd_ne ne) (fun _ z => z) fun dx z => ?_
      have : dx ≠ p := fun y => by rw [y, hold] at z; exact nold _ (Option.some.inj z)
      rw [upd_ne this]; exact z
  wf := fun m o' h => by
    rw [List.length_set]
    by_cases e : m = n
    · subst e
      have := (List.getElem?_eq_some_iff.mp h).1
      rw [List.length_set] at this
      rw [List.getElem?_set_self this] at h
      cases h
      exact wf
    · rw [List.getElem?_set_ne (Ne.symm e)] at h
      exact hr.wf m o' h
end
theorem RDs.rws {K : PySem.W.Frag} {I : Hp} {μ : List Addr} : ∀ {xs : List D} {vs : List V}, RDs K I xs vs → RWs K I μ (xs.map W.d) vs
  | _, _, .nil => .nil
  | _, _, .cons r t => .cons (.d r) t.rws
def mTup (a : AM) : EM := fun env L => (a env L).bind fun ws L1 => match fzs L1 ws with
  | some (xs, L2) => if xs.length ≤ sizeLine then .ok (.d (.tup xs)) L2 else .bad
  | none => .bad
def mLst (a : AM) : EM := fun env L => (a env L).bind fun ws L1 => match fzs L1 ws with
  | some (xs, L2) => if xs.length ≤ sizeLine then .ok (.d (.lst xs)) L2 else .bad
  | none => .bad
/-- a list that may change -/
def mLstM (a : AM) : EM := fun env L => (a env L).bind fun ws L1 => match fzs L1 ws with
  | some (xs, L2) => if xs.length ≤ sizeLine then .ok (.loc L2.length) (L2 ++ [.lst xs]) else .bad
  | none => .bad
section
variable {X : Cx} {Wx : WX} {e : Expr} {es : List Expr} {m : EM} {ms : AM} {pos : Pos}
theorem re_tup {x1} (h : RA X Wx es ms) : RE X Wx (.Tuple es x1 pos) (mTup ms) := by
  refine (pe_tup h).imp fun σ H Q ⟨env, L, I, μ, er, hr, h⟩ => ?_
  refine (TG.seq er hr h).imp fun vs H1 ⟨L1, I1, μ1, ws, e1, er1, hr1, r1, h1⟩ => ?_
  split at h1
  · rename_i xs L2 ef
    split at h1
    · rename_i hz
      obtain ⟨I2, s2, hr2, r2⟩ := HR.fzs hr1 r1 ef
      exact ⟨by rw [← r2.length]; exact hz, fun p hp => h1 _ _ _ _ (Ext.of μ1 (s2.trans (same_upd (hr2.sub.free hp)))) (hr2.step _ hp) (.d (.tup (.of upd_same) (r2.mono (same_upd (hr2.sub.free hp)))))⟩
    · exact h1.elim
  · exact h1.elim
theorem re_lst (h : RA X Wx es ms) : RE X Wx (.List es pos) (mLst ms) := by
  refine (pe_lst h).imp fun σ H Q ⟨env, L, I, μ, er, hr, h⟩ => ?_
  refine (TG.seq er hr h).imp fun vs H1 ⟨L1, I1, μ1, ws, e1, er1, hr1, r1, h1⟩ => ?_
  split at h1
  · rename_i xs L2 ef
    split at h1
    · rename_i hz
      obtain ⟨I2, s2, hr2, r2⟩ := HR.fzs hr1 r1 ef
      exact ⟨by rw [← r2.length]; exact hz, fun p hp => h1 _ _ _ _ (Ext.of μ1 (s2.trans (same_upd (hr2.sub.free hp)))) (hr2.step _ hp) (.d (.lst upd_same (r2.mono (same_upd (hr2.sub.free hp)))))⟩
    · exact h1.elim
  · exact h1.elim
theorem re_lstM (h : RA X Wx es ms) : RE X Wx (.List es pos) (mLstM ms) := by
  refine (pe_lst h).imp fun σ H Q ⟨env, L, I, μ, er, hr, h⟩ => ?_
  refine (TG.seq er hr h).imp fun vs H1 ⟨L1, I1, μ1, ws, e1, er1, hr1, r1, h1⟩ => ?_
  split at h1
  · rename_i xs L2 ef
    split at h1
    · rename_i hz
      obtain ⟨I2, s2, hr2, r2⟩ := HR.fzs hr1 r1 ef
      refine ⟨by rw [← r2.length]; exact hz, fun p hp => h1 I2 (μ1 ++ [p]) _ _ ⟨s2, [p], rfl⟩ (hr2.new (o := .lst xs) (ho := .lst vs) hp ⟨hr2.sub.free hp, vs, upd_same, r2⟩ trivial) (.loc (by rw [List.getElem?_append_right (by rw [hr2.len]; exact Nat.le_refl _), hr2.len, Nat.sub_self]; rfl))⟩
    · exact h1.elim
  · exact h1.elim
end
end MP
namespace MP
open PySem PySem.Spec PyProof.Rows L2
theorem _root_.L2.PE.or {X : Cx} {e : Expr} {t t' : L2.TE} (h : PE X e t) (h' : PE X e t') : PE X e (fun σ H Q => t σ H Q ∨ t' σ H Q) :=
  ⟨fun pins s σ H Q I q => q.elim (h.run pins s σ H Q I) (h'.run pins s σ H Q I)⟩
/-! ### o[i] -/
def keyOf : D → Option Key
  | .int i => some (.inl i)
  | .str s => some (.inr s)
  | _ => none
def look {α κ : Type} [DecidableEq κ] (kvs : List (κ × α)) (k : κ) : Option α := (kvs.find? fun kv => decide (kv.1 = k)).map (·.2)
def ixD : D → D → Option D
  | .lst xs, .int i => atI xs i
  | .tup xs, .int i => atI xs i
  | .str z, .int i => if z.length ≤ sizeLine then (atI z.cps.toList i).map fun c => .str ⟨#[c]⟩ else none
  | .dct kvs, y => (keyOf y).bind fun k => look kvs k
  | _, _ => none
def ixW (L : LH) (x y : W) : Res W :=
  match x with
  | .loc n => match L[n]? with
    | some (.dic kvs) => match ((rd L y).bind keyOf).bind (look kvs) with
      | some w => .ok w L
      | none => .bad
    | _ => pureD L ((rd L x).bind fun x => (rd L y).bind (ixD x))
  | .d x => pureD L ((rd L y).bind (ixD x))
def mIx (a b : EM) : EM := fun env L => (a env L).bind fun x L1 => (b env L1).bind fun y L2 => ixW L2 x y
def isDic (L : LH) : W → Bool
  | .loc n => match L[n]? with
    | some (.dic _) => true
    | some (.frz (.dct _)) => true
    | _ => false
  | .d (.dct _) => true
  | .d _ => false
section
variable {K : PySem.W.Frag} {I H : Hp} {μ : List Addr}
theorem ixN_len {xs : List D} {vs : List V} (h : RDs K I xs vs) : xs.length = vs.length := h.length
theorem RDs.atI {xs : List D} {vs : List V} {i : Int} {x : D} (h : RDs K I xs vs) (e : L2.atI xs i = some x) : ∃ v, L2.atI vs i = some v ∧ RD K I x v := by
  unfold L2.atI at e ⊢
  rw [h.length] at e
  cases q : ixN vs.length i with
  | none => rw [q] at e; cases e
  | some j =>
    rw [q] at e
    obtain ⟨v, h1, h2⟩ := h.get (i := j) e
    exact ⟨v, h1, h2⟩
theorem RDk.look : ∀ {kvs : List (Key × D)} {kv : List (Key × V)} {k : Key} {x : D}, RDk K I kvs kv → MP.look kvs k = some x → ∃ v, valV kv k = some v ∧ RD K I x v
  | _, _, _, _, .nil, e => by simp [MP.look] at e
  | (k0, x0) :: r, (_, v0) :: r', k, x, .cons h t, e => by
    by_cases q : k0 = k
    · subst q
      simp [MP.look] at e
      subst e
      exact ⟨v0, valV_pos rfl, h⟩
    · have e2 : MP.look r k = some x := by
        simpa [MP.look, q] using e
      obtain ⟨v, h1, h2⟩ := RDk.look t e2
      exact ⟨v, by rw [valV_neg q]; exact h1, h2⟩
theorem RWf.look {κ : Type} [DecidableEq κ] : ∀ {kvs : List (κ × W)} {kv : List (κ × V)} {k : κ} {x : W}, RWf K I μ kvs kv → MP.look kvs k = some x → ∃ v, valV kv k = some v ∧ RW K I μ x v
  | _, _, _, _, .nil, e => by simp [MP.look] at e
  | (k0, x0) :: r, (_, v0) :: r', k, x, .cons h t, e => by
    by_cases q : k0 = k
    · subst q
      simp [MP.look] at e
      subst e
      exact ⟨v0, valV_pos rfl, h⟩
    · have e2 : MP.look r k = some x := by
        simpa [MP.look, q] using e
      obtain ⟨v, h1, h2⟩ := RWf.look t e2
      exact ⟨v, by rw [valV_neg q]; exact h1, h2⟩
theorem key_V {x : D} {v : V} {k : Key} (r : RR K I H x v) (h : keyOf x = some k) : v = kV k := by
  cases x with
  | int i => cases (r : RD _ _ _ _); cases h; rfl
  | str i => cases (r : RD _ _ _ _); cases h; rfl
  | non => cases h
  | bl b => cases h
  | tup b => cases h
  | lst b => cases h
  | dct b => cases h
  | ob b c => cases h
  | rf b => cases h
  | scr b => cases h
  | ty b => cases h
end
section
variable {X : Cx} {Wx : WX} {a b : Expr} {ma mb : EM} {pos : Pos}
theorem s_ix {K : PySem.W.Frag} : Op2 K (fun x y => match x with | .dct _ => none | _ => ixD x y) (rIx K) := by
  intro I H x y z v u Q s e rx ry q
  dsimp only at e
  split at e
  · cases e
  · unfold ixD at e
    split at e
    · obtain ⟨p, vs, rfl, hp, rp⟩ := rx
      cases (ry : RD _ _ _ _)
      obtain ⟨v', h1, h2⟩ := rp.atI e
      exact .inl ⟨p, vs, _, v', rfl, rfl, .of hp, h1, q _ _ _ .refl h2⟩
    · cases (rx : RD _ _ _ _) with | tup hp rp =>
      cases (ry : RD _ _ _ _)
      obtain ⟨v', h1, h2⟩ := rp.atI e
      exact .inr (.inl ⟨_, _, _, v', rfl, rfl, sqT_mono s hp, h1, q _ _ _ .refl h2⟩)
    · cases (rx : RD _ _ _ _)
      cases (ry : RD _ _ _ _)
      split at e
      · rename_i c
        rw [Option.map_eq_some_iff] at e
        obtain ⟨ch, h1, rfl⟩ := e
        exact .inr (.inr ⟨_, _, ch, rfl, rfl, c, h1, q _ _ _ .refl (.str _)⟩)
      · cases e
    · rename_i h
      first | exact (h _ rfl).elim | cases e
    · cases e
theorem re_ix (hu : X.A.units + 1 < cLine) (ha : RE X Wx a ma) (hb : RE X Wx b mb) (hs : PlainIx b) : RE X Wx (.Subscript a b pos) (mIx ma mb) := by
  refine ((pe_ix ix_seq ha hb hs).or (pe_dget hu ha hb hs)).imp fun σ H Q ⟨env, L, I, μ, er, hr, h⟩ => ?_
  by_cases hd : ∃ x L1 y L2, ma env L = .ok x L1 ∧ mb env L1 = .ok y L2 ∧ isDic L2 x = true
  · right
    obtain ⟨x, L1, y, L2, ea, eb, hdic⟩ := hd
    refine (TG.seq' er hr h).imp fun v1 H1 ⟨L1', I1, μ1, w1, e1, er1, hr1, r1, h1, q1⟩ => ?_
    rw [ea] at q1; cases q1
    refine (TG.seq' er1 hr1 h1).imp fun v2 H2 ⟨L2', I2, μ2, w2, e2, er2, hr2, r2, h2, q2⟩ => ?_
    rw [eb] at q2; cases q2
    cases r1 with
    | @d xx _ r =>
      cases xx with
      | dct kvs =>
        simp only [ixW] at h2
        cases ey : rd L2 y with
        | none => rw [ey] at h2; exact h2.elim
        | some yy =>
          rw [ey, Option.bind_some] at h2
          simp only [ixD] at h2
          cases ek : keyOf yy with
          | none => rw [ek] at h2; exact h2.elim
          | some k =>
            rw [ek, Option.bind_some] at h2
            cases el : look kvs k with
            | none => rw [el] at h2; exact h2.elim
            | some z =>
              rw [el] at h2
              cases r.mono e2.1 with | dct hp rk =>
              obtain ⟨v', g1, g2⟩ := rk.look el
              exact ⟨_, v', rfl, .inl ⟨_, k, .inl (hr2.sub _ _ hp), key_V (hr2.rd r2 ey) ek, g1.symm⟩, TG.ret h2 hr2 (.d g2)⟩
      | non => cases hdic
      | bl b => cases hdic
      | int b => cases hdic
      | str b => cases hdic
      | tup b => cases hdic
      | lst b => cases hdic
      | ob b c => cases hdic
      | rf b => cases hdic
      | scr b => cases hdic
      | ty b => cases hdic
    | @loc n p r =>
      simp only [isDic] at hdic
      split at hdic
      · rename_i kvs eL
        simp only [ixW, eL] at h2
        split at h2
        · rename_i z ez
          cases ey : rd L2 y with
          | none => rw [ey] at ez; cases ez
          | some yy =>
            rw [ey, Option.bind_some] at ez
            cases ek : keyOf yy with
            | none => rw [ek] at ez; cases ez
            | some k =>
              rw [ek, Option.bind_some] at ez
              obtain ⟨_, kv, g1, g2⟩ := hr2.obj _ _ _ (e2.at r) eL
              obtain ⟨v', g3, g4⟩ := g2.look ez
              exact ⟨_, v', rfl, .inl ⟨_, k, .inl g1, key_V (hr2.rd r2 ey) ek, g3.symm⟩, TG.ret h2 hr2 g4⟩
        · exact h2.elim
      · rename_i kvs eL
        have er0 : rd L2 (.loc n) = some (.dct kvs) := by simp [rd, eL]
        simp only [ixW, eL, er0, Option.bind_some] at h2
        cases ey : rd L2 y with
        | none => rw [ey] at h2; exact h2.elim
        | some yy =>
          rw [ey, Option.bind_some] at h2
          simp only [ixD] at h2
          cases ek : keyOf yy with
          | none => rw [ek] at h2; exact h2.elim
          | some k =>
            rw [ek, Option.bind_some] at h2
            cases el : look kvs k with
            | none => rw [el] at h2; exact h2.elim
            | some z =>
              rw [el] at h2
              have g0 : RD X.K I2 (.dct kvs) (.ref p) := hr2.obj _ _ _ (e2.at r) eL
              cases g0 with | dct hp rk =>
              obtain ⟨v', g1, g2⟩ := rk.look el
              exact ⟨_, v', rfl, .inl ⟨_, k, .inl (hr2.sub _ _ hp), key_V (hr2.rd r2 ey) ek, g1.symm⟩, TG.ret h2 hr2 (.d g2)⟩
      · cases hdic
  · left
    refine (TG.seq' er hr h).imp fun v1 H1 ⟨L1, I1, μ1, w1, e1, er1, hr1, r1, h1, q1⟩ => ?_
    refine (TG.seq' er1 hr1 h1).imp fun v2 H2 ⟨L2, I2, μ2, w2, e2, er2, hr2, r2, h2, q2⟩ => ?_
    have nd : ¬ isDic L2 w1 = true := fun z => hd ⟨w1, L1, w2, L2, q1, q2, z⟩
    have h3 : Post (relW X.K) X.K Wx σ I2 μ2 (pureD L2 ((rd L2 w1).bind fun x => (rd L2 w2).bind (ixD x))) Q := by
      cases w1 with
      | d x => exact h2
      | loc n =>
        simp only [ixW] at h2
        split at h2
        · rename_i eL; exact (nd (by simp [isDic, eL])).elim
        · exact h2
    cases ex : rd L2 w1 with
    | none => rw [ex] at h3; exact h3.elim
    | some x =>
      cases ey : rd L2 w2 with
      | none => rw [ex, ey] at h3; exact h3.elim
      | some y =>
        rw [ex, ey] at h3
        simp only [Option.bind_some] at h3
        cases ez : ixD x y with
        | none => rw [ez] at h3; exact h3.elim
        | some z =>
          rw [ez] at h3
          refine s_ix I2 H2 x y z v1 v2 Q hr2.sub ?_ (hr2.rd (r1.mono e2) ex) (hr2.rd r2 ey) (Post.pure h3 hr2)
          cases x with
          | dct kvs =>
            cases w1 with
            | d x => cases ex; exact (nd rfl).elim
            | loc n =>
              simp only [rd] at ex
              split at ex
              · rename_i eL; cases ex; exact (nd (by simp [isDic, eL])).elim
              · cases ex
              · rename_i eL; exact (nd (by simp [isDic, eL])).elim
              · cases ex
          | _ => exact ez

/-! ### o[i:j], o[::-1] -/
abbrev OM := Ev → LH → Res (Option Int)
def relO : Hp → List Addr → Option Int → Option Int → Prop := fun _ _ a b => a = b
abbrev RO (X : Cx) (Wx : WX) (e : Option Expr) (m : OM) : Prop := PO X e (TG relO X.K Wx m)
def oNone : OM := fun _ L => .ok none L
def oSome (a : EM) : OM := fun env L => (a env L).bind fun x L1 => match x with
  | .d (.int i) => .ok (some i) L1
  | _ => .bad
theorem _root_.L2.PO.imp {X : Cx} {e : Option Expr} {t t' : L2.TO} (h : PO X e t) (i : ∀ σ H Q, t' σ H Q → t σ H Q) : PO X e t' :=
  ⟨fun pins s σ H Q I q => h.run pins s σ H Q I (i σ H Q q)⟩
theorem ro_none : RO X Wx none oNone := po_none.imp fun σ H Q ⟨env, L, I, μ, er, hr, h⟩ => TG.ret h hr rfl
theorem ro_some (ha : RE X Wx a ma) : RO X Wx (some a) (oSome ma) := by
  refine (po_some ha).imp fun σ H Q ⟨env, L, I, μ, er, hr, h⟩ => ?_
  refine (TG.seq er hr h).imp fun v1 H1 ⟨L1, I1, μ1, w1, e1, er1, hr1, r1, h1⟩ => ?_
  split at h1
  · cases r1 with | d r => cases r; exact ⟨_, rfl, TG.ret h1 hr1 rfl⟩
  · exact h1.elim
def slD : D → Option Int → Option Int → Option D
  | .tup xs, lo, hi => some (.tup (cutD xs lo hi))
  | .lst xs, lo, hi => some (.lst (cutD xs lo hi))
  | .scr xs, lo, hi => some (.lst (cutD (xs.map D.int) lo hi))
  | _, _, _ => none
def mSl (a : EM) (l u : OM) : EM := fun env L => (a env L).bind fun x L1 => (l env L1).bind fun lo L2 => (u env L2).bind fun hi L3 => pureD L3 ((rd L3 x).bind fun x => slD x lo hi)
abbrev rSlAll (K : PySem.W.Frag) : V → Option Int → Option Int → Hp → VK → Prop := fun x lo hi H Q => rSlA K x lo hi H Q ∨ rSlL K x lo hi H Q
theorem cut_whole {α : Type} {xs : List α} {lo hi : Option Int} (h : HT.sIx xs.length 0 lo = 0 ∧ HT.sIx xs.length xs.length hi = xs.length) : (xs.drop (HT.sIx xs.length 0 lo)).take (HT.sIx xs.length xs.length hi - HT.sIx xs.length 0 lo) = xs := by
  rw [h.1, h.2]; simp
theorem re_sl {lo hi : Option Expr} {ml mh : OM} {p2 : Pos} (ha : RE X Wx a ma) (hl : RO X Wx lo ml) (hh : RO X Wx hi mh) : RE X Wx (.Subscript a (.Slice lo hi none p2) pos) (mSl ma ml mh) := by
  refine (pe_slice (r := rSlAll X.K) (sl_tupA.or sl_list) ha hl hh).imp fun σ H Q ⟨env, L, I, μ, er, hr, h⟩ => ?_
  refine (TG.seq er hr h).imp fun v1 H1 ⟨L1, I1, μ1, w1, e1, er1, hr1, r1, h1⟩ => ?_
  refine (TG.seq er1 hr1 h1).imp fun v2 H2 ⟨L2, I2, μ2, w2, e2, er2, hr2, r2, h2⟩ => ?_
  refine (TG.seq er2 hr2 h2).imp fun v3 H3 ⟨L3, I3, μ3, w3, e3, er3, hr3, r3, h3⟩ => ?_
  cases r2
  cases r3
  cases ex : rd L3 w1 with
  | none => rw [ex] at h3; exact h3.elim
  | some x =>
    rw [ex, Option.bind_some] at h3
    have rx := hr3.rd (r1.mono (e2.trans e3)) ex
    cases x with
    | tup xs =>
      cases (rx : RD _ _ _ _) with | tup hp rp =>
      have rc := rp.cut v2 v3
      refine .inl ⟨_, _, rfl, sqT_mono hr3.sub hp, fun hw => ?_, fun hw p hp => ?_⟩
      · rw [← rp.length] at hw
        have e0 : cutD xs v2 v3 = xs := cut_whole hw
        have h4 : Post (relW X.K) X.K Wx σ I3 μ3 (.ok (.d (.tup (cutD xs v2 v3))) L3) Q := h3
        rw [e0] at h4
        exact TG.ret h4 hr3 (.d (.tup hp rp))
      · exact Post.pure h3 hr3 _ _ _ (.one _ hp) (.tup (.of upd_same) (rc.mono (same_upd (hr3.sub.free hp))))
    | lst xs =>
      obtain ⟨p, vs, rfl, hp, rp⟩ := rx
      exact .inr ⟨p, vs, rfl, .of hp, fun q hq => Post.pure h3 hr3 _ _ _ (.one _ hq) (.lst upd_same ((rp.cut v2 v3).mono (same_upd (hr3.sub.free hq))))⟩
    | scr ns =>
      cases (rx : RD _ _ _ _) with | scr hp =>
      exact .inr ⟨_, _, rfl, sqL_mono hr3.sub hp, fun q hq => Post.pure h3 hr3 _ _ _ (.one _ hq) (.lst upd_same (((RDs.ints ns).cut v2 v3).mono (same_upd (hr3.sub.free hq))))⟩
    | _ => exact h3.elim
def revD : D → Option D
  | .lst xs => some (.lst xs.reverse)
  | _ => none
/-- x[::-1] of a list -/
theorem re_rev {k : Nat} {p1 p2 p3 : Pos} {kk : _} (ha : RE X Wx a ma) : RE X Wx (.Subscript a (.Slice none none (some (.UnaryOp .USub (.Constant (.int 1) kk p1) p2)) p3) pos) (m1 revD ma) := by
  refine (pe_revL ha).imp fun σ H Q ⟨env, L, I, μ, er, hr, h⟩ => ?_
  refine (TG.seq er hr h).imp fun v1 H1 ⟨L1, I1, μ1, w1, e1, er1, hr1, r1, h1⟩ => ?_
  cases ex : rd L1 w1 with
  | none => rw [ex] at h1; exact h1.elim
  | some x =>
    rw [ex, Option.bind_some] at h1
    have rx := hr1.rd r1 ex
    cases x with
    | lst xs =>
      obtain ⟨p, vs, rfl, hp, rp⟩ := rx
      exact ⟨p, vs, rfl, .of hp, fun q hq => Post.pure h1 hr1 _ _ _ (.one _ hq) (.lst upd_same (rp.reverse.mono (same_upd (hr1.sub.free hq))))⟩
    | _ => exact h1.elim
/-- x[::-1] of a list, as a list that may change -/
def mRevM (a : EM) : EM := fun env L => (a env L).bind fun x L1 => match rd L1 x with
  | some (.lst xs) => .ok (.loc L1.length) (L1 ++ [.lst xs.reverse])
  | _ => .bad
theorem re_revM {p1 p2 p3 : Pos} {kk : _} (ha : RE X Wx a ma) : RE X Wx (.Subscript a (.Slice none none (some (.UnaryOp .USub (.Constant (.int 1) kk p1) p2)) p3) pos) (mRevM ma) := by
  refine (pe_revL ha).imp fun σ H Q ⟨env, L, I, μ, er, hr, h⟩ => ?_
  refine (TG.seq er hr h).imp fun v1 H1 ⟨L1, I1, μ1, w1, e1, er1, hr1, r1, h1⟩ => ?_
  split at h1
  · rename_i xs ex
    obtain ⟨p, vs, rfl, hp, rp⟩ := hr1.rd r1 ex
    exact ⟨p, vs, rfl, .of hp, fun q hq => h1 I1 (μ1 ++ [q]) _ _ ⟨Same.refl _, [q], rfl⟩ (hr1.new (o := .lst xs.reverse) (ho := .lst vs.reverse) hq ⟨hr1.sub.free hq, _, upd_same, rp.reverse⟩ trivial)
      (.loc (by rw [List.getElem?_append_right (by rw [hr1.len]; exact Nat.le_refl _), hr1.len, Nat.sub_self]; rfl))⟩
  · exact h1.elim
end
end MP
namespace MP
open PySem PySem.Spec PyProof.Rows L2
/-! ### defs of the text -/
abbrev Fs := List W → LH → Res W
abbrev XF (E : XK) : WX := fun cls d _ H => E cls d H
/-- what a def promises -/
def SpOf (K : PySem.W.Frag) (n : Nat) (f : Fs) : Sp := fun vs H Q E => ∃ ws L I μ, ws.length = n ∧ RWs K I μ ws vs ∧ HR K I μ L H ∧ Post (relW K) K (XF E) [] I μ (f ws L) Q
theorem RWs.length {K : PySem.W.Frag} {I : Hp} {μ : List Addr} : ∀ {ws : List W} {vs : List V}, RWs K I μ ws vs → ws.length = vs.length
  | _, _, .nil => rfl
  | _, _, .cons _ t => congrArg (· + 1) t.length
/-- room for k calls more; no repr is under way -/
structure Rm (k : Nat) (A : Around) : Prop where
  r : Room k A
  g : A.guards = some []
theorem Rm.mono {j k : Nat} {A : Around} (r : Rm k A) (h : j ≤ k) : Rm j A := ⟨r.r.mono h, r.g⟩
theorem Rm.make {k : Nat} {A : Around} (r : Rm (k + 1) A) (C : Addr) (us : List Value) (kw : List (Str × Value)) : Rm k (A.under (.builtin "type.__call__" ⟨.ref C :: us, kw⟩)) := ⟨r.r.make C us kw, r.g⟩
/-- a def keeps its promise wherever no repr is under way -/
structure FnG (P : Program) (w : World) (K : PySem.W.Frag) (mg : Str → Option Value) (base : Heap) (k : Nat) (f : Addr) (fd : FuncData) (ps : List Str) (sp : Sp) : Prop where
  len : ∀ vs H Q E, sp vs H Q E → vs.length = ps.length
  run : ∀ (A : Around) (outer : List Env) (s : Shared) (H : Hp) (args : Args) (us : List Value) (vs : List V) (Q : VK) (E : XK), Rm k A → Env0 P w K mg base A outer s H →
    BindsTo s fd args (ps.zip us) → Vals vs us → sp vs H Q E → codeAny (model P w) A (.call (.ref f) args) (CR (L2.CX P w) outer P w H s Q E) s
/-- a def (or method) as a thing to call -/
structure Fx (P : Program) (w : World) (K : PySem.W.Frag) (mg : Str → Option Value) (base : Heap) (k : Nat) (f : Addr) (fd : FuncData) (ps : List Str) (m : Fs) : Prop where
  ok : FnG P w K mg base k f fd ps (SpOf K ps.length m)
  bd : Binds K fd ps []
  kp : PySem.W.keepIn K (.ref f) = true
theorem Fx.mono {P : Program} {w : World} {K : PySem.W.Frag} {mg : Str → Option Value} {base : Heap} {j k : Nat} {f : Addr} {fd : FuncData} {ps : List Str} {m : Fs} (F : Fx P w K mg base j f fd ps m) (h : j ≤ k) : Fx P w K mg base k f fd ps m :=
  ⟨⟨F.ok.len, fun A outer s H args us vs Q E r => F.ok.run A outer s H args us vs Q E (r.mono h)⟩, F.bd, F.kp⟩
/-- how keywords bind -/
def KB (fd : FuncData) (ps ks : List Str) : Prop := ∀ (s : Shared) (ws : List Value), ws.length = ks.length → BindsTo s fd ⟨[], ks.zip ws⟩ (ps.zip (ps.filterMap fun p => (ks.zip ws).lookup p))
theorem kb_of {K : PySem.W.Frag} {x qual : Str} {st : Stmt} {f : Addr} {fd : FuncData} {ps ks : List Str} (F : Fun K x qual st f fd)
    (h : ∀ (kV doc pm : Value) (an : Option Addr) (cdv ct : Value) (ws : List Value), ws.length = ks.length → bindArgs (PySem.W.fnOf x qual (defArgs st) (defBody st) (defScope st) .none kV doc pm an cdv ct) ⟨[], ks.zip ws⟩ = pure (ps.zip (ps.filterMap fun p => (ks.zip ws).lookup p))) : KB fd ps ks := by
  obtain ⟨oc, od, kV, doc, pm, an, cdv, ct, osl, rfl, lk, hcd⟩ := F.ex
  exact fun s ws hl => .of_eq (h kV doc pm an cdv ct ws hl)
theorem Post.toE {α β : Type} {Rel : Hp → List Addr → α → β → Prop} {K : PySem.W.Frag} {X : WX} {σ : L2.St} {I : Hp} {μ : List Addr} {r : Res α} {Q : β → Hp → Prop} (h : Post Rel K X σ I μ r Q) : Post Rel K (XF (WE X σ)) [] I μ r Q := by
  cases r with
  | ok w L => exact h
  | exc c th L => exact h
  | bad => exact h
def mCall (f : Fs) (a : AM) : EM := fun env L => (a env L).bind f
section
variable {X : Cx} {Wx : WX} {x : Str} {e : Expr} {es : List Expr} {f : Addr} {fd : FuncData} {ps : List Str} {k : Nat} {m : Fs} {ms : AM} {p pos : Pos}
theorem run_g {pins : List (Addr × Obj)} {σ : L2.St} {H : Hp} {s : Shared} {Q : VK} {sp : Sp} {args : Args} {us : List Value} {vs : List V} (tk : Takes X Wx) (F : FnG X.prog X.w X.K X.mg X.base k f fd ps sp) (hr : Rm k X.A)
    (I : Inv X pins σ H s) (hb : BindsTo s fd args (ps.zip us)) (r : Vals vs us) (h : sp vs H Q (WE Wx σ)) : codeAny (model X.prog X.w) X.A (.call (.ref f) args) (fun r s' => match r with
      | .ok (.ret u) => EP X pins σ Q u s'
      | .ok _ => False
      | .error e => X.xe e s') s := by
  refine codeAny_mono (F.run X.A X.stack s H args us vs Q _ hr I.env0 hb r h) fun o s' hq => ?_
  match o, hq with
  | .ok (.ret u), q => exact I.after q
  | .error e, q => exact passAt tk σ pins H s e s' I q
/-- so many arguments -/
def AM.len (a : AM) (n : Nat) : Prop := ∀ env L ws L1, a env L = .ok ws L1 → ws.length = n
theorem len_nil : aNil.len 0 := fun _ _ _ _ h => by cases h; rfl
theorem len_cons {a : EM} {r : AM} {n : Nat} (h : r.len n) : (aCons a r).len (n + 1) := fun env L ws L1 q => by
  unfold aCons at q
  cases ea : a env L with
  | ok x L2 =>
    rw [ea] at q
    simp only [Res.bind] at q
    cases eb : r env L2 with
    | ok xs L3 => rw [eb] at q; simp only [Res.ok.injEq] at q; rw [← q.1]; simp [h _ _ _ _ eb]
    | exc c th L3 => rw [eb] at q; cases q
    | bad => rw [eb] at q; cases q
  | exc c th L2 => rw [ea] at q; cases q
  | bad => rw [ea] at q; cases q
theorem re_call (tk : Takes X Wx) (F : Fx X.prog X.w X.K X.mg X.base k f fd ps m) (hr : Rm k X.A) (hg : Gl X x) (hm : X.mg x = some (.ref f)) (ha : RA X Wx (e :: es) ms) (hn : ms.len ps.length) (hdb : (x == ("__debug__" : Str)) = false := by decide)
    (he : starEach (e :: es) X.env = (false, eval e X.env) :: starEach es X.env := by rfl) (hpl : (backTo pos (starEach es X.env)).any (·.1) = false := by rfl) : RE X Wx (.Call (.Name x p) (e :: es) [] pos) (mCall m ms) := by
  refine ⟨fun pins s σ H Q I ⟨env, L, IS, μ, er, hR, h⟩ => wpAny_Call_Name_kw (ld_glob I hg hm ?_ hdb)⟩
  refine PySem.W.callWith_K (h₀ := X.base) I.ok.mod.kin F.kp (thn (ha.run pos pins s σ H _ I (TG.seq' er hR h)) fun us s1 ⟨vs, H1, I1, r, L1, IS1, μ1, ws, e1, er1, hr1, r1, h1, q1⟩ => ⟨I1.kIn, wpAny_call (codeAny_mono
    (run_g tk F.ok hr I1 (us := us) (by have e := F.bd s1 us I1.kIn; rw [List.append_nil] at e; exact e (by rw [← r.length, ← r1.length]; exact hn _ _ _ _ q1)) r ⟨ws, L1, IS1, μ1, hn _ _ _ _ q1, r1, hr1, h1.toE⟩) fun o s' hq => ?_)⟩) he hpl
  match o, hq with
  | .ok (.ret u), q => exact q
  | .error e, q => exact q
/-- by name alone -/
def pick (ps ks : List Str) (ws : List W) : List W := ps.filterMap fun p => (ks.zip ws).lookup p
def mCallK (f : Fs) (ps ks : List Str) (a : AM) : EM := fun env L => (a env L).bind fun ws L1 => if (pick ps ks ws).length = ps.length then f (pick ps ks ws) L1 else .bad
theorem RWs.pick {K : PySem.W.Frag} {I : Hp} {μ : List Addr} {ks : List Str} : ∀ {ps : List Str} {ws : List W} {vs : List V} {us : List Value}, RWs K I μ ws vs → Vals vs us →
    ∃ zs, RWs K I μ (MP.pick ps ks ws) zs ∧ Vals zs (ps.filterMap fun p => (ks.zip us).lookup p)
  | [], _, _, _, _, _ => ⟨[], .nil, .nil⟩
  | p :: ps, ws, vs, us, r, rv => by
    obtain ⟨zs, h1, h2⟩ := RWs.pick (ks := ks) (ps := ps) r rv
    have key : ∀ {ks : List Str} {ws : List W} {vs : List V} {us : List Value}, RWs K I μ ws vs → Vals vs us → ((ks.zip ws).lookup p = none ∧ (ks.zip us).lookup p = none) ∨ ∃ w v u, (ks.zip ws).lookup p = some w ∧ (ks.zip us).lookup p = some u ∧ RW K I μ w v ∧ RelV v u := by
      intro ks
      induction ks with
      | nil => intro ws vs us _ _; left; simp
      | cons q ks ih =>
        intro ws vs us r rv
        cases r with
        | nil => cases rv; left; simp
        | cons r1 rt =>
          cases rv with
          | cons v1 vt =>
            by_cases e : p = q
            · subst e; right; exact ⟨_, _, _, by simp, by simp, r1, v1⟩
            · have e2 : (p == q) = false := by simpa using e
              rcases ih rt vt with ⟨a, b⟩ | ⟨w, v, u, a, b, c, d⟩
              · left; simp [List.lookup_cons, e2, a, b]
              · right; exact ⟨w, v, u, by simp [List.lookup_cons, e2, a], by simp [List.lookup_cons, e2, b], c, d⟩
    unfold MP.pick at h1 ⊢
    rcases key r rv with ⟨a, b⟩ | ⟨w, v, u, a, b, c, d⟩
    · exact ⟨zs, by rw [List.filterMap_cons_none (by exact a)]; exact h1, by rw [List.filterMap_cons_none (by exact b)]; exact h2⟩
    · exact ⟨v :: zs, by rw [List.filterMap_cons_some (by exact a)]; exact .cons c h1, by rw [List.filterMap_cons_some (by exact b)]; exact .cons d h2⟩
/-- keyword arguments -/
abbrev RK (X : Cx) (Wx : WX) (kws : List Keyword) (m : AM) : Prop := PK X kws (TA X.K Wx m)
theorem _root_.L2.PK.imp {X : Cx} {e : List Keyword} {t t' : L2.TA} (h : PK X e t) (i : ∀ σ H Q, t' σ H Q → t σ H Q) : PK X e t' :=
  ⟨fun pos pins s σ H Q I q => h.run pos pins s σ H Q I (i σ H Q q)⟩
theorem rk_nil : RK X Wx [] aNil := pk_nil.imp fun σ H Q ⟨env, L, I, μ, er, hr, h⟩ => TG.ret h hr .nil
theorem rk_cons {kws : List Keyword} {nm : Option Str} {a : EM} {kpos : Pos} (ha : RE X Wx e a) (hb : RK X Wx kws ms) : RK X Wx (⟨nm, e, kpos⟩ :: kws) (aCons a ms) := by
  refine (pk_cons ha hb).imp fun σ H Q ⟨env, L, I, μ, er, hr, h⟩ => ?_
  refine (TG.seq er hr h).imp fun v H1 ⟨L1, I1, μ1, w1, e1, er1, hr1, r1, h1⟩ => ?_
  refine (TG.seq er1 hr1 h1).imp fun v2 H2 ⟨L2, I2, μ2, w2, e2, er2, hr2, r2, h2⟩ => ?_
  exact TG.ret h2 hr2 (.cons (r1.mono e2) r2)
theorem re_callK {kws : List Keyword} {ks : List Str} (tk : Takes X Wx) (F : Fx X.prog X.w X.K X.mg X.base k f fd ps m) (hr : Rm k X.A) (hg : Gl X x) (hm : X.mg x = some (.ref f)) (ha : RK X Wx kws ms) (hn : ms.len ks.length) (kb : KB fd ps ks)
    (hall : (backToKw pos (keywordEach kws X.env)).all (·.1.isSome) = true := by rfl) (hks : (backToKw pos (keywordEach kws X.env)).filterMap (·.1) = ks := by rfl) (hdb : (x == ("__debug__" : Str)) = false := by decide)
    (hpl : ((backTo pos (starEach [] X.env)).any (·.1) || (backToKw pos (keywordEach kws X.env)).any (·.1.isNone)) = false := by rfl) : RE X Wx (.Call (.Name x p) [] kws pos) (mCallK m ps ks ms) := by
  refine ⟨fun pins s σ H Q I h => ?_⟩
  obtain ⟨env, L, IS, μ, er, hR, h⟩ := h
  refine wpAny_Call_Name_kw (ld_glob I hg hm ?_ hdb)
  refine PySem.W.callWith_KW0 (h₀ := X.base) I.ok.mod.kin F.kp hall (thn (ha.run pos pins s σ H _ I (TG.seq' er hR h)) fun us s1 ⟨vs, H1, I1, r, q⟩ => ⟨I1.kIn, ?_⟩) hpl
  obtain ⟨L1, IS1, μ1, ws, e1, er1, hr1, r1, h1, q1⟩ := q
  rw [hks]
  split at h1
  · rename_i hlen
    obtain ⟨zs, g1, g2⟩ := RWs.pick (ks := ks) (ps := ps) r1 r
    have hz : (ps.filterMap fun p => (ks.zip us).lookup p).length = ps.length := by rw [← g2.length, ← g1.length, hlen]
    have hus : us.length = ks.length := by rw [← r.length, ← r1.length, hn _ _ _ _ q1]
    refine wpAny_call (codeAny_mono (run_g tk F.ok hr I1 (kb s1 us hus) g2 ⟨_, L1, IS1, μ1, hlen, g1, hr1, h1.toE⟩) fun o s' hq => ?_)
    match o, hq with
    | .ok (.ret u), q => exact q
    | .error e, q => exact q
  · exact h1.elim
end
end MP
namespace MP
open PySem PySem.Spec PyProof.Rows L2
/-- what a statement comes to -/
inductive SR where
  | nx (env : Ev) (L : LH) | bk (env : Ev) (L : LH) | ct (env : Ev) (L : LH) | rt (w : W) (L : LH) | exc (c : Addr) (th : D) (env : Ev) (L : LH) | bad
abbrev SM := Ev → LH → SR
def PostS (K : PySem.W.Frag) (X : WX) (I : Hp) (μ : List Addr) (r : SR) (D : Ends) : Prop := match r with
  | .nx env L' => ∀ I' μ' σ' H', Ext I μ I' μ' → HR K I' μ' L' H' → ER K I' μ' env σ' → D.nx σ' H'
  | .bk env L' => ∀ I' μ' σ' H', Ext I μ I' μ' → HR K I' μ' L' H' → ER K I' μ' env σ' → D.bk σ' H'
  | .ct env L' => ∀ I' μ' σ' H', Ext I μ I' μ' → HR K I' μ' L' H' → ER K I' μ' env σ' → D.ct σ' H'
  | .rt w L' => ∀ I' μ' v H', Ext I μ I' μ' → HR K I' μ' L' H' → RW K I' μ' w v → D.rt v H'
  | .exc c th env L' => ∀ I' μ' σ' H' cls d, Ext I μ I' μ' → HR K I' μ' L' H' → ER K I' μ' env σ' → XR K I' c th cls d → X cls d σ' H'
  | .bad => False
theorem PostS.ext {K : PySem.W.Frag} {X : WX} {I I' : Hp} {μ μ' : List Addr} {r : SR} {D : Ends} (h : PostS K X I μ r D) (e : Ext I μ I' μ') : PostS K X I' μ' r D := by
  cases r with
  | nx env L => exact fun I2 μ2 v H2 e2 => h I2 μ2 v H2 (e.trans e2)
  | bk env L => exact fun I2 μ2 v H2 e2 => h I2 μ2 v H2 (e.trans e2)
  | ct env L => exact fun I2 μ2 v H2 e2 => h I2 μ2 v H2 (e.trans e2)
  | rt w L => exact fun I2 μ2 v H2 e2 => h I2 μ2 v H2 (e.trans e2)
  | exc c th env L => exact fun I2 μ2 v H2 cls d e2 => h I2 μ2 v H2 cls d (e.trans e2)
  | bad => exact h
def TSm (K : PySem.W.Frag) (X : WX) (m : SM) : L2.TS := fun D σ H => ∃ env L I μ, ER K I μ env σ ∧ HR K I μ L H ∧ PostS K X I μ (m env L) D
abbrev RS (X : Cx) (Wx : WX) (s : Stmt) (m : SM) : Prop := PS X s (TSm X.K Wx m)
abbrev RSs (X : Cx) (Wx : WX) (s : List Stmt) (m : SM) : Prop := PSs X s (TSm X.K Wx m)
theorem _root_.L2.PS.imp {X : Cx} {e : Stmt} {t t' : L2.TS} (h : PS X e t) (i : ∀ D σ H, t' D σ H → t D σ H) : PS X e t' :=
  ⟨fun pins s σ H D I q => h.run pins s σ H D I (i D σ H q)⟩
theorem _root_.L2.PSs.imp {X : Cx} {e : List Stmt} {t t' : L2.TS} (h : PSs X e t) (i : ∀ D σ H, t' D σ H → t D σ H) : PSs X e t' :=
  ⟨fun pins s σ H D I q => h.run pins s σ H D I (i D σ H q)⟩
def ofE {α : Type} (r : Res α) (env : Ev) (k : α → LH → SR) : SR := match r with
  | .ok a L => k a L
  | .exc c th L => .exc c th env L
  | .bad => .bad
theorem TG.stm {α β : Type} {Rel : Hp → List Addr → α → β → Prop} {K : PySem.W.Frag} {X : WX} {m : Ev → LH → Res α} {k : α → LH → SR} {σ : L2.St} {H I : Hp} {μ : List Addr} {env : Ev} {L : LH} {D : Ends}
    (er : ER K I μ env σ) (hr : HR K I μ L H) (h : PostS K X I μ (ofE (m env L) env k) D) :
    TG Rel K X m σ H (fun v H1 => ∃ L1 I1 μ1 w, Ext I μ I1 μ1 ∧ ER K I1 μ1 env σ ∧ HR K I1 μ1 L1 H1 ∧ Rel I1 μ1 w v ∧ PostS K X I1 μ1 (k w L1) D) := by
  refine ⟨env, L, I, μ, er, hr, ?_⟩
  cases e : m env L with
  | ok w L1 =>
    rw [e] at h
    exact fun I1 μ1 v H1 e1 hr1 rw1 => ⟨L1, I1, μ1, w, e1, er.mono e1, hr1, rw1, PostS.ext h e1⟩
  | exc c th L1 => rw [e] at h; exact fun I1 μ1 H1 cls d e1 hr1 xr => h I1 μ1 σ H1 cls d e1 hr1 (er.mono e1) xr
  | bad => rw [e] at h; exact h
theorem ER.set {K : PySem.W.Frag} {I : Hp} {μ : List Addr} {env : Ev} {σ : L2.St} (er : ER K I μ env σ) {w : W} {v : V} (i : Nat) (r : RW K I μ w v) : ER K I μ (env.set i (some w)) (σ.set i (some v)) := by
  refine ⟨by simp [er.1], fun j u h => ?_⟩
  by_cases e : j = i
  · subst e
    have hj := (List.getElem?_eq_some_iff.mp h).1
    rw [List.length_set] at hj
    rw [List.getElem?_set_self hj] at h
    cases h
    exact ⟨v, by rw [List.getElem?_set_self (by rw [← er.1]; exact hj)], r⟩
  · rw [List.getElem?_set_ne (Ne.symm e)] at h
    obtain ⟨v', h1, h2⟩ := er.2 j u h
    exact ⟨v', by rw [List.getElem?_set_ne (Ne.symm e)]; exact h1, h2⟩

def sNil : SM := fun env L => .nx env L
def sSeq (a b : SM) : SM := fun env L => match a env L with
  | .nx env' L' => b env' L'
  | r => r
def sBreak : SM := fun env L => .bk env L
def sCont : SM := fun env L => .ct env L
def sExpr (a : EM) : SM := fun env L => ofE (a env L) env fun _ L1 => .nx env L1
def sRet (a : EM) : SM := fun env L => ofE (a env L) env fun w L1 => .rt w L1
def sRetN : SM := fun _ L => .rt (.d .non) L
def sIf (c : BM) (a b : SM) : SM := fun env L => ofE (c env L) env fun x L1 => if x = true then a env L1 else b env L1
/-! targets -/
abbrev GM := LH → W → Ev → Option Ev
abbrev GsM := LH → List D → Ev → Option Ev
def gNm (i : Nat) : GM := fun _ w env => some (env.set i (some w))
def gTu (n : Nat) (gs : GsM) : GM := fun L w env => match rd L w with
  | some (.tup xs) => if xs.length = n then gs L xs env else none
  | _ => none
def gsNil : GsM := fun _ xs env => match xs with
  | [] => some env
  | _ => none
def gsCons (g : GM) (gs : GsM) : GsM := fun L xs env => match xs with
  | x :: r => (g L (.d x) env).bind (gs L r)
  | [] => none
/-- no slots but these have changed -/
def Ow (own : List Nat) (σ σ' : L2.St) : Prop := σ'.length = σ.length ∧ ∀ i, i ∉ own → σ'[i]? = σ[i]?
theorem Ow.refl (own : List Nat) (σ : L2.St) : Ow own σ σ := ⟨rfl, fun _ _ => rfl⟩
def TGt (K : PySem.W.Frag) (own : List Nat) (g : GM) : L2.TG := fun v σ H Q => ∃ env L I μ w env', ER K I μ env σ ∧ HR K I μ L H ∧ RW K I μ w v ∧ g L w env = some env' ∧ ∀ σ', ER K I μ env' σ' → Ow own σ σ' → Q σ' H
def TGts (K : PySem.W.Frag) (own : List Nat) (g : GsM) : L2.TGs := fun vs σ H Q => ∃ env L I μ xs env', ER K I μ env σ ∧ HR K I μ L H ∧ RDs K I xs vs ∧ g L xs env = some env' ∧ ∀ σ', ER K I μ env' σ' → Ow own σ σ' → Q σ' H
abbrev RG (X : Cx) (own : List Nat) (tg : Expr) (g : GM) : Prop := PG X tg (TGt X.K own g)
abbrev RGs (X : Cx) (own : List Nat) (tg : List Expr) (g : GsM) : Prop := PGs X tg (TGts X.K own g)
theorem _root_.L2.PG.imp {X : Cx} {e : Expr} {t t' : L2.TG} (h : PG X e t) (i : ∀ v σ H Q, t' v σ H Q → t v σ H Q) : PG X e t' :=
  ⟨fun pins s σ H v u Q I r q => h.run pins s σ H v u Q I r (i v σ H Q q)⟩
theorem _root_.L2.PGs.imp {X : Cx} {e : List Expr} {t t' : L2.TGs} (h : PGs X e t) (i : ∀ v σ H Q, t' v σ H Q → t v σ H Q) : PGs X e t' :=
  ⟨fun pins s σ H v u Q I r q => h.run pins s σ H v u Q I r (i v σ H Q q)⟩
section
variable {X : Cx} {Wx : WX} {st : Stmt} {sts rest : List Stmt} {a b : SM} {e c : Expr} {m : EM} {bm : BM} {pos : Pos} {g : GM} {gs : GsM}
theorem rs_nil : RSs X Wx [] sNil := pss_nil.imp fun D σ H ⟨env, L, I, μ, er, hr, h⟩ => h I μ σ H (.refl _ _) hr er
theorem rs_cons (h1 : RS X Wx st a) (h2 : RSs X Wx rest b) : RSs X Wx (st :: rest) (sSeq a b) := by
  refine (pss_cons h1 h2).imp fun D σ H ⟨env, L, I, μ, er, hr, h⟩ => ⟨env, L, I, μ, er, hr, ?_⟩
  unfold sSeq at h
  cases q : a env L with
  | nx env' L' =>
    rw [q] at h
    exact fun I' μ' σ' H' e1 hr1 er1 => ⟨env', L', I', μ', er1, hr1, PostS.ext h e1⟩
  | bk env' L' => rw [q] at h; exact h
  | ct env' L' => rw [q] at h; exact h
  | rt w L' => rw [q] at h; exact h
  | exc c th env' L' => rw [q] at h; exact h
  | bad => rw [q] at h; exact h
theorem rs_pass : RS X Wx (.Pass pos) sNil := ps_pass.imp fun D σ H ⟨env, L, I, μ, er, hr, h⟩ => h I μ σ H (.refl _ _) hr er
theorem rs_doc {x j pos'} : RS X Wx (.Expr (.Constant (.str x) j pos) pos') sNil := ps_doc.imp fun D σ H ⟨env, L, I, μ, er, hr, h⟩ => h I μ σ H (.refl _ _) hr er
theorem rs_break : RS X Wx (.Break pos) sBreak := ps_break.imp fun D σ H ⟨env, L, I, μ, er, hr, h⟩ => h I μ σ H (.refl _ _) hr er
theorem rs_cont : RS X Wx (.Continue pos) sCont := ps_continue.imp fun D σ H ⟨env, L, I, μ, er, hr, h⟩ => h I μ σ H (.refl _ _) hr er
theorem rs_expr (he : RE X Wx e m) (hs : swapsWith e none pos.line X.env = pure false := by rfl) : RS X Wx (.Expr e pos) (sExpr m) := by
  refine (ps_expr he hs).imp fun D σ H ⟨env, L, I, μ, er, hr, h⟩ => ?_
  exact (TG.stm er hr h).imp fun v1 H1 ⟨L1, I1, μ1, w1, e1, er1, hr1, r1, h1⟩ => h1 I1 μ1 σ H1 (.refl _ _) hr1 er1
theorem rs_ret (he : RE X Wx e m) : RS X Wx (.Return (some e) pos) (sRet m) := by
  refine (ps_ret he).imp fun D σ H ⟨env, L, I, μ, er, hr, h⟩ => ?_
  exact (TG.stm er hr h).imp fun v1 H1 ⟨L1, I1, μ1, w1, e1, er1, hr1, r1, h1⟩ => h1 I1 μ1 v1 H1 (.refl _ _) hr1 r1
theorem rs_retN : RS X Wx (.Return none pos) sRetN := ps_retN.imp fun D σ H ⟨env, L, I, μ, er, hr, h⟩ => h I μ .non H (.refl _ _) hr (.d .non)
theorem rs_if (hc : RT X Wx c bm) (ha : RSs X Wx sts a) (hb : RSs X Wx rest b) : RS X Wx (.If c sts rest pos) (sIf bm a b) := by
  refine (ps_if hc ha hb).imp fun D σ H ⟨env, L, I, μ, er, hr, h⟩ => ?_
  refine (TG.stm er hr h).imp fun v1 H1 ⟨L1, I1, μ1, w1, e1, er1, hr1, r1, h1⟩ => ?_
  subst r1
  refine ite2 (fun e => ?_) (fun e => ?_)
  · rw [if_pos e] at h1; exact ⟨env, L1, I1, μ1, er1, hr1, h1⟩
  · rw [if_neg e] at h1; exact ⟨env, L1, I1, μ1, er1, hr1, h1⟩
/-! targets -/
theorem rg_name {i : Nat} {x : Str} (hN : X.N.Nodup) (hi : X.N[i]? = some x := by rfl) (hx : Loc X.env.scope x := by first | exact .inl rfl | exact .inr rfl) (hf : X.fn x = true ∨ X.env.scope.names.lookup x = some .local := by first | exact .inl rfl | exact .inr rfl | assumption) : RG X [i] (.Name x pos) (gNm i) := by
  refine (pg_name hN hi hx hf).imp fun v σ H Q ⟨env, L, I, μ, w, env', er, hr, r, h, q⟩ => ?_
  cases h
  exact q _ (er.set i r) ⟨by simp, fun j hj => by rw [List.getElem?_set_ne (fun z => hj (by simp [z]))]⟩
theorem rgs_nil : RGs X [] [] gsNil := by
  refine pgs_nil.imp fun v σ H Q ⟨env, L, I, μ, xs, env', er, hr, r, h, q⟩ => ?_
  cases r with
  | nil => cases h; exact ⟨rfl, q _ er (.refl _ _)⟩
  | cons _ _ => cases h
theorem rgs_cons {es : List Expr} {o1 o2 : List Nat} (h1 : RG X o1 e g) (h2 : RGs X o2 es gs) (hs : (assignEach (e :: es) X.env).map (·.2) = assign e X.env :: (assignEach es X.env).map (·.2) := by rfl) : RGs X (o1 ++ o2) (e :: es) (gsCons g gs) := by
  refine (pgs_cons h1 h2 hs).imp fun vs σ H Q ⟨env, L, I, μ, xs, env', er, hr, r, h, q⟩ => ?_
  cases r with
  | nil => cases h
  | @cons x v xs vs r1 rt =>
    unfold gsCons at h
    dsimp only at h
    cases e1 : g L (.d x) env with
    | none => rw [e1] at h; cases h
    | some env1 =>
      rw [e1, Option.bind_some] at h
      exact ⟨v, vs, rfl, env, L, I, μ, .d x, env1, er, hr, .d r1, e1, fun σ' er' ow => ⟨env1, L, I, μ, xs, env', er', hr, rt, h, fun σ2 er2 ow2 => q σ2 er2 ⟨ow2.1.trans ow.1, fun j hj => (ow2.2 j fun z => hj (List.mem_append_right _ z)).trans (ow.2 j fun z => hj (List.mem_append_left _ z))⟩⟩⟩
theorem rg_tup {es : List Expr} {own : List Nat} {k : Nat} {n : Nat} (hc : X.calm = true) (h : RGs X own es gs) (hn : (assignEach es X.env).length = n := by rfl) (hst : (assignEach es X.env).findIdx? (·.1) = none := by rfl) : RG X own (.Tuple es k pos) (gTu n gs) := by
  refine (pg_tup hc h hn hst).imp fun v σ H Q ⟨env, L, I, μ, w, env', er, hr, r, h, q⟩ => ?_
  unfold gTu at h
  split at h
  · rename_i xs ex
    split at h
    · rename_i hl
      cases (hr.rd r ex : RD _ _ _ _) with | tup hp rp =>
      exact ⟨_, _, rfl, sqT_mono hr.sub hp, by rw [← rp.length]; exact hl, env, L, I, μ, xs, env', er, hr, rp, h, q⟩
    · cases h
  · cases h
end
def sAsg (a : EM) (g : GM) : SM := fun env L => ofE (a env L) env fun w L1 => match g L1 w env with
  | some env' => .nx env' L1
  | none => .bad
def sPar2 (i j : Nat) (a : AM) : SM := fun env L => ofE (a env L) env fun ws L1 => match ws with
  | [x, y] => .nx ((env.set i (some x)).set j (some y)) L1
  | _ => .bad
def sPar3 (i j l : Nat) (a : AM) : SM := fun env L => ofE (a env L) env fun ws L1 => match ws with
  | [x, y, z] => .nx (((env.set i (some x)).set j (some y)).set l (some z)) L1
  | _ => .bad
def sAug (i : Nat) (f : D → D → Option D) (a : EM) : SM := fun env L => match env[i]? with
  | some (some w) => ofE (a env L) env fun y L1 => match (rd L1 w).bind fun x => (rd L1 y).bind (f x) with
    | some z => .nx (env.set i (some (.d z))) L1
    | none => .bad
  | _ => .bad
section
variable {X : Cx} {Wx : WX} {e c : Expr} {m : EM} {ms : AM} {pos : Pos} {g : GM} {f : D → D → Option D}
theorem rs_asg {tg : Expr} {own : List Nat} (he : RE X Wx e m) (hg : RG X own tg g) (hs : swapsWithSole [tg] e pos.line X.env = pure false := by rfl) (hw : swappedStores [tg] e X.env = pure none := by rfl) (h1 : (assignEach [tg] X.env).map (·.2) = [assign tg X.env] := by rfl) :
    RS X Wx (.Assign [tg] e pos) (sAsg m g) := by
  refine (ps_asg he hg hs hw h1).imp fun D σ H ⟨env, L, I, μ, er, hr, h⟩ => ?_
  refine (TG.stm er hr h).imp fun v1 H1 ⟨L1, I1, μ1, w1, e1, er1, hr1, r1, h1⟩ => ?_
  split at h1
  · rename_i env' eg
    exact ⟨env, L1, I1, μ1, w1, env', er1, hr1, r1, eg, fun σ' er' _ => h1 I1 μ1 σ' H1 (.refl _ _) hr1 er'⟩
  · exact h1.elim
theorem rs_set {i : Nat} {x : Str} {pos' : Pos} (he : RE X Wx e m) (hN : X.N.Nodup) (hi : X.N[i]? = some x := by rfl) (hx : Loc X.env.scope x := by first | exact .inl rfl | exact .inr rfl) (hs : swapsWith e (some (.Name x pos')) pos.line X.env = pure false := by rfl) (hf : X.fn x = true ∨ X.env.scope.names.lookup x = some .local := by first | exact .inl rfl | exact .inr rfl | assumption) :
    RS X Wx (.Assign [.Name x pos'] e pos) (sAsg m (gNm i)) := by
  refine (ps_set hN hi hx he hs hf).imp fun D σ H ⟨env, L, I, μ, er, hr, h⟩ => ?_
  refine (TG.stm er hr h).imp fun v1 H1 ⟨L1, I1, μ1, w1, e1, er1, hr1, r1, h1⟩ => ?_
  exact h1 I1 μ1 _ H1 (.refl _ _) hr1 (er1.set i r1)
theorem rs_par2 {i j : Nat} {x y : Str} {a b : Expr} {px py pt : Pos} {kt k2 pt2} (ha : RA X Wx [a, b] ms) (hc : X.calm = true) (hN : X.N.Nodup) (hi : X.N[i]? = some x := by rfl) (hj : X.N[j]? = some y := by rfl) (hij : i ≠ j := by decide)
    (hx : X.env.scope.names.lookup x = some .local := by rfl) (hy : X.env.scope.names.lookup y = some .local := by rfl) (hw : swappedStores [.Tuple [.Name x px, .Name y py] kt pt] (.Tuple [a, b] k2 pt2) X.env = pure (some [x, y]) := by rfl)
    (hs : swapsWithSole [.Tuple [.Name x px, .Name y py] kt pt] (.Tuple [a, b] k2 pt2) pos.line X.env = pure false := by rfl) :
    RS X Wx (.Assign [.Tuple [.Name x px, .Name y py] kt pt] (.Tuple [a, b] k2 pt2) pos) (sPar2 i j ms) := by
  refine (ps_par hc hN hi hj hij hx hy ha hw hs).imp fun D σ H ⟨env, L, I, μ, er, hr, h⟩ => ?_
  refine (TG.stm er hr h).imp fun v1 H1 ⟨L1, I1, μ1, ws, e1, er1, hr1, r1, h1⟩ => ?_
  split at h1
  · cases r1 with | cons ra rt =>
    cases rt with | cons rb rt =>
    cases rt
    exact ⟨_, _, rfl, h1 I1 μ1 _ H1 (.refl _ _) hr1 ((er1.set i ra).set j rb)⟩
  · exact h1.elim
theorem rs_par3 {i j l : Nat} {x y z : Str} {a b c : Expr} {px py pz pt : Pos} {kt k2 pt2} (ha : RA X Wx [a, b, c] ms) (hc : X.calm = true) (hN : X.N.Nodup) (hi : X.N[i]? = some x := by rfl) (hj : X.N[j]? = some y := by rfl) (hl : X.N[l]? = some z := by rfl) (hij : i ≠ j := by decide) (hil : i ≠ l := by decide) (hjl : j ≠ l := by decide)
    (hx : X.env.scope.names.lookup x = some .local := by rfl) (hy : X.env.scope.names.lookup y = some .local := by rfl) (hz : X.env.scope.names.lookup z = some .local := by rfl) (hw : swappedStores [.Tuple [.Name x px, .Name y py, .Name z pz] kt pt] (.Tuple [a, b, c] k2 pt2) X.env = pure (some [x, y, z]) := by rfl)
    (hs : swapsWithSole [.Tuple [.Name x px, .Name y py, .Name z pz] kt pt] (.Tuple [a, b, c] k2 pt2) pos.line X.env = pure false := by rfl) :
    RS X Wx (.Assign [.Tuple [.Name x px, .Name y py, .Name z pz] kt pt] (.Tuple [a, b, c] k2 pt2) pos) (sPar3 i j l ms) := by
  refine (ps_par3 hc hN hi hj hl hij hil hjl hx hy hz ha hw hs).imp fun D σ H ⟨env, L, I, μ, er, hr, h⟩ => ?_
  refine (TG.stm er hr h).imp fun v1 H1 ⟨L1, I1, μ1, ws, e1, er1, hr1, r1, h1⟩ => ?_
  split at h1
  · cases r1 with | cons ra rt =>
    cases rt with | cons rb rt =>
    cases rt with | cons rc rt =>
    cases rt
    exact ⟨_, _, _, rfl, h1 I1 μ1 _ H1 (.refl _ _) hr1 (((er1.set i ra).set j rb).set l rc)⟩
  · exact h1.elim
theorem rs_aug {i : Nat} {x : Str} {op : Operator} {r : R2} {pos' : Pos} (ho : OpR X (inplaceOp op) r) (hs : Op2 X.K f r) (he : RE X Wx e m) (hN : X.N.Nodup) (hi : X.N[i]? = some x := by rfl) (hx : Loc X.env.scope x := by first | exact .inl rfl | exact .inr rfl) (hf : X.fn x = true ∨ X.env.scope.names.lookup x = some .local := by first | exact .inl rfl | exact .inr rfl | assumption) :
    RS X Wx (.AugAssign (.Name x pos') op e pos) (sAug i f m) := by
  refine (ps_aug (ti := r) hN hi hx he ho hf).imp fun D σ H ⟨env, L, I, μ, er, hr, h⟩ => ?_
  unfold sAug at h
  split at h
  · rename_i w ew
    obtain ⟨v, hv, rv⟩ := er.2 i w ew
    refine ⟨v, hv, (TG.stm er hr h).imp fun v1 H1 ⟨L1, I1, μ1, w1, e1, er1, hr1, r1, h1⟩ => ?_⟩
    split at h1
    · rename_i z ez
      cases ex : rd L1 w with
      | none => rw [ex] at ez; cases ez
      | some xx =>
        rw [ex, Option.bind_some] at ez
        cases ey : rd L1 w1 with
        | none => rw [ey] at ez; cases ez
        | some yy =>
          rw [ey, Option.bind_some] at ez
          exact hs I1 H1 xx yy z v v1 _ hr1.sub ez (hr1.rd (rv.mono e1) ex) (hr1.rd r1 ey) fun I' H' v' gr rz =>
            h1 I' μ1 _ H' (Ext.of μ1 (gr.same hr1.sub).1) (gr.hr hr1) ((er1.mono (Ext.of μ1 (gr.same hr1.sub).1)).set i (.d rz))
    · exact h1.elim
  · exact h.elim
theorem s_addI {K : PySem.W.Frag} : Op2 K (fun x y => match x, y with | .int i, .int j => some (.int (i + j)) | _, _ => none) (rI0 fun i j => .int (i + j)) := by
  intro I H x y z v u Q s e rx ry q
  dsimp only at e
  split at e
  · cases (rx : RD _ _ _ _)
    cases (ry : RD _ _ _ _)
    cases e
    exact ⟨_, _, rfl, rfl, q _ _ _ .refl (.int _)⟩
  · cases e
def addI : D → D → Option D
  | .int i, .int j => some (.int (i + j))
  | _, _ => none
theorem s_addI' {K : PySem.W.Frag} : Op2 K addI (rI0 fun i j => .int (i + j)) := by
  intro I H x y z v u Q s e rx ry q
  unfold addI at e
  split at e
  · cases (rx : RD _ _ _ _)
    cases (ry : RD _ _ _ _)
    cases e
    exact ⟨_, _, rfl, rfl, q _ _ _ .refl (.int _)⟩
  · cases e
end
end MP
namespace MP
open PySem PySem.Spec PyProof.Rows L2
open Classical in
/-- what is walked: its items, and while what stands -/
structure Its where
  items : List D
  same : LH → Prop
/-- the iterator yields the items -/
def RIt (K : PySem.W.Frag) : Hp → List Addr → Its → L2.It → Prop := fun I μ its J =>
  ∀ (i : Nat) (I' : Hp) (μ' : List Addr) (L' : LH) (H' : Hp), Ext I μ I' μ' → HR K I' μ' L' H' → its.same L' →
    (i = its.items.length → J.stop i H') ∧ ∀ x, its.items[i]? = some x → J.go i H' ∧ ∀ v H'', J.yld i H' v H'' → ∃ I'', Same I' I'' ∧ HR K I'' μ' L' H'' ∧ RD K I'' x v
abbrev IM := Ev → LH → Res Its
abbrev RI (X : Cx) (Wx : WX) (tg iter : Expr) (m : IM) : Prop := PI X tg iter (TG (RIt X.K) X.K Wx m)
theorem _root_.L2.PI.imp {X : Cx} {tg e : Expr} {t t' : L2.TI} (h : PI X tg e t) (i : ∀ σ H Q, t' σ H Q → t σ H Q) : PI X tg e t' :=
  ⟨fun pins s σ H Q I q => h.run pins s σ H Q I (i σ H Q q)⟩
theorem _root_.L2.PI.or {X : Cx} {tg e : Expr} {t t' : L2.TI} (h : PI X tg e t) (h' : PI X tg e t') : PI X tg e (fun σ H Q => t σ H Q ∨ t' σ H Q) :=
  ⟨fun pins s σ H Q I q => q.elim (h.run pins s σ H Q I) (h'.run pins s σ H Q I)⟩

open Classical in
noncomputable def forM (g : GM) (body : SM) (its : Its) : List D → Ev → LH → SR
  | [], env, L => if its.same L then .nx env L else .bad
  | x :: r, env, L => if its.same L then
      match g L (.d x) env with
      | some env' => match body env' L with
        | .nx e L' => forM g body its r e L'
        | .ct e L' => forM g body its r e L'
        | .bk e L' => .nx e L'
        | .rt w L' => .rt w L'
        | .exc c th e L' => .exc c th e L'
        | .bad => .bad
      | none => .bad
    else .bad
noncomputable def sFor (im : IM) (g : GM) (body : SM) : SM := fun env L => ofE (im env L) env fun its L1 => forM g body its its.items env L1
def whileN (c : BM) (body : SM) : Nat → Ev → LH → SR
  | 0, _, _ => .bad
  | n + 1, env, L => ofE (c env L) env fun b L1 => if b = true then
      match body env L1 with
      | .nx e L' => whileN c body n e L'
      | .ct e L' => whileN c body n e L'
      | .bk e L' => .nx e L'
      | .rt w L' => .rt w L'
      | .exc c th e L' => .exc c th e L'
      | .bad => .bad
    else .nx env L1
open Classical in
noncomputable def sWhile (c : BM) (body : SM) : SM := fun env L => if h : ∃ n, whileN c body n env L ≠ .bad then whileN c body (Classical.choose h) env L else .bad
theorem whileN_more {c : BM} {body : SM} : ∀ {n : Nat} {env : Ev} {L : LH}, whileN c body n env L ≠ .bad → whileN c body (n + 1) env L = whileN c body n env L
  | 0, _, _, h => absurd rfl h
  | n + 1, env, L, h => by
    have e1 : whileN c body (n + 1) env L = ofE (c env L) env fun b L1 => if b = true then match body env L1 with
        | .nx e L' => whileN c body n e L'
        | .ct e L' => whileN c body n e L'
        | .bk e L' => .nx e L'
        | .rt w L' => .rt w L'
        | .exc c th e L' => .exc c th e L'
        | .bad => .bad
      else .nx env L1 := rfl
    have e2 : whileN c body (n + 1 + 1) env L = ofE (c env L) env fun b L1 => if b = true then match body env L1 with
        | .nx e L' => whileN c body (n + 1) e L'
        | .ct e L' => whileN c body (n + 1) e L'
        | .bk e L' => .nx e L'
        | .rt w L' => .rt w L'
        | .exc c th e L' => .exc c th e L'
        | .bad => .bad
      else .nx env L1 := rfl
    rw [e1] at h
    rw [e1, e2]
    cases ec : c env L with
    | ok b L1 =>
      rw [ec] at h
      simp only [ofE] at h ⊢
      by_cases hb : b = true
      · rw [if_pos hb] at h
        rw [if_pos hb, if_pos hb]
        cases eb : body env L1 with
        | nx e L' => rw [eb] at h; exact whileN_more h
        | ct e L' => rw [eb] at h; exact whileN_more h
        | bk e L' => rfl
        | rt w L' => rfl
        | exc c th e L' => rfl
        | bad => rfl
      · rw [if_neg hb, if_neg hb]
    | exc _ _ _ => rfl
    | bad => rfl
theorem whileN_le {c : BM} {body : SM} {n m : Nat} {env : Ev} {L : LH} (h : whileN c body n env L ≠ .bad) (hm : n ≤ m) : whileN c body m env L = whileN c body n env L := by
  induction hm with
  | refl => rfl
  | step hm ih => rw [whileN_more (by rw [ih]; exact h), ih]
/-- a loop that has ended is the loop -/
theorem sWhile_of {c : BM} {body : SM} {n : Nat} {env : Ev} {L : LH} (h : whileN c body n env L ≠ .bad) : sWhile c body env L = whileN c body n env L := by
  unfold sWhile
  rw [dif_pos ⟨n, h⟩]
  have hc := Classical.choose_spec (⟨n, h⟩ : ∃ n, whileN c body n env L ≠ .bad)
  rcases Nat.le_total n (Classical.choose (⟨n, h⟩ : ∃ n, whileN c body n env L ≠ .bad)) with q | q
  · exact whileN_le h q
  · exact (whileN_le hc q).symm
section
variable {X : Cx} {Wx : WX} {e c iter tg : Expr} {sts : List Stmt} {im : IM} {bm : BM} {g : GM} {body : SM} {pos : Pos}
theorem rs_while (hp : PassesOwn (model X.prog X.w) X.A X.env X.xe) (hc : RT X Wx c bm) (hb : RSs X Wx sts body) : RS X Wx (.While c sts [] pos) (sWhile bm body) := by
  refine (ps_while hp hc hb).imp fun D σ H ⟨env, L, I, μ, er, hr, h⟩ => ?_
  unfold sWhile at h
  split at h
  · rename_i hex
    refine ⟨fun m σ H => ∃ env L I μ, ER X.K I μ env σ ∧ HR X.K I μ L H ∧ PostS X.K Wx I μ (whileN bm body m env L) D, ⟨_, env, L, I, μ, er, hr, h⟩, fun m σ H hW => ?_⟩
    obtain ⟨env, L, I, μ, er, hr, h⟩ := hW
    cases m with
    | zero => exact h.elim
    | succ n =>
      refine (TG.stm er hr h).imp fun b H1 ⟨L1, I1, μ1, b', e1, er1, hr1, r1, h1⟩ => ?_
      have rb : b' = b := r1
      subst rb
      refine ite2 (fun eb => ?_) (fun eb => ?_)
      · rw [if_pos eb] at h1
        refine ⟨fun σ' H' => ∃ env L I μ, ER X.K I μ env σ' ∧ HR X.K I μ L H' ∧ PostS X.K Wx I μ (whileN bm body n env L) D, fun σ' H' hN => ⟨n, Nat.lt_succ_self n, hN⟩, env, L1, I1, μ1, er1, hr1, ?_⟩
        cases q : body env L1 with
        | nx e L' => rw [q] at h1; exact fun I' μ' σ' H' e2 hr2 er2 => ⟨e, L', I', μ', er2, hr2, PostS.ext h1 e2⟩
        | ct e L' => rw [q] at h1; exact fun I' μ' σ' H' e2 hr2 er2 => ⟨e, L', I', μ', er2, hr2, PostS.ext h1 e2⟩
        | bk e L' => rw [q] at h1; exact h1
        | rt w L' => rw [q] at h1; exact h1
        | exc c th e L' => rw [q] at h1; exact h1
        | bad => rw [q] at h1; exact h1
      · rw [if_neg eb] at h1
        exact h1 I1 μ1 σ H1 (.refl _ _) hr1 er1
  · exact h.elim
theorem rs_for (hp : PassesOwn (model X.prog X.w) X.A X.env X.xe) (hc : X.calm = true) {own : List Nat} (hi : RI X Wx tg iter im) (hg : RG X own tg g) (hb : RSs X Wx sts body) (hs : ∀ x, foldedSetIterable iter X.env x = pure x := by intro _; rfl) : RS X Wx (.For tg iter sts [] pos) (sFor im g body) := by
  refine (ps_for hp hc hi hg hb hs).imp fun D σ H ⟨env, L, I, μ, er, hr, h⟩ => ?_
  refine (TG.stm er hr h).imp fun J H1 ⟨L1, I1, μ1, its, e1, er1, hr1, rj, h1⟩ => ?_
  refine ⟨fun i m σ H => i + m = its.items.length ∧ ∃ env L I μ, Ext I1 μ1 I μ ∧ ER X.K I μ env σ ∧ HR X.K I μ L H ∧ PostS X.K Wx I μ (forM g body its (its.items.drop i) env L) D,
    ⟨its.items.length, by omega, env, L1, I1, μ1, .refl _ _, er1, hr1, h1⟩, fun i m σ H hW => ?_⟩
  obtain ⟨him, env, L, I, μ, ext, er, hr, h⟩ := hW
  by_cases hi : i < its.items.length
  · right
    rw [List.drop_eq_getElem_cons hi] at h
    unfold forM at h
    by_cases hsame : its.same L
    · rw [if_pos hsame] at h
      obtain ⟨hgo, hyl⟩ := (rj i I μ L H ext hr hsame).2 its.items[i] (List.getElem?_eq_getElem hi)
      refine ⟨hgo, fun σ' H' => ∃ env L I μ, Ext I1 μ1 I μ ∧ ER X.K I μ env σ' ∧ HR X.K I μ L H' ∧ PostS X.K Wx I μ (forM g body its (its.items.drop (i + 1)) env L) D, fun σ' H' hN => ⟨m - 1, by omega, by omega, hN⟩, fun v H' hy => ?_⟩
      obtain ⟨I2, s2, hr2, rx⟩ := hyl v H' hy
      have e2 := Ext.of μ s2
      split at h
      · rename_i env' eg
        refine ⟨env, L, I2, μ, _, env', er.mono e2, hr2, .d rx, eg, fun σ' er' _ => ⟨env', L, I2, μ, er', hr2, ?_⟩⟩
        cases q : body env' L with
        | nx e L' => rw [q] at h; exact fun I' μ' σ' H' e3 hr3 er3 => ⟨e, L', I', μ', ext.trans (e2.trans e3), er3, hr3, PostS.ext h (e2.trans e3)⟩
        | ct e L' => rw [q] at h; exact fun I' μ' σ' H' e3 hr3 er3 => ⟨e, L', I', μ', ext.trans (e2.trans e3), er3, hr3, PostS.ext h (e2.trans e3)⟩
        | bk e L' => rw [q] at h; exact PostS.ext (D := D) (r := .nx e L') h e2
        | rt w L' => rw [q] at h; exact PostS.ext (D := D) (r := .rt w L') h e2
        | exc c th e L' => rw [q] at h; exact PostS.ext (D := D) (r := .exc c th e L') h e2
        | bad => rw [q] at h; exact h
      · exact h.elim
    · rw [if_neg hsame] at h
      exact h.elim
  · left
    rw [List.drop_of_length_le (by omega)] at h
    unfold forM at h
    by_cases hsame : its.same L
    · rw [if_pos hsame] at h
      exact ⟨(rj i I μ L H ext hr hsame).1 (by omega), h I μ σ H (.refl _ _) hr er⟩
    · rw [if_neg hsame] at h
      exact h.elim
end

/-! ### what is walked -/
def seqIts (w : W) : D → Option Its
  | .lst xs => some ⟨xs, fun L => rd L w = some (.lst xs)⟩
  | .tup xs => some ⟨xs, fun L => rd L w = some (.tup xs)⟩
  | _ => none
def iSeq (a : EM) : IM := fun env L => (a env L).bind fun w L1 => match (rd L1 w).bind (seqIts w) with
  | some its => .ok its L1
  | none => .bad
def isTupW (L : LH) (w : W) : Bool := match rd L w with
  | some (.tup _) => true
  | _ => false
def rngD (lo : Int) (n : Nat) : List D := (List.range n).map fun i => .int (lo + (i : Nat))
def iRng1 (a : EM) : IM := fun env L => (a env L).bind fun w L1 => match w with
  | .d (.int j) => if -(2 ^ 62) ≤ j ∧ j < 2 ^ 62 then .ok ⟨rngD 0 j.toNat, fun _ => True⟩ L1 else .bad
  | _ => .bad
def iRng2 (a b : EM) : IM := fun env L => (a env L).bind fun w L1 => (b env L1).bind fun u L2 => match w, u with
  | .d (.int i), .d (.int j) => if -(2 ^ 62) ≤ i ∧ i < 2 ^ 62 ∧ -(2 ^ 62) ≤ j ∧ j < 2 ^ 62 then .ok ⟨rngD i (j - i).toNat, fun _ => True⟩ L2 else .bad
  | _, _ => .bad
section
variable {X : Cx} {Wx : WX} {e e2 tg : Expr} {m m2 : EM} {pos p : Pos}
theorem rit_seq {K : PySem.W.Frag} {I : Hp} {μ : List Addr} {w : W} {a : Addr} {xs : List D} (r : RW K I μ w (.ref a)) : RIt K I μ ⟨xs, fun L => rd L w = some (.lst xs)⟩ (Itl K a) := by
  intro i I' μ' L' H' e hr hs
  obtain ⟨a', vs, ea, hp, rp⟩ := hr.rd (r.mono e) hs
  cases ea
  refine ⟨fun hl => ⟨vs, .of hp, by rw [← rp.length]; exact Nat.le_of_eq hl.symm⟩, fun x hx => ?_⟩
  obtain ⟨v, hv, rv⟩ := rp.get hx
  refine ⟨⟨vs, v, .of hp, hv⟩, fun u H'' ⟨eH, hu⟩ => ?_⟩
  subst eH
  have := hu vs (.of hp)
  rw [hv] at this
  cases this
  exact ⟨I', Same.refl _, hr, rv⟩
theorem rit_tup {K : PySem.W.Frag} {I : Hp} {μ : List Addr} {w : W} {a : Addr} {xs : List D} (r : RW K I μ w (.ref a)) : RIt K I μ ⟨xs, fun L => rd L w = some (.tup xs)⟩ (Itt K a) := by
  intro i I' μ' L' H' e hr hs
  cases (hr.rd (r.mono e) hs : RD _ _ _ _) with | tup hp rp =>
  have hp' := sqT_mono hr.sub hp
  refine ⟨fun hl => ⟨_, hp', by rw [← rp.length]; exact Nat.le_of_eq hl.symm⟩, fun x hx => ?_⟩
  obtain ⟨v, hv, rv⟩ := rp.get hx
  refine ⟨⟨_, v, hp', hv⟩, fun u H'' ⟨eH, hu⟩ => ?_⟩
  subst eH
  have := hu _ hp'
  rw [hv] at this
  cases this
  exact ⟨I', Same.refl _, hr, rv⟩
theorem ri_seq (he : RE X Wx e m) : RI X Wx tg e (iSeq m) := by
  refine ((pi_list he).or (pi_tup he)).imp fun σ H Q ⟨env, L, I, μ, er, hr, h⟩ => ?_
  by_cases hd : ∃ w L1, m env L = .ok w L1 ∧ isTupW L1 w = true
  · right
    obtain ⟨w, L1, ea, ht⟩ := hd
    refine (TG.seq' er hr h).imp fun v1 H1 ⟨L1', I1, μ1, w1, e1, er1, hr1, r1, h1, q1⟩ => ?_
    rw [ea] at q1; cases q1
    unfold isTupW at ht
    split at ht
    · rename_i xs ex
      rw [ex, Option.bind_some] at h1
      simp only [seqIts] at h1
      cases (hr1.rd r1 ex : RD _ _ _ _) with | tup hp rp =>
      exact ⟨_, rfl, ⟨_, sqT_mono hr1.sub hp⟩, h1 I1 μ1 _ H1 (.refl _ _) hr1 (rit_tup r1)⟩
    · cases ht
  · left
    refine (TG.seq' er hr h).imp fun v1 H1 ⟨L1, I1, μ1, w1, e1, er1, hr1, r1, h1, q1⟩ => ?_
    cases ex : rd L1 w1 with
    | none => rw [ex] at h1; exact h1.elim
    | some x =>
      rw [ex, Option.bind_some] at h1
      cases x with
      | lst xs =>
        simp only [seqIts] at h1
        obtain ⟨a, vs, rfl, hp, rp⟩ := hr1.rd r1 ex
        exact ⟨a, rfl, ⟨vs, .of hp⟩, h1 I1 μ1 _ H1 (.refl _ _) hr1 (rit_seq r1)⟩
      | tup xs => exact (hd ⟨w1, L1, q1, by simp [isTupW, ex]⟩).elim
      | _ => exact h1.elim
theorem rit_rng {K : PySem.W.Frag} {I : Hp} {μ : List Addr} {lo : Int} {n : Nat} : RIt K I μ ⟨rngD lo n, fun _ => True⟩ (Itr lo n) := by
  intro i I' μ' L' H' e hr hs
  have hl : (rngD lo n).length = n := by simp [rngD]
  refine ⟨fun h => by rw [hl] at h; exact Nat.le_of_eq h.symm, fun x hx => ?_⟩
  have hi : i < n := by rw [← hl]; exact (List.getElem?_eq_some_iff.mp hx).1
  have ex : x = .int (lo + (i : Nat)) := by
    simp only [rngD, List.getElem?_map, List.getElem?_range hi, Option.map_some, Option.some.injEq] at hx
    exact hx.symm
  subst ex
  refine ⟨hi, fun v H'' ⟨eH, ev⟩ => ?_⟩
  subst eH ev
  exact ⟨I', Same.refl _, hr, .int _⟩
theorem ri_rng1 (hg : Gl X "range") (hm : X.mg "range" = none) (he : RE X Wx e m) (h1 : starEach (e :: []) X.env = (false, eval e X.env) :: starEach [] X.env := by rfl) (hs : starEach [e] X.env = [(false, eval e X.env)] := by rfl) : RI X Wx tg (.Call (.Name "range" p) [e] [] pos) (iRng1 m) := by
  refine (pi_range1 hg hm (pa_cons he pa_nil h1) hs).imp fun σ H Q ⟨env, L, I, μ, er, hr, h⟩ => ?_
  refine (TG.seq er hr h).imp fun v1 H1 ⟨L1, I1, μ1, w1, e1, er1, hr1, r1, h1⟩ => ?_
  split at h1
  · rename_i j
    cases r1 with | d r => cases r with | int =>
    split at h1
    · rename_i c
      exact ⟨j, rfl, c.1, c.2, TG.ret h1 hr1 rit_rng⟩
    · exact h1.elim
  · exact h1.elim
theorem ri_rng2 (hg : Gl X "range") (hm : X.mg "range" = none) (he : RE X Wx e m) (he2 : RE X Wx e2 m2) (h1 : starEach (e :: [e2]) X.env = (false, eval e X.env) :: starEach [e2] X.env := by rfl) (h2 : starEach (e2 :: []) X.env = (false, eval e2 X.env) :: starEach [] X.env := by rfl)
    (hs : starEach [e, e2] X.env = [(false, eval e X.env), (false, eval e2 X.env)] := by rfl) (hs2 : starEach [e2] X.env = [(false, eval e2 X.env)] := by rfl) : RI X Wx tg (.Call (.Name "range" p) [e, e2] [] pos) (iRng2 m m2) := by
  refine (pi_range2 hg hm (pa_cons he (pa_cons he2 pa_nil h2) h1) hs hs2).imp fun σ H Q ⟨env, L, I, μ, er, hr, h⟩ => ?_
  refine (TG.seq er hr h).imp fun v1 H1 ⟨L1, I1, μ1, w1, e1, er1, hr1, r1, h1⟩ => ?_
  refine (TG.seq er1 hr1 h1).imp fun v2 H2 ⟨L2, I2, μ2, w2, e2, er2, hr2, r2, h2⟩ => ?_
  split at h2
  · rename_i i j
    cases r1 with | d r => cases r with | int =>
    cases r2 with | d r => cases r with | int =>
    split at h2
    · rename_i c
      exact ⟨_, _, rfl, c, TG.ret h2 hr2 rit_rng⟩
    · exact h2.elim
  · exact h2.elim
end

/-! ### [e for t in it if c] -/
/-- what the block does not know: its own names -/
def wipeE (env : Ev) : List Nat → Ev
  | [] => env
  | v :: vs => (wipeE env vs).set v none
/-- below n nothing refers to what is not below n -/
def Keep (n : Nat) (L L' : LH) : Prop := n ≤ L'.length ∧ ∀ j, j < n → L'[j]? = L[j]? ∨ ∀ o, L'[j]? = some o → o.below n
theorem Keep.same {L L2 : LH} : Keep L.length L (L ++ L2) := ⟨by simp, fun j hj => .inl (by rw [List.getElem?_append_left hj])⟩
theorem Keep.all {K : PySem.W.Frag} {I H : Hp} {μ : List Addr} {L L' : LH} (hr : HR K I μ L H) (k : Keep L.length L L') : ∀ j o, j < L.length → L'[j]? = some o → o.below L.length := fun j o hj e => by
  rcases k.2 j hj with q | q
  · rw [q] at e; exact hr.wf j o e
  · exact q o e
theorem RWf.trunc {κ : Type} {K : PySem.W.Frag} {I : Hp} {μ : List Addr} {n : Nat} : ∀ {kvs : List (κ × W)} {kv : List (κ × V)}, RWf K I μ kvs kv → (∀ y ∈ kvs, y.2.below n) → RWf K I (μ.take n) kvs kv
  | _, _, .nil, _ => .nil
  | _, _, .cons r t, h => .cons (by
      have hb := h _ List.mem_cons_self
      cases r with
      | d r => exact .d r
      | loc q => exact .loc (by rw [List.getElem?_take_of_lt hb]; exact q)) (t.trunc fun y hy => h y (List.mem_cons_of_mem _ hy))
theorem RW.trunc {K : PySem.W.Frag} {I : Hp} {μ : List Addr} {n : Nat} {w : W} {v : V} (r : RW K I μ w v) (hb : w.below n) : RW K I (μ.take n) w v := by
  cases r with
  | d r => exact .d r
  | loc q => exact .loc (by rw [List.getElem?_take_of_lt hb]; exact q)
theorem HR.trunc {K : PySem.W.Frag} {I H : Hp} {μ : List Addr} {L : LH} {n : Nat} (hr : HR K I μ L H) (hn : n ≤ L.length) (h : ∀ j o, j < n → L[j]? = some o → o.below n) : HR K I (μ.take n) (L.take n) H where
  sub := hr.sub
  len := by simp [hr.len]
  nd := hr.nd.sublist (List.take_sublist n μ)
  there := fun p hp => hr.there p (List.mem_of_mem_take hp)
  obj := fun m p o h1 h2 => by
    have hm : m < n := by
      have := (List.getElem?_eq_some_iff.mp h2).1
      rw [List.length_take] at this; omega
    rw [List.getElem?_take_of_lt hm] at h1 h2
    have ok := hr.obj m p o h1 h2
    have hb := h m o hm h2
    cases o with
    | lst xs => exact ok
    | dic kvs => obtain ⟨a, kv, b, c⟩ := ok; exact ⟨a, kv, b, c.trunc hb⟩
    | ins C fs => obtain ⟨a, dx, fv, b, b2, c⟩ := ok; exact ⟨a, dx, fv, b, b2, c.trunc hb⟩
    | frz x => exact ok
  wf := fun m o h2 => by
    have hm : m < n := by
      have := (List.getElem?_eq_some_iff.mp h2).1
      rw [List.length_take] at this; omega
    rw [List.getElem?_take_of_lt hm] at h2
    rw [List.length_take, Nat.min_eq_left hn]
    exact h m o hm h2
/-- the last object is a list: it changes no more -/
theorem HR.popl {K : PySem.W.Frag} {I H : Hp} {μ : List Addr} {L : LH} {n : Nat} {p : Addr} {xs : List D} (hr : HR K I μ L H) (hl : n ≤ L.length) (hp : μ[n]? = some p) (ho : L[n]? = some (.lst xs)) (h : ∀ j o, j < n → L[j]? = some o → o.below n) :
    ∃ I', Same I I' ∧ HR K I' (μ.take n) (L.take n) H ∧ RD K I' (.lst xs) (.ref p) := by
  obtain ⟨hi, vs, h1, h2⟩ := hr.obj _ _ _ hp ho
  have s := same_upd' hr.sub h1
  have rr : RD K (upd I p (.lst vs)) (.lst xs) (.ref p) := .lst upd_same (h2.mono s)
  have h3 := hr.frz hp s (upd_sub hr.sub h1) rr fun q ne _ z => by rw [upd_ne ne]; exact z
  refine ⟨_, s, ?_, rr⟩
  have h4 := h3.trunc (n := n) (by rw [List.length_set]; exact hl) fun j o hj e => by
    rw [List.getElem?_set_ne (by omega)] at e
    exact h j o hj e
  rw [List.take_set_of_le (Nat.le_refl n)] at h4
  exact h4
open Classical in
noncomputable def lcM (g : GM) (tt : BM) (te : EM) (its : Its) (env : Ev) (n : Nat) : List D → LH → Res Unit
  | [], L => if its.same L then .ok () L else .bad
  | x :: r, L => if its.same L then
      match g L (.d x) env with
      | some env' => match tt env' L with
        | .ok b L1 => if b = true then match te env' L1 with
            | .ok y L2 => match fzW L2 y with
              | some (z, L3) => match L3[n]? with
                | some (.lst acc) => if acc.length < sizeLine then lcM g tt te its env n r (L3.set n (.lst (acc ++ [z]))) else .bad
                | _ => .bad
              | none => .bad
            | _ => .bad
          else lcM g tt te its env n r L1
        | _ => .bad
      | none => .bad
    else .bad
open Classical in
noncomputable def mLc (im : IM) (g : GM) (tt : BM) (te : EM) (vs : List Nat) : EM := fun env L => (im env L).bind fun its L1 =>
  match lcM g tt te its (wipeE env vs) L1.length its.items (L1 ++ [.lst []]) with
  | .ok _ L2 => match L2[L1.length]? with
    | some (.lst acc) => if Keep L1.length L1 L2 then .ok (.d (.lst acc)) (L2.take L1.length) else .bad
    | _ => .bad
  | _ => .bad
noncomputable def mLcM (im : IM) (g : GM) (tt : BM) (te : EM) (vs : List Nat) : EM := fun env L => (im env L).bind fun its L1 =>
  match lcM g tt te its (wipeE env vs) L1.length its.items (L1 ++ [.lst []]) with
  | .ok _ L2 => .ok (.loc L1.length) L2
  | _ => .bad
theorem wipe_in {σ : L2.St} {i : Nat} : ∀ {vs : List Nat}, i ∈ vs → i < σ.length → (wipe σ vs)[i]? = some none
  | v :: vs, h, hl => by
    unfold wipe
    by_cases e : i = v
    · subst e; rw [List.getElem?_set_self (by rw [wipe_length]; exact hl)]
    · rw [List.getElem?_set_ne (Ne.symm e)]
      exact wipe_in ((List.mem_cons.mp h).resolve_left e) hl
theorem wipe_ow {σ σ2 : L2.St} {own vs : List Nat} (h : Ow own (wipe σ vs) σ2) (hs : ∀ i ∈ own, i ∈ vs) : wipe σ2 vs = wipe σ vs := by
  apply List.ext_getElem?
  intro i
  have hl : σ2.length = σ.length := h.1.trans (wipe_length _ _)
  by_cases hi : i ∈ vs
  · by_cases hlt : i < σ.length
    · rw [wipe_in hi hlt, wipe_in hi (by rw [hl]; exact hlt)]
    · rw [List.getElem?_eq_none_iff.mpr (by rw [wipe_length]; omega), List.getElem?_eq_none_iff.mpr (by rw [wipe_length]; omega)]
  · rw [wipe_out hi, h.2 i (fun z => hi (hs i z))]
theorem ER.wipe {K : PySem.W.Frag} {I : Hp} {μ : List Addr} {env : Ev} {σ : L2.St} (er : ER K I μ env σ) : ∀ vs : List Nat, ER K I μ (wipeE env vs) (L2.wipe σ vs)
  | [] => er
  | v :: vs => by
    have ih := ER.wipe er vs
    refine ⟨by simp [wipeE, L2.wipe, ih.1], fun j u h => ?_⟩
    unfold wipeE at h
    unfold L2.wipe
    by_cases e : j = v
    · subst e
      have hj := (List.getElem?_eq_some_iff.mp h).1
      rw [List.length_set] at hj
      rw [List.getElem?_set_self hj] at h
      cases h
    · rw [List.getElem?_set_ne (Ne.symm e)] at h
      obtain ⟨v', h1, h2⟩ := ih.2 j u h
      exact ⟨v', by rw [List.getElem?_set_ne (Ne.symm e)]; exact h1, h2⟩
abbrev W0 : WX := fun _ _ _ _ => False
/-- the tests of a comprehension -/
abbrev RTs (X : Cx) (ifs : List Expr) (m : BM) : Prop := PTs X ifs (TB X.K W0 m)
def tYesM : BM := fun _ L => .ok true L
section
variable {X : Cx} {Wx : WX} {elt tg iter c : Expr} {ifs : List Expr} {scope : Scope} {own : List (Str × Nat)} {og : List Nat} {pos : Pos} {im : IM} {g : GM} {tt : BM} {te : EM}
theorem _root_.L2.PTs.imp {X : Cx} {e : List Expr} {t t' : L2.TT} (h : PTs X e t) (i : ∀ σ H Q, t' σ H Q → t σ H Q) : PTs X e t' :=
  ⟨fun pins s σ H Q I q => h.run pins s σ H Q I (i σ H Q q)⟩
theorem rts_nil : RTs X [] tYesM := pts_nil.imp fun σ H Q ⟨env, L, I, μ, er, hr, h⟩ => TG.ret h hr rfl
theorem rts_one (h : RT X W0 c tt) : RTs X [c] tt := pts_one h
/-- the reading of a comprehension -/
theorem lc_read {σ : L2.St} {H : Hp} {Q : VK} {k : Its → LH → Res W} {vs : List Nat} (hog : ∀ i ∈ og, i ∈ vs) {env : Ev} {L : LH} {I : Hp} {μ : List Addr} (er : ER X.K I μ env σ) (hr : HR X.K I μ L H)
    (h : Post (relW X.K) X.K Wx σ I μ ((im env L).bind k) Q)
    (hk : ∀ its L1 I1 μ1 H1 D, HR X.K I1 μ1 L1 H1 → Post (relW X.K) X.K Wx σ I1 μ1 (k its L1) Q → H1 D = none →
      ∃ L2, lcM g tt te its (wipeE env vs) L1.length its.items (L1 ++ [.lst []]) = .ok () L2 ∧ ∀ I2 μ2 H2, Ext I1 (μ1 ++ [D]) I2 μ2 → HR X.K I2 μ2 L2 H2 → Q (.ref D) H2) :
    tLc (TG (RIt X.K) X.K Wx im) (TGt X.K og g) (TB X.K W0 tt) (T X.K W0 te) vs σ H Q := by
  refine (TG.seq er hr h).imp fun J H1 ⟨L1, I1, μ1, its, e1, er1, hr1, rj, h1⟩ => fun D hD => ?_
  obtain ⟨L2, hL2, hQ⟩ := hk its L1 I1 μ1 H1 D hr1 h1 hD
  have hr0 : HR X.K I1 (μ1 ++ [D]) (L1 ++ [.lst []]) (upd H1 D (.lst [])) := hr1.new (o := .lst []) (ho := .lst []) hD ⟨hr1.sub.free hD, [], upd_same, .nil⟩ trivial
  have eD : (μ1 ++ [D])[L1.length]? = some D := by rw [List.getElem?_append_right (by rw [hr1.len]; exact Nat.le_refl _), hr1.len, Nat.sub_self]; rfl
  refine ⟨fun i m H => i + m = its.items.length ∧ ∃ L I μ, Ext I1 (μ1 ++ [D]) I μ ∧ HR X.K I μ L H ∧ lcM g tt te its (wipeE env vs) L1.length (its.items.drop i) L = .ok () L2,
    ⟨its.items.length, by omega, L1 ++ [LO.lst []], I1, μ1 ++ [D], .refl _ _, hr0, by rw [List.drop_zero]; exact hL2⟩, fun i m H hW => ?_⟩
  obtain ⟨him, L, I, μ, ext, hr, h⟩ := hW
  have extJ : Ext I1 μ1 I μ := ⟨ext.1, by obtain ⟨t, ht⟩ := ext.2; exact ⟨[D] ++ t, by rw [ht, List.append_assoc]⟩⟩
  by_cases hi : i < its.items.length
  · right
    rw [List.drop_eq_getElem_cons hi] at h
    unfold lcM at h
    by_cases hsame : its.same L
    · rw [if_pos hsame] at h
      obtain ⟨hgo, hyl⟩ := (rj i I μ L H extJ hr hsame).2 its.items[i] (List.getElem?_eq_getElem hi)
      refine ⟨hgo, fun H' => ∃ L I μ, Ext I1 (μ1 ++ [D]) I μ ∧ HR X.K I μ L H' ∧ lcM g tt te its (wipeE env vs) L1.length (its.items.drop (i + 1)) L = .ok () L2, fun H' hN => ⟨m - 1, by omega, by omega, hN⟩, fun v H' hy => ?_⟩
      obtain ⟨I2, s2, hr2, rx⟩ := hyl v H' hy
      have e2 := Ext.of μ s2
      split at h
      · rename_i env' eg
        refine ⟨wipeE env vs, L, I2, μ, _, env', ((er1.mono extJ).mono e2).wipe vs, hr2, .d rx, eg, fun σ' er' ow => ⟨wipe_ow ow hog, env', L, I2, μ, er', hr2, ?_⟩⟩
        split at h
        · rename_i b L3 et
          rw [et]
          intro I3 μ3 b' H3 e3 hr3 eb
          have eb' : b = b' := eb
          subst eb'
          refine ite2 (fun hb => ?_) (fun hb => ?_)
          · rw [if_pos hb] at h
            refine ⟨env', L3, I3, μ3, er'.mono e3, hr3, ?_⟩
            split at h
            · rename_i y L4 ey
              rw [ey]
              intro I4 μ4 u H4 e4 hr4 ru
              split at h
              · rename_i z L5 ez
                split at h
                · rename_i acc ea
                  split at h
                  · rename_i hlen
                    obtain ⟨I5, s5, hr5, rz⟩ := hr4.fzW ru ez
                    have e5 : Ext I1 (μ1 ++ [D]) I5 μ4 := ext.trans (e2.trans (e3.trans (e4.trans (Ext.of μ4 s5))))
                    have hDn := e5.at eD
                    obtain ⟨hi5, accv, hacc, racc⟩ := hr5.obj _ _ _ hDn ea
                    refine ⟨accv, hacc, by rw [← racc.length]; exact hlen, _, I5, μ4, e5, hr5.write (o := .lst (acc ++ [z])) (ho := .lst (accv ++ [u])) hDn hi5 hacc (fun _ z => by cases z) ⟨hi5, _, upd_same, racc.append (.cons rz .nil)⟩ trivial, h⟩
                  · cases h
                · cases h
              · cases h
            · cases h
          · rw [if_neg hb] at h
            exact ⟨L3, I3, μ3, ext.trans (e2.trans e3), hr3, h⟩
        · cases h
      · cases h
    · rw [if_neg hsame] at h
      cases h
  · left
    rw [List.drop_of_length_le (by omega)] at h
    unfold lcM at h
    by_cases hsame : its.same L
    · rw [if_pos hsame] at h
      simp only [Res.ok.injEq, true_and] at h
      subst h
      exact ⟨(rj i I μ L H extJ hr hsame).1 (by omega), hQ I μ H ext hr⟩
    · rw [if_neg hsame] at h
      cases h
theorem lc_end {σ : L2.St} {H : Hp} {Q : VK} {vs : List Nat} (hog : ∀ i ∈ og, i ∈ vs) (h : T X.K Wx (mLc im g tt te vs) σ H Q) : tLc (TG (RIt X.K) X.K Wx im) (TGt X.K og g) (TB X.K W0 tt) (T X.K W0 te) vs σ H Q := by
  obtain ⟨env, L, I, μ, er, hr, h⟩ := h
  refine lc_read hog er hr h fun its L1 I1 μ1 H1 D hr1 h1 hD => ?_
  split at h1
  · rename_i L2 eL
    refine ⟨L2, eL, fun I2 μ2 H2 e2 hr2 => ?_⟩
    split at h1
    · rename_i acc ea
      split at h1
      · rename_i hk
        have eD : (μ1 ++ [D])[L1.length]? = some D := by rw [List.getElem?_append_right (by rw [hr1.len]; exact Nat.le_refl _), hr1.len, Nat.sub_self]; rfl
        obtain ⟨I3, s3, hr3, r3⟩ := hr2.popl hk.1 (e2.at eD) ea (hk.all hr1)
        have eμ : μ2.take L1.length = μ1 := by
          obtain ⟨_, t, ht⟩ := e2
          rw [ht, List.append_assoc, ← hr1.len, List.take_left]
        rw [eμ] at hr3
        exact h1 I3 μ1 _ H2 (Ext.of μ1 (e2.1.trans s3)) hr3 (.d r3)
      · exact h1.elim
    · exact h1.elim
  · exact h1.elim
theorem lc_endM {σ : L2.St} {H : Hp} {Q : VK} {vs : List Nat} (hog : ∀ i ∈ og, i ∈ vs) (h : T X.K Wx (mLcM im g tt te vs) σ H Q) : tLc (TG (RIt X.K) X.K Wx im) (TGt X.K og g) (TB X.K W0 tt) (T X.K W0 te) vs σ H Q := by
  obtain ⟨env, L, I, μ, er, hr, h⟩ := h
  refine lc_read hog er hr h fun its L1 I1 μ1 H1 D hr1 h1 hD => ?_
  split at h1
  · rename_i L2 eL
    refine ⟨L2, eL, fun I2 μ2 H2 e2 hr2 => ?_⟩
    have eD : (μ1 ++ [D])[L1.length]? = some D := by rw [List.getElem?_append_right (by rw [hr1.len]; exact Nat.le_refl _), hr1.len, Nat.sub_self]; rfl
    exact h1 I2 μ2 _ H2 ⟨e2.1, by obtain ⟨_, t, ht⟩ := e2; exact ⟨[D] ++ t, by rw [ht, List.append_assoc]⟩⟩ hr2 (.loc (e2.at eD))
  · exact h1.elim
theorem re_lc (hc : X.calm = true) (hN : X.N.Nodup) (ok : BlkOk X.N X.env.scope scope own) (hog : ∀ i ∈ og, i ∈ own.map (·.2)) (hi : RI X Wx tg iter im)
    (hg : ∀ (s : Shared) (H : Hp) (C : Addr) (cl : List (Str × Addr)) (fp : List Addr), RG (X.blk s H scope (compEnvC scope cl C X.env) fp) og tg g) (ht : ∀ (s : Shared) (H : Hp) (C : Addr) (cl : List (Str × Addr)) (fp : List Addr), RTs (X.blk s H scope (compEnvC scope cl C X.env) fp) ifs tt)
    (he : ∀ (s : Shared) (H : Hp) (C : Addr) (cl : List (Str × Addr)) (fp : List Addr), RE (X.blk s H scope (compEnvC scope cl C X.env) fp) W0 elt te) (hs : ∀ x, foldedSetIterable iter X.env x = pure x := by intro _; rfl) :
    RE X Wx (.ListComp elt [⟨tg, iter, ifs, 0⟩] scope pos) (mLc im g tt te (own.map (·.2))) :=
  (pe_lc (g := TGt X.K og g) (tt := TB X.K W0 tt) (te := T X.K W0 te) hc hN hi ok hg ht he hs).imp fun σ H Q h => lc_end hog h
theorem re_lcM (hc : X.calm = true) (hN : X.N.Nodup) (ok : BlkOk X.N X.env.scope scope own) (hog : ∀ i ∈ og, i ∈ own.map (·.2)) (hi : RI X Wx tg iter im)
    (hg : ∀ (s : Shared) (H : Hp) (C : Addr) (cl : List (Str × Addr)) (fp : List Addr), RG (X.blk s H scope (compEnvC scope cl C X.env) fp) og tg g) (ht : ∀ (s : Shared) (H : Hp) (C : Addr) (cl : List (Str × Addr)) (fp : List Addr), RTs (X.blk s H scope (compEnvC scope cl C X.env) fp) ifs tt)
    (he : ∀ (s : Shared) (H : Hp) (C : Addr) (cl : List (Str × Addr)) (fp : List Addr), RE (X.blk s H scope (compEnvC scope cl C X.env) fp) W0 elt te) (hs : ∀ x, foldedSetIterable iter X.env x = pure x := by intro _; rfl) :
    RE X Wx (.ListComp elt [⟨tg, iter, ifs, 0⟩] scope pos) (mLcM im g tt te (own.map (·.2))) :=
  (pe_lc (g := TGt X.K og g) (tt := TB X.K W0 tt) (te := T X.K W0 te) hc hN hi ok hg ht he hs).imp fun σ H Q h => lc_endM hog h
/-- y = [..] on one line -/
theorem rs_setLc {i : Nat} {y : Str} {py spos : Pos} (hc : X.calm = true) (hN : X.N.Nodup) (ok : BlkOk X.N X.env.scope scope own) (hog : ∀ i ∈ og, i ∈ own.map (·.2)) (hi : RI X Wx tg iter im)
    (hg : ∀ (s : Shared) (H : Hp) (C : Addr) (cl : List (Str × Addr)) (fp : List Addr), RG (X.blk s H scope (compEnvC scope cl C X.env) fp) og tg g) (ht : ∀ (s : Shared) (H : Hp) (C : Addr) (cl : List (Str × Addr)) (fp : List Addr), RTs (X.blk s H scope (compEnvC scope cl C X.env) fp) ifs tt)
    (he : ∀ (s : Shared) (H : Hp) (C : Addr) (cl : List (Str × Addr)) (fp : List Addr), RE (X.blk s H scope (compEnvC scope cl C X.env) fp) W0 elt te) (hs : ∀ x, foldedSetIterable iter X.env x = pure x := by intro _; rfl)
    (hy : X.N[i]? = some y := by rfl) (hyl : X.env.scope.names.lookup y = some .local := by rfl) (hsw : swapsWith (.ListComp elt [⟨tg, iter, ifs, 0⟩] scope pos) (some (.Name y py)) spos.line X.env = pure true := by exact sw_true rfl rfl rfl rfl) :
    RS X Wx (.Assign [.Name y py] (.ListComp elt [⟨tg, iter, ifs, 0⟩] scope pos) spos) (sAsg (mLc im g tt te (own.map (·.2))) (gNm i)) := by
  refine (ps_setLc (g := TGt X.K og g) (tt := TB X.K W0 tt) (te := T X.K W0 te) hc hN hy hyl hsw hi ok hg ht he hs).imp fun D σ H ⟨env, L, I, μ, er, hr, h⟩ => ?_
  exact lc_end hog ((TG.stm er hr h).imp fun v1 H1 ⟨L1, I1, μ1, w1, e1, er1, hr1, r1, h1⟩ => h1 I1 μ1 _ H1 (.refl _ _) hr1 (er1.set i r1))
theorem rs_setLcM {i : Nat} {y : Str} {py spos : Pos} (hc : X.calm = true) (hN : X.N.Nodup) (ok : BlkOk X.N X.env.scope scope own) (hog : ∀ i ∈ og, i ∈ own.map (·.2)) (hi : RI X Wx tg iter im)
    (hg : ∀ (s : Shared) (H : Hp) (C : Addr) (cl : List (Str × Addr)) (fp : List Addr), RG (X.blk s H scope (compEnvC scope cl C X.env) fp) og tg g) (ht : ∀ (s : Shared) (H : Hp) (C : Addr) (cl : List (Str × Addr)) (fp : List Addr), RTs (X.blk s H scope (compEnvC scope cl C X.env) fp) ifs tt)
    (he : ∀ (s : Shared) (H : Hp) (C : Addr) (cl : List (Str × Addr)) (fp : List Addr), RE (X.blk s H scope (compEnvC scope cl C X.env) fp) W0 elt te) (hs : ∀ x, foldedSetIterable iter X.env x = pure x := by intro _; rfl)
    (hy : X.N[i]? = some y := by rfl) (hyl : X.env.scope.names.lookup y = some .local := by rfl) (hsw : swapsWith (.ListComp elt [⟨tg, iter, ifs, 0⟩] scope pos) (some (.Name y py)) spos.line X.env = pure true := by exact sw_true rfl rfl rfl rfl) :
    RS X Wx (.Assign [.Name y py] (.ListComp elt [⟨tg, iter, ifs, 0⟩] scope pos) spos) (sAsg (mLcM im g tt te (own.map (·.2))) (gNm i)) := by
  refine (ps_setLc (g := TGt X.K og g) (tt := TB X.K W0 tt) (te := T X.K W0 te) hc hN hy hyl hsw hi ok hg ht he hs).imp fun D σ H ⟨env, L, I, μ, er, hr, h⟩ => ?_
  exact lc_endM hog ((TG.stm er hr h).imp fun v1 H1 ⟨L1, I1, μ1, w1, e1, er1, hr1, r1, h1⟩ => h1 I1 μ1 _ H1 (.refl _ _) hr1 (er1.set i r1))
end
end MP
namespace MP
open PySem PySem.Spec PyProof.Rows L2
/-! ### the end of a def -/
def deepL {κ : Type} (h : W → Option D) : List (κ × W) → Option (List (κ × D))
  | [] => some []
  | (k, w) :: r => (h w).bind fun x => (deepL h r).map ((k, x) :: ·)
def deep (n : Nat) (L : LH) : Nat → W → Option D
  | _, .d x => some x
  | 0, .loc _ => none
  | f + 1, .loc k => if k < n then none else match L[k]? with
    | some (.frz x) => some x
    | some (.lst xs) => some (.lst xs)
    | some (.ins C fs) => (deepL (deep n L f) fs).map (.ob C)
    | some (.dic kvs) => (deepL (deep n L f) kvs).map .dct
    | none => none
def retW (n : Nat) (L : LH) : W → Option W
  | .d x => some (.d x)
  | .loc k => if k < n then some (.loc k) else (deep n L 3 (.loc k)).map .d
section
variable {K : PySem.W.Frag} {I I' H : Hp} {μ : List Addr} {L : LH}
theorem HR.swap (hr : HR K I μ L H) (s : Same I I') (s' : Same I' H) (ki : ∀ q ∈ μ, (∀ a, H q ≠ some (.own a)) → I q = none → I' q = none) : HR K I' μ L H where
  sub := s'
  len := hr.len
  nd := hr.nd
  there := hr.there
  obj := fun m q o h1 h2 => (hr.obj m q o h1 h2).mono (Ext.of μ s) rfl (ki q (List.mem_of_getElem? h1)) fun _ z => z
  wf := hr.wf
open Classical in
theorem HR.freezeAll (hr : HR K I μ L H) (n : Nat) : ∃ I', Same I I' ∧ Same I' H ∧ (∀ p ∈ μ.drop n, ∀ o, H p = some o → I' p = some o) ∧ (∀ p ∈ μ.drop n, ∀ dx, H dx = some (.own p) → I' dx = some (.own p)) ∧
    ∀ q ∈ μ.take n, (∀ a, H q ≠ some (.own a)) → I q = none → I' q = none := by
  refine ⟨fun a => if a ∈ μ.drop n ∨ (∃ p ∈ μ.drop n, H a = some (.own p)) then H a else I a, fun a o e => ?_, fun a o e => ?_, fun p hp o e => ?_, fun p hp dx e => ?_, fun q hq hn e => ?_⟩
  · dsimp only
    split
    · exact hr.sub a o e
    · exact e
  · dsimp only at e
    split at e
    · exact e
    · exact hr.sub a o e
  · dsimp only
    rw [if_pos (.inl hp)]; exact e
  · dsimp only
    rw [if_pos (.inr ⟨p, hp, e⟩)]; exact e
  · dsimp only
    rw [if_neg]
    · exact e
    · rintro (h | ⟨p, hp, h⟩)
      · have nd := hr.nd
        rw [← List.take_append_drop n μ, List.nodup_append] at nd
        exact nd.2.2 q hq q h rfl
      · exact hn p h
theorem deepL_k {h : W → Option D} (hh : ∀ w v x, h w = some x → RW K I μ w v → RD K I' x v) : ∀ {kvs : List (Key × W)} {kv : List (Key × V)} {ks : List (Key × D)}, deepL h kvs = some ks → RWf K I μ kvs kv → RDk K I' ks kv
  | _, _, _, e, .nil => by simp only [deepL, Option.some.injEq] at e; subst e; exact .nil
  | (_, w) :: _, (_, _) :: _, _, e, .cons r t => by
    simp only [deepL] at e
    cases q : h w with
    | none => rw [q] at e; cases e
    | some x =>
      rw [q, Option.bind_some, Option.map_eq_some_iff] at e
      obtain ⟨ks, e1, rfl⟩ := e
      exact .cons (hh _ _ _ q r) (deepL_k hh e1 t)
theorem deepL_f {h : W → Option D} (hh : ∀ w v x, h w = some x → RW K I μ w v → RD K I' x v) : ∀ {kvs : List (Str × W)} {kv : List (Str × V)} {ks : List (Str × D)}, deepL h kvs = some ks → RWf K I μ kvs kv → RDf K I' ks kv
  | _, _, _, e, .nil => by simp only [deepL, Option.some.injEq] at e; subst e; exact .nil
  | (_, w) :: _, (_, _) :: _, _, e, .cons r t => by
    simp only [deepL] at e
    cases q : h w with
    | none => rw [q] at e; cases e
    | some x =>
      rw [q, Option.bind_some, Option.map_eq_some_iff] at e
      obtain ⟨ks, e1, rfl⟩ := e
      exact .cons (hh _ _ _ q r) (deepL_f hh e1 t)
theorem deep_ok (hr : HR K I μ L H) {n : Nat} (s : Same I I') (h1 : ∀ p ∈ μ.drop n, ∀ o, H p = some o → I' p = some o) (h2 : ∀ p ∈ μ.drop n, ∀ dx, H dx = some (.own p) → I' dx = some (.own p)) :
    ∀ (f : Nat) (w : W) (v : V) (x : D), deep n L f w = some x → RW K I μ w v → RD K I' x v := by
  intro f
  induction f with
  | zero =>
    intro w v x e r
    cases r with
    | d r => simp only [deep, Option.some.injEq] at e; subst e; exact r.mono s
    | loc q => simp [deep] at e
  | succ f ih =>
    intro w v x e r
    cases r with
    | d r => simp only [deep, Option.some.injEq] at e; subst e; exact r.mono s
    | @loc k p q =>
      simp only [deep] at e
      split at e
      · cases e
      · rename_i hk
        have hp : p ∈ μ.drop n := by
          have : (μ.drop n)[k - n]? = some p := by rw [List.getElem?_drop, show n + (k - n) = k by omega]; exact q
          exact List.mem_of_getElem? this
        split at e
        · rename_i y ey
          cases e
          exact (show RD K I x (.ref p) from hr.obj _ _ _ q ey).mono s
        · rename_i xs ey
          cases e
          obtain ⟨_, vs, g1, g2⟩ := hr.obj _ _ _ q ey
          exact .lst (h1 p hp _ g1) (g2.mono s)
        · rename_i C fs ey
          rw [Option.map_eq_some_iff] at e
          obtain ⟨ks, e1, rfl⟩ := e
          obtain ⟨_, dx, fv, g1, gd, g2⟩ := hr.obj _ _ _ q ey
          exact .ob (h1 p hp _ g1) (h2 p hp dx gd) (deepL_f ih e1 g2)
        · rename_i kvs ey
          rw [Option.map_eq_some_iff] at e
          obtain ⟨ks, e1, rfl⟩ := e
          obtain ⟨_, kv, g1, g2⟩ := hr.obj _ _ _ q ey
          exact .dct (h1 p hp _ g1) (deepL_k ih e1 g2)
        · cases e
/-- what a def gives back: nothing of its own stays -/
theorem HR.ret (hr : HR K I μ L H) {n : Nat} (hn : n ≤ L.length) (hb : ∀ j o, j < n → L[j]? = some o → o.below n) : ∃ I', Same I I' ∧ HR K I' (μ.take n) (L.take n) H ∧ ∀ w v w', RW K I μ w v → retW n L w = some w' → RW K I' (μ.take n) w' v := by
  obtain ⟨I', s, s', h1, h2, h3⟩ := hr.freezeAll n
  refine ⟨I', s, (hr.trunc hn hb).swap s s' h3, fun w v w' r e => ?_⟩
  cases r with
  | d r => simp only [retW, Option.some.injEq] at e; subst e; exact .d (r.mono s)
  | @loc k p q =>
    simp only [retW] at e
    split at e
    · rename_i hk; cases e; exact .loc (by rw [List.getElem?_take_of_lt hk]; exact q)
    · rw [Option.map_eq_some_iff] at e
      obtain ⟨x, e1, rfl⟩ := e
      exact .d (deep_ok hr s h1 h2 3 _ _ _ e1 (.loc q))
end
open Classical in
/-- the end of a def that gives back no object of its own that may change -/
noncomputable def finish (L : LH) (r : SR) : Res W := match r with
  | .rt w L' => if Keep L.length L L' then (match retW L.length L' w with | some w' => .ok w' (L'.take L.length) | none => .bad) else .bad
  | .nx _ L' => if Keep L.length L L' then .ok (.d .non) (L'.take L.length) else .bad
  | .exc c th _ L' => if Keep L.length L L' then .exc c th (L'.take L.length) else .bad
  | _ => .bad
/-- the end of any def -/
def finishK (r : SR) : Res W := match r with
  | .rt w L' => .ok w L'
  | .nx _ L' => .ok (.d .non) L'
  | .exc c th _ L' => .exc c th L'
  | _ => .bad
def startE (n : Nat) (ws : List W) : Ev := ws.map some ++ List.replicate (n - ws.length) none
noncomputable def fnS (n : Nat) (m : SM) : Fs := fun ws L => finish L (m (startE n ws) L)
def fnK (n : Nat) (m : SM) : Fs := fun ws L => finishK (m (startE n ws) L)
theorem er_start {K : PySem.W.Frag} {I : Hp} {μ : List Addr} {ws : List W} {vs : List V} (r : RWs K I μ ws vs) (N : List Str) : ER K I μ (startE N.length ws) (L2.start N vs) := by
  have hl := r.length
  refine ⟨by simp [startE, L2.start, hl], fun i w h => ?_⟩
  unfold startE at h
  by_cases hi : i < ws.length
  · rw [List.getElem?_append_left (by simpa using hi), List.getElem?_map] at h
    have key : ∀ {ws : List W} {vs : List V} {i : Nat}, RWs K I μ ws vs → (ws[i]?.map some = some (some w)) → ∃ v, vs[i]? = some v ∧ RW K I μ w v := by
      intro ws vs i r
      induction r generalizing i with
      | nil => intro h; simp at h
      | cons r1 rt ih =>
        intro h
        cases i with
        | zero => simp at h; subst h; exact ⟨_, rfl, r1⟩
        | succ j => exact ih (by simpa using h)
    obtain ⟨v, h1, h2⟩ := key r h
    refine ⟨v, ?_, h2⟩
    unfold L2.start
    rw [List.getElem?_append_left (by rw [List.length_map, ← hl]; exact hi), List.getElem?_map, h1]
    rfl
  · rw [List.getElem?_append_right (by simpa using Nat.le_of_not_lt hi)] at h
    have := List.mem_of_getElem? h
    have h2 := List.eq_of_mem_replicate this
    cases h2
section
variable {P : Program} {w : World} {K : PySem.W.Frag} {mg : Str → Option Value} {base : Heap} {x qual : Str} {st : Stmt} {f : Addr} {fd : FuncData} {N ps : List Str} {k : Nat} {m : SM}
theorem g_of {sp : Sp} (F : Fun K x qual st f fd) (S : FnScope N ps (defScope st)) (len : ∀ vs H Q E, sp vs H Q E → vs.length = ps.length)
    (hbody : ∀ (cdv : Value) (A : Around) (outer : List Env) (s : Shared) (H : Hp) (vs : List V) (Q : VK) (E : XK), Rm k (A.deeper (envOfC qual (defScope st) s.heap.objs.size f cdv)) → sp vs H Q E →
      ∃ t, PSs (cxOf (L2.CX P w) P w K mg base N qual (defScope st) f cdv A outer s H E) (defBody st) t ∧ t { nx := fun _ H' => Q .non H', rt := Q } (L2.start N vs) H) : FnG P w K mg base (k + 1) f fd ps sp := by
  obtain ⟨oc, od, kV, doc, pm, an, cdv, ct, osl, rfl, lk, hcd⟩ := F.ex
  exact ⟨len, fun A outer s H args us vs Q E hr e0 hb r h => LamX.run_ofS lk hcd S hr.r e0 hb r (len _ _ _ _ h) fun hr' => hbody cdv A outer s H vs Q E ⟨hr', hr.g⟩ h⟩
/-- THE RULE for a def -/
theorem fx_mk (F : Fun K x qual st f fd) (S : FnScope N ps (defScope st))
    (b : ∀ (kV doc pm : Value) (an : Option Addr) (cdv ct : Value) (us : List Value), us.length = ps.length → bindArgs (PySem.W.fnOf x qual (defArgs st) (defBody st) (defScope st) .none kV doc pm an cdv ct) ⟨us, []⟩ = pure (ps.zip us))
    (hb : ∀ (cdv : Value) (A : Around) (outer : List Env) (s : Shared) (H : Hp) (E : XK), Rm k (A.deeper (envOfC qual (defScope st) s.heap.objs.size f cdv)) → ∀ Wx : WX, Takes (cxOf (L2.CX P w) P w K mg base N qual (defScope st) f cdv A outer s H E) Wx →
      PassesOwn (model P w) (A.deeper (envOfC qual (defScope st) s.heap.objs.size f cdv)) (envOfC qual (defScope st) s.heap.objs.size f cdv) (cxOf (L2.CX P w) P w K mg base N qual (defScope st) f cdv A outer s H E).xe →
      RSs (cxOf (L2.CX P w) P w K mg base N qual (defScope st) f cdv A outer s H E) Wx (defBody st) m) : Fx P w K mg base (k + 1) f fd ps (fnS N.length m) where
  ok := by
    refine g_of F S (fun vs H Q E ⟨ws, L, I, μ, hl, r, _⟩ => by rw [← r.length]; exact hl) fun cdv A outer s H vs Q E hr ⟨ws, L, I, μ, hl, r, hR, h⟩ => ?_
    refine ⟨_, hb cdv A outer s H E hr _ (takes_of rfl rfl rfl rfl) (passes_of rfl), startE N.length ws, L, I, μ, er_start r N, hR, ?_⟩
    unfold fnS finish at h
    cases q : m (startE N.length ws) L with
    | rt u L' =>
      rw [q] at h
      dsimp only at h
      split at h
      · rename_i hk
        split at h
        · rename_i w' ew
          intro I' μ' v H' e hr' ru
          obtain ⟨I2, s2, hr2, r2⟩ := hr'.ret hk.1 (hk.all hR)
          have eμ : μ'.take L.length = μ := by
            obtain ⟨_, t, ht⟩ := e
            rw [ht, ← hR.len, List.take_left]
          rw [eμ] at hr2 r2
          exact h I2 μ v H' (Ext.of μ (e.1.trans s2)) hr2 (r2 _ _ _ ru ew)
        · exact h.elim
      · exact h.elim
    | nx env' L' =>
      rw [q] at h
      dsimp only at h
      split at h
      · rename_i hk
        intro I' μ' σ' H' e hr' er'
        obtain ⟨I2, s2, hr2, r2⟩ := hr'.ret hk.1 (hk.all hR)
        have eμ : μ'.take L.length = μ := by
          obtain ⟨_, t, ht⟩ := e
          rw [ht, ← hR.len, List.take_left]
        rw [eμ] at hr2
        exact h I2 μ _ H' (Ext.of μ (e.1.trans s2)) hr2 (.d .non)
      · exact h.elim
    | exc c th env' L' =>
      rw [q] at h
      dsimp only at h
      split at h
      · rename_i hk
        intro I' μ' σ' H' cls d e hr' er' xr
        obtain ⟨I2, s2, hr2, r2⟩ := hr'.ret hk.1 (hk.all hR)
        have eμ : μ'.take L.length = μ := by
          obtain ⟨_, t, ht⟩ := e
          rw [ht, ← hR.len, List.take_left]
        rw [eμ] at hr2
        obtain ⟨x1, dx, v, x2, x3, x4⟩ := xr
        exact h I2 μ H' cls d (Ext.of μ (e.1.trans s2)) hr2 ⟨x1, dx, v, x2, s2 _ _ x3, x4.mono s2⟩
      · exact h.elim
    | bk env' L' => rw [q] at h; exact h.elim
    | ct env' L' => rw [q] at h; exact h.elim
    | bad => rw [q] at h; exact h.elim
  bd := F.binds b
  kp := F.kp
/-- .. for one that does -/
theorem fx_mkK (F : Fun K x qual st f fd) (S : FnScope N ps (defScope st))
    (b : ∀ (kV doc pm : Value) (an : Option Addr) (cdv ct : Value) (us : List Value), us.length = ps.length → bindArgs (PySem.W.fnOf x qual (defArgs st) (defBody st) (defScope st) .none kV doc pm an cdv ct) ⟨us, []⟩ = pure (ps.zip us))
    (hb : ∀ (cdv : Value) (A : Around) (outer : List Env) (s : Shared) (H : Hp) (E : XK), Rm k (A.deeper (envOfC qual (defScope st) s.heap.objs.size f cdv)) → ∀ Wx : WX, Takes (cxOf (L2.CX P w) P w K mg base N qual (defScope st) f cdv A outer s H E) Wx →
      PassesOwn (model P w) (A.deeper (envOfC qual (defScope st) s.heap.objs.size f cdv)) (envOfC qual (defScope st) s.heap.objs.size f cdv) (cxOf (L2.CX P w) P w K mg base N qual (defScope st) f cdv A outer s H E).xe →
      RSs (cxOf (L2.CX P w) P w K mg base N qual (defScope st) f cdv A outer s H E) Wx (defBody st) m) : Fx P w K mg base (k + 1) f fd ps (fnK N.length m) where
  ok := by
    refine g_of F S (fun vs H Q E ⟨ws, L, I, μ, hl, r, _⟩ => by rw [← r.length]; exact hl) fun cdv A outer s H vs Q E hr ⟨ws, L, I, μ, hl, r, hR, h⟩ => ?_
    refine ⟨_, hb cdv A outer s H E hr _ (takes_of rfl rfl rfl rfl) (passes_of rfl), startE N.length ws, L, I, μ, er_start r N, hR, ?_⟩
    unfold fnK finishK at h
    cases q : m (startE N.length ws) L with
    | rt u L' => rw [q] at h; exact h
    | nx env' L' => rw [q] at h; exact fun I' μ' σ' H' e hr' er' => h I' μ' _ H' e hr' (.d .non)
    | exc c th env' L' => rw [q] at h; exact fun I' μ' σ' H' cls d e hr' er' xr => h I' μ' H' cls d e hr' xr
    | bk env' L' => rw [q] at h; exact h.elim
    | ct env' L' => rw [q] at h; exact h.elim
    | bad => rw [q] at h; exact h.elim
  bd := F.binds b
  kp := F.kp
end
/-! ### built-ins -/
inductive RRs (K : PySem.W.Frag) (I H : Hp) : List D → List V → Prop
  | nil : RRs K I H [] []
  | cons {x : D} {v : V} {xs : List D} {vs : List V} : RR K I H x v → RRs K I H xs vs → RRs K I H (x :: xs) (v :: vs)
def rds (L : LH) : List W → Option (List D)
  | [] => some []
  | w :: r => (rd L w).bind fun x => (rds L r).map (x :: ·)
theorem HR.rds {K : PySem.W.Frag} {I H : Hp} {μ : List Addr} {L : LH} (hr : HR K I μ L H) : ∀ {ws : List W} {vs : List V} {xs : List D}, RWs K I μ ws vs → MP.rds L ws = some xs → RRs K I H xs vs
  | _, _, _, .nil, e => by simp only [MP.rds, Option.some.injEq] at e; subst e; exact .nil
  | w :: ws, _, _, .cons r t, e => by
    simp only [MP.rds] at e
    cases q : MP.rd L w with
    | none => rw [q] at e; cases e
    | some x =>
      rw [q, Option.bind_some, Option.map_eq_some_iff] at e
      obtain ⟨ys, e1, rfl⟩ := e
      exact .cons (hr.rd r q) (HR.rds hr t e1)
def mB (f : List D → Option D) (a : AM) : EM := fun env L => (a env L).bind fun ws L1 => pureD L1 ((rds L1 ws).bind f)
def OpN (K : PySem.W.Frag) (f : List D → Option D) (r : List V → Hp → VK → Prop) : Prop := ∀ (I H : Hp) (xs : List D) (z : D) (vs : List V) (Q : VK), Same I H → f xs = some z → RRs K I H xs vs → (∀ I' H' v', Grow I H I' H' → RD K I' z v' → Q v' H') → r vs H Q
section
variable {X : Cx} {Wx : WX} {x : Str} {e : Expr} {es : List Expr} {ms : AM} {p pos : Pos} {id T : String} {r : List V → Hp → VK → Prop} {f : List D → Option D}
theorem t_opN (hs : OpN X.K f r) {σ : L2.St} {H : Hp} {Q : VK} (h : MP.T X.K Wx (mB f ms) σ H Q) : tCB r (TA X.K Wx ms) σ H Q := by
  obtain ⟨env, L, I, μ, er, hr, h⟩ := h
  refine (TG.seq er hr h).imp fun vs H1 ⟨L1, I1, μ1, ws, e1, er1, hr1, r1, h1⟩ => ?_
  cases ex : rds L1 ws with
  | none => rw [ex] at h1; exact h1.elim
  | some xs =>
    rw [ex, Option.bind_some] at h1
    cases ez : f xs with
    | none => rw [ez] at h1; exact h1.elim
    | some z =>
      rw [ez] at h1
      exact hs I1 H1 xs z vs Q hr1.sub ez (hr1.rds r1 ex) (Post.pure h1 hr1)
theorem re_bB (hc : CallR X (.builtin id) r) (hs : OpN X.K f r) (hg : Gl X x) (hm : X.mg x = none) (hv : bootBuiltins x = some (.builtin id)) (ha : RA X Wx (e :: es) ms) (hn : x ≠ "__name__" := by decide) (hdb : (x == ("__debug__" : Str)) = false := by decide)
    (he : starEach (e :: es) X.env = (false, eval e X.env) :: starEach es X.env := by rfl) (hpl : (backTo pos (starEach es X.env)).any (·.1) = false := by rfl) : RE X Wx (.Call (.Name x p) (e :: es) [] pos) (mB f ms) :=
  (pe_callB hc hg hm hv ha hn hdb he hpl).imp fun σ H Q h => t_opN hs h
theorem re_bT (hc : CallR X (.type T) r) (hs : OpN X.K f r) (hg : Gl X x) (hm : X.mg x = none) (hv : bootBuiltins x = some (.type T)) (ha : RA X Wx (e :: es) ms) (hn : x ≠ "__name__" := by decide) (hdb : (x == ("__debug__" : Str)) = false := by decide)
    (he : starEach (e :: es) X.env = (false, eval e X.env) :: starEach es X.env := by rfl) (hpl : (backTo pos (starEach es X.env)).any (·.1) = false := by rfl) : RE X Wx (.Call (.Name x p) (e :: es) [] pos) (mB f ms) :=
  (pe_callTy hc hg hm hv ha hn hdb he hpl).imp fun σ H Q h => t_opN hs h
theorem re_bG (hc : CallR X (.builtin id) r) (hs : OpN X.K f r) (hg : Gl X x) (hm : X.mg x = some (.builtin id)) (ha : RA X Wx (e :: es) ms) (hdb : (x == ("__debug__" : Str)) = false := by decide)
    (he : starEach (e :: es) X.env = (false, eval e X.env) :: starEach es X.env := by rfl) (hpl : (backTo pos (starEach es X.env)).any (·.1) = false := by rfl) : RE X Wx (.Call (.Name x p) (e :: es) [] pos) (mB f ms) :=
  (pe_callBfun hc hg hm ha hdb he hpl).imp fun σ H Q h => t_opN hs h
end
end MP
namespace MP
open PySem PySem.Spec PyProof.Rows L2
section
variable {X : Cx}
/-! ### len, sum, all, any, max, min, abs, int, tuple, list, gcd -/
def lenD : List D → Option D
  | [.str y] => if y.length ≤ sizeLine then some (.int y.length) else none
  | [.lst xs] => some (.int xs.length)
  | [.tup xs] => some (.int xs.length)
  | [.dct xs] => some (.int xs.length)
  | _ => none
def rLenAll (K : PySem.W.Frag) : List V → Hp → VK → Prop := fun xs H Q => (∃ x n, xs = [x] ∧ LenV K x H n ∧ Q (.int n) H) ∨ ∃ a kvs, xs = [.ref a] ∧ Rd H a (.dK kvs) ∧ Q (.int (kvs.length : Nat)) H
theorem c_len : CallR X (.builtin "len") (rLenAll X.K) := call_len.or fun pins s σ H xs us Q I r ⟨a, kvs, e, hd, q⟩ => by
  subst e
  cases r with | cons r1 rt =>
  cases rt
  cases r1
  exact d_len I hd fun t s' I' => ⟨.int (kvs.length : Nat), H, I', ⟨t, rfl⟩, q⟩
theorem RDk.length {K : PySem.W.Frag} {I : Hp} : ∀ {xs : List (Key × D)} {vs : List (Key × V)}, RDk K I xs vs → xs.length = vs.length
  | _, _, .nil => rfl
  | _, _, .cons _ t => congrArg (· + 1) t.length
theorem o_len {K : PySem.W.Frag} : OpN K lenD (rLenAll K) := by
  intro I H xs z vs Q s e r q
  unfold lenD at e
  split at e
  · cases r with | cons r1 rt =>
    cases rt
    cases (r1 : RD _ _ _ _)
    split at e
    · rename_i c; cases e; exact .inl ⟨_, _, rfl, ⟨c, rfl⟩, q _ _ _ .refl (.int _)⟩
    · cases e
  · cases r with | cons r1 rt =>
    cases rt
    obtain ⟨a, vs, rfl, hp, rp⟩ := r1
    cases e
    exact .inl ⟨_, vs.length, rfl, .inl ⟨vs, .of hp, rfl⟩, by rw [← rp.length]; exact q _ _ _ .refl (.int _)⟩
  · cases r with | cons r1 rt =>
    cases rt
    cases (r1 : RD _ _ _ _) with | @tup _ _ vs hp rp =>
    cases e
    exact .inl ⟨_, vs.length, rfl, .inr ⟨_, sqT_mono s hp, rfl⟩, by rw [← rp.length]; exact q _ _ _ .refl (.int _)⟩
  · cases r with | cons r1 rt =>
    cases rt
    obtain ⟨a, vs, rfl, hp, rp⟩ := r1
    cases e
    exact .inr ⟨_, vs, rfl, .inl hp, by rw [← rp.length]; exact q _ _ _ .refl (.int _)⟩
  · cases e
def sumD : List D → Option D
  | [.lst xs] => (intsD xs).map fun ns => .int ns.sum
  | _ => none
theorem o_lst1 {K : PySem.W.Frag} {I H : Hp} {xs : List D} {vs : List V} (r : RRs K I H [.lst xs] vs) : ∃ a us, vs = [.ref a] ∧ H a = some (.lst us) ∧ RDs K I xs us := by
  cases r with | cons r1 rt =>
  cases rt
  obtain ⟨a, us, rfl, hp, rp⟩ := r1
  exact ⟨a, us, rfl, hp, rp⟩
theorem o_sum {K : PySem.W.Frag} : OpN K sumD (rSum K) := by
  intro I H xs z vs Q s e r q
  unfold sumD at e
  split at e
  · obtain ⟨a, us, rfl, hp, rp⟩ := o_lst1 r
    rw [Option.map_eq_some_iff] at e
    obtain ⟨ns, e1, rfl⟩ := e
    rw [intsD_map e1] at rp
    have := rp.ints_of
    subst this
    exact ⟨a, ns, rfl, .of hp, q _ _ _ .refl (.int _)⟩
  · cases e
def allD' : List D → Option D
  | [.lst xs] => (bls xs).map fun ns => .bl (ns.all id)
  | _ => none
def anyD : List D → Option D
  | [.lst xs] => (bls xs).map fun ns => .bl (ns.any id)
  | _ => none
theorem o_all {K : PySem.W.Frag} : OpN K allD' (rAll K) := by
  intro I H xs z vs Q s e r q
  unfold allD' at e
  split at e
  · obtain ⟨a, us, rfl, hp, rp⟩ := o_lst1 r
    rw [Option.map_eq_some_iff] at e
    obtain ⟨ns, e1, rfl⟩ := e
    rw [bls_map e1] at rp
    have := rp.bls_of
    subst this
    exact ⟨a, ns, rfl, .of hp, q _ _ _ .refl (.bl _)⟩
  · cases e
theorem o_any {K : PySem.W.Frag} : OpN K anyD (rAny K) := by
  intro I H xs z vs Q s e r q
  unfold anyD at e
  split at e
  · obtain ⟨a, us, rfl, hp, rp⟩ := o_lst1 r
    rw [Option.map_eq_some_iff] at e
    obtain ⟨ns, e1, rfl⟩ := e
    rw [bls_map e1] at rp
    have := rp.bls_of
    subst this
    exact ⟨a, ns, rfl, .of hp, q _ _ _ .refl (.bl _)⟩
  · cases e
def maxI : List Int → Int
  | [] => 0
  | [x] => x
  | x :: r => max x (maxI r)
def minI : List Int → Int
  | [] => 0
  | [x] => x
  | x :: r => min x (minI r)
theorem maxI_ge : ∀ {ns : List Int} {y : Int}, y ∈ ns → y ≤ maxI ns
  | [x], y, h => by simp at h; subst h; exact Int.le_refl _
  | x :: x2 :: r, y, h => by
    rcases List.mem_cons.mp h with e | h
    · subst e; exact Int.le_max_left ..
    · exact Int.le_trans (maxI_ge h) (Int.le_max_right ..)
theorem maxI_mem : ∀ {ns : List Int}, ns ≠ [] → maxI ns ∈ ns
  | [x], _ => by simp [maxI]
  | x :: x2 :: r, _ => by
    have ih := maxI_mem (ns := x2 :: r) (by simp)
    show max x (maxI (x2 :: r)) ∈ _
    rcases Int.le_total x (maxI (x2 :: r)) with h | h
    · rw [Int.max_eq_right h]; exact List.mem_cons_of_mem _ ih
    · rw [Int.max_eq_left h]; exact List.mem_cons_self
theorem minI_le : ∀ {ns : List Int} {y : Int}, y ∈ ns → minI ns ≤ y
  | [x], y, h => by simp at h; subst h; exact Int.le_refl _
  | x :: x2 :: r, y, h => by
    rcases List.mem_cons.mp h with e | h
    · subst e; exact Int.min_le_left ..
    · exact Int.le_trans (Int.min_le_right ..) (minI_le h)
theorem minI_mem : ∀ {ns : List Int}, ns ≠ [] → minI ns ∈ ns
  | [x], _ => by simp [minI]
  | x :: x2 :: r, _ => by
    have ih := minI_mem (ns := x2 :: r) (by simp)
    show min x (minI (x2 :: r)) ∈ _
    rcases Int.le_total x (minI (x2 :: r)) with h | h
    · rw [Int.min_eq_left h]; exact List.mem_cons_self
    · rw [Int.min_eq_right h]; exact List.mem_cons_of_mem _ ih
def maxD : List D → Option D
  | [.lst xs] => (intsD xs).bind fun ns => if ns ≠ [] then some (.int (maxI ns)) else none
  | [.int i, .int j] => some (.int (max i j))
  | _ => none
def minD : List D → Option D
  | [.lst xs] => (intsD xs).bind fun ns => if ns ≠ [] then some (.int (minI ns)) else none
  | [.int i, .int j] => some (.int (min i j))
  | _ => none
abbrev rMaxAll (K : PySem.W.Frag) : List V → Hp → VK → Prop := fun xs H Q => rMax K xs H Q ∨ ∃ i j, xs = [.int i, .int j] ∧ Q (.int (if j > i then j else i)) H
abbrev rMinAll (K : PySem.W.Frag) : List V → Hp → VK → Prop := fun xs H Q => rMin K xs H Q ∨ ∃ i j, xs = [.int i, .int j] ∧ Q (.int (if j < i then j else i)) H
theorem c_max (hc : X.calm = true) : CallR X (.builtin "max") (rMaxAll X.K) := (cr_max hc).or (call_max2 hc)
theorem c_min (hc : X.calm = true) : CallR X (.builtin "min") (rMinAll X.K) := (cr_min hc).or (call_min2 hc)
theorem o_max {K : PySem.W.Frag} : OpN K maxD (rMaxAll K) := by
  intro I H xs z vs Q s e r q
  unfold maxD at e
  split at e
  · obtain ⟨a, us, rfl, hp, rp⟩ := o_lst1 r
    rename_i xs
    cases e1 : intsD xs with
    | none => rw [e1] at e; cases e
    | some ns =>
      rw [e1, Option.bind_some] at e
      split at e
      · rename_i hne
        cases e
        rw [intsD_map e1] at rp
        have := rp.ints_of
        subst this
        refine .inl ⟨a, ns, rfl, .of hp, List.length_pos_iff.mpr hne, fun m hm hy => ?_⟩
        have em : m = maxI ns := Int.le_antisymm (maxI_ge hm) (hy _ (maxI_mem hne))
        rw [em]
        exact q _ _ _ .refl (.int _)
      · cases e
  · cases r with | cons r1 rt =>
    cases rt with | cons r2 rt =>
    cases rt
    cases (r1 : RD _ _ _ _)
    cases (r2 : RD _ _ _ _)
    cases e
    refine .inr ⟨_, _, rfl, ?_⟩
    rename_i i j
    have em : (if j > i then j else i) = max i j := by omega
    rw [em]
    exact q _ _ _ .refl (.int _)
  · cases e
theorem o_min {K : PySem.W.Frag} : OpN K minD (rMinAll K) := by
  intro I H xs z vs Q s e r q
  unfold minD at e
  split at e
  · obtain ⟨a, us, rfl, hp, rp⟩ := o_lst1 r
    rename_i xs
    cases e1 : intsD xs with
    | none => rw [e1] at e; cases e
    | some ns =>
      rw [e1, Option.bind_some] at e
      split at e
      · rename_i hne
        cases e
        rw [intsD_map e1] at rp
        have := rp.ints_of
        subst this
        refine .inl ⟨a, ns, rfl, .of hp, List.length_pos_iff.mpr hne, fun m hm hy => ?_⟩
        have em : m = minI ns := Int.le_antisymm (hy _ (minI_mem hne)) (minI_le hm)
        rw [em]
        exact q _ _ _ .refl (.int _)
      · cases e
  · cases r with | cons r1 rt =>
    cases rt with | cons r2 rt =>
    cases rt
    cases (r1 : RD _ _ _ _)
    cases (r2 : RD _ _ _ _)
    cases e
    refine .inr ⟨_, _, rfl, ?_⟩
    rename_i i j
    have em : (if j < i then j else i) = min i j := by omega
    rw [em]
    exact q _ _ _ .refl (.int _)
  · cases e
def absD : List D → Option D
  | [.int i] => some (.int i.natAbs)
  | _ => none
theorem o_abs {K : PySem.W.Frag} : OpN K absD (fun xs H Q => ∃ i, xs = [.int i] ∧ Q (.int (if i < 0 then -i else i)) H) := by
  intro I H xs z vs Q s e r q
  unfold absD at e
  split at e
  · cases r with | cons r1 rt =>
    cases rt
    cases (r1 : RD _ _ _ _)
    cases e
    refine ⟨_, rfl, ?_⟩
    rename_i i
    have em : (if i < 0 then -i else i) = (i.natAbs : Int) := by omega
    rw [em]
    exact q _ _ _ .refl (.int _)
  · cases e
def intD : List D → Option D
  | [.int i] => some (.int i)
  | [.bl b] => some (.int (if b then 1 else 0))
  | _ => none
theorem o_int {K : PySem.W.Frag} : OpN K intD (fun xs H Q => (∃ i, xs = [.int i] ∧ Q (.int i) H) ∨ ∃ k, xs = [.bl k] ∧ Q (.int (if k then 1 else 0)) H) := by
  intro I H xs z vs Q s e r q
  unfold intD at e
  split at e
  · cases r with | cons r1 rt =>
    cases rt
    cases (r1 : RD _ _ _ _)
    cases e
    exact .inl ⟨_, rfl, q _ _ _ .refl (.int _)⟩
  · cases r with | cons r1 rt =>
    cases rt
    cases (r1 : RD _ _ _ _)
    cases e
    exact .inr ⟨_, rfl, q _ _ _ .refl (.int _)⟩
  · cases e
def gcdD : List D → Option D
  | [.int i, .int j] => some (.int ((Nat.gcd i.natAbs j.natAbs : Nat) : Int))
  | _ => none
theorem o_gcd {K : PySem.W.Frag} : OpN K gcdD rGcd := by
  intro I H xs z vs Q s e r q
  unfold gcdD at e
  split at e
  · cases r with | cons r1 rt =>
    cases rt with | cons r2 rt =>
    cases rt
    cases (r1 : RD _ _ _ _)
    cases (r2 : RD _ _ _ _)
    cases e
    exact ⟨_, _, rfl, q _ _ _ .refl (.int _)⟩
  · cases e
def tupD : List D → Option D
  | [.lst xs] => some (.tup xs)
  | [.tup xs] => some (.tup xs)
  | _ => none
theorem o_tup {K : PySem.W.Frag} : OpN K tupD (fun xs H Q => ∃ p ys, xs = [.ref p] ∧ ((SqL K H p ys ∧ ∀ l, H l = none → Q (.ref l) (upd H l (.tup ys))) ∨ (SqT K H p ys ∧ Q (.ref p) H))) := by
  intro I H xs z vs Q s e r q
  unfold tupD at e
  split at e
  · obtain ⟨a, us, rfl, hp, rp⟩ := o_lst1 r
    cases e
    exact ⟨a, us, rfl, .inl ⟨.of hp, fun l hl => q _ _ _ (.one _ hl) (.tup (.of upd_same) (rp.mono (same_upd (s.free hl))))⟩⟩
  · cases r with | cons r1 rt =>
    cases rt
    cases (r1 : RD _ _ _ _) with | tup hp rp =>
    cases e
    exact ⟨_, _, rfl, .inr ⟨sqT_mono s hp, q _ _ _ .refl (.tup hp rp)⟩⟩
  · cases e
def listD : List D → Option D
  | [.lst xs] => some (.lst xs)
  | [.tup xs] => some (.lst xs)
  | _ => none
theorem o_list {K : PySem.W.Frag} : OpN K listD (fun xs H Q => ∃ p ys, xs = [.ref p] ∧ (SqL K H p ys ∨ SqT K H p ys) ∧ ∀ l, H l = none → Q (.ref l) (upd H l (.lst ys))) := by
  intro I H xs z vs Q s e r q
  unfold listD at e
  split at e
  · obtain ⟨a, us, rfl, hp, rp⟩ := o_lst1 r
    cases e
    exact ⟨a, us, rfl, .inl (.of hp), fun l hl => q _ _ _ (.one _ hl) (.lst upd_same (rp.mono (same_upd (s.free hl))))⟩
  · cases r with | cons r1 rt =>
    cases rt
    cases (r1 : RD _ _ _ _) with | tup hp rp =>
    cases e
    exact ⟨_, _, rfl, .inr (sqT_mono s hp), fun l hl => q _ _ _ (.one _ hl) (.lst upd_same (rp.mono (same_upd (s.free hl))))⟩
  · cases e

/-! ### isinstance -/
def tyD : D → Option String
  | .non => some "NoneType"
  | .bl _ => some "bool"
  | .int _ => some "int"
  | .str _ => some "str"
  | .tup _ => some "tuple"
  | .lst _ => some "list"
  | .dct _ => some "dict"
  | _ => none
def tys : List String := ["NoneType", "bool", "int", "str", "tuple", "list", "dict"]
def isB (t T : String) : Option Bool := if t ∈ tys ∧ T ∈ ["bool", "int", "str", "tuple", "list", "dict"] then some (decide (t = T) || (decide (t = "bool") && decide (T = "int"))) else none
theorem isB_kit : ∀ t ∈ tys, ∀ T ∈ ["bool", "int", "str", "tuple", "list", "dict"], kitB t T = some (decide (t = T) || (decide (t = "bool") && decide (T = "int"))) := by decide +kernel
/-- an own class: what is known of it -/
structure OwnC (K : PySem.W.Frag) (C : Addr) : Prop where
  cl : C8.InsC K C
  no : ∀ T ∈ ["bool", "int", "str", "tuple", "list", "dict"], PySem.W.kitOne K (.ref C) (.type T) = some false
def isiD (cl : Option Addr) : List D → Option D
  | [.ob C _, .ty T] => if cl = some C ∧ T ∈ ["bool", "int", "str", "tuple", "list", "dict"] then some (.bl false) else none
  | [x, .ty T] => ((tyD x).bind fun t => isB t T).map .bl
  | _ => none
theorem o_isi {K : PySem.W.Frag} {cl : Option Addr} (hC : ∀ C, cl = some C → OwnC K C) : OpN K (isiD cl) (rIsi K) := by
  intro I H xs z vs Q s e r q
  unfold isiD at e
  split at e
  · cases r with | cons r1 rt =>
    cases rt with | cons r2 rt =>
    cases rt
    cases (r2 : RD _ _ _ _)
    cases (r1 : RD _ _ _ _) with | ob h1 h2 h3 =>
    split at e
    · rename_i c
      cases e
      have o := hC _ c.1
      exact ⟨_, _, _, _, false, rfl, .ty _, .base (.ins (s _ _ h1) o.cl.cl o.cl.ha o.cl.hn o.cl.htk o.cl.hm), o.no _ c.2, q _ _ _ .refl (.bl _)⟩
    · cases e
  · rename_i x T _
    cases r with | cons r1 rt =>
    cases rt with | cons r2 rt =>
    cases rt
    cases (r2 : RD _ _ _ _)
    rw [Option.map_eq_some_iff] at e
    obtain ⟨b, e1, rfl⟩ := e
    cases et : tyD x with
    | none => rw [et] at e1; cases e1
    | some t =>
      rw [et, Option.bind_some] at e1
      unfold isB at e1
      split at e1
      · rename_i c
        cases e1
        have k := kit_ty (K := K) (isB_kit t c.1 T c.2)
        refine ⟨_, _, _, _, _, rfl, .ty _, ?_, k, q _ _ _ .refl (.bl _)⟩
        cases x with
        | non => cases et; cases (r1 : RD _ _ _ _); exact .base .non
        | bl b => cases et; cases (r1 : RD _ _ _ _); exact .base (.bl _)
        | int b => cases et; cases (r1 : RD _ _ _ _); exact .base (.int _)
        | str b => cases et; cases (r1 : RD _ _ _ _); exact .base (.str _)
        | lst xs => cases et; obtain ⟨a, us, rfl, hp, rp⟩ := r1; exact .base (.lst hp)
        | dct xs => cases et; obtain ⟨a, us, rfl, hp, rp⟩ := r1; exact .base (.dK hp)
        | tup xs =>
          cases et
          cases (r1 : RD _ _ _ _) with | tup hp rp =>
          rcases sqT_mono s hp with (h | ⟨o, h⟩) | ⟨o, its, n, h, hc, _⟩
          · exact .base (.tup h)
          · exact .fTuple h
          · exact .kTuple h hc
        | ob _ _ => cases et
        | rf _ => cases et
        | scr _ => cases et
        | ty _ => cases et
      · cases e1
  · cases e

/-! ### repr -/
structure SysOk (K : PySem.W.Frag) : Prop where
  ok : ∃ o, K.lookup sysModules = some o ∧ o.cls = .type "dict"
def encK : Key → PyData
  | .inl i => .int i
  | .inr s => .str s
theorem key_reads {P : Program} {w : World} {h : Heap} (k : Key) (v : Value) (e : (mixKind P w).is k v = true) : Reads h v (encK k) [] := by
  rcases keyIs_shape e with ⟨i, t, rfl, rfl⟩ | ⟨x, t, rfl, rfl⟩
  · exact .int i t
  · exact .str x t
def noSys (as : List Addr) : Prop := ∀ a ∈ as, a ≠ sysModules
theorem noSys.nil : noSys [] := fun _ h => nomatch h
theorem noSys.app {as bs : List Addr} (a : noSys as) (b : noSys bs) : noSys (as ++ bs) := fun x h => (List.mem_append.mp h).elim (a x) (b x)
theorem noSys.cons {a : Addr} {as : List Addr} (h : a ≠ sysModules) (b : noSys as) : noSys (a :: as) := fun x q => by
  rcases List.mem_cons.mp q with e | q
  · rw [e]; exact h
  · exact b x q
section
variable {pins : List (Addr × Obj)} {σ : L2.St} {H I : Hp} {s : Shared}
theorem lst_noSys (sy : SysOk X.K) (J : Inv X pins σ H s) {a : Addr} {vs : List V} (h : H a = some (.lst vs)) : a ≠ sysModules := fun e => by
  obtain ⟨o, ho, hc⟩ := sy.ok
  have h1 := J.kIn _ _ ho
  obtain ⟨its, n, _, h2, _⟩ := J.lst h
  rw [e, h1] at h2
  have h3 := Option.some.inj h2
  rw [h3] at hc
  injection hc with hc
  exact absurd hc (by decide)
mutual
theorem rd_reads (sy : SysOk X.K) (J : Inv X pins σ H s) (sm : Same I H) : ∀ {x : D} {v : V} {u : Value} {p : PyData}, RD X.K I x v → L2.RelV v u → toP x = some p → ∃ as, Reads s.heap u p as ∧ noSys as
  | _, _, _, _, .non, r, h => by simp only [toP] at h; cases h; cases r; exact ⟨[], .none, .nil⟩
  | _, _, _, _, .bl b, r, h => by simp only [toP] at h; cases h; cases r; exact ⟨[], .bool _, .nil⟩
  | _, _, _, _, .int i, r, h => by simp only [toP] at h; cases h; obtain ⟨t, rfl⟩ := r; exact ⟨[], .int _ _, .nil⟩
  | _, _, _, _, .str x, r, h => by simp only [toP] at h; cases h; obtain ⟨t, rfl⟩ := r; exact ⟨[], .str _ _, .nil⟩
  | .tup xs, _, _, _, .tup hp rp, r, h => by
    simp only [toP, Option.map_eq_some_iff] at h
    obtain ⟨ps, h1, rfl⟩ := h
    cases r
    obtain ⟨its, rv, ⟨o, e1, e2, n, e3⟩, _⟩ := J.tuple (sqT_mono sm hp)
    obtain ⟨as, ra, na⟩ := rds_reads sy J sm rp rv h1
    exact ⟨as, .tuple e1 e2 e3 ra, na⟩
  | .lst xs, _, _, _, .lst hp rp, r, h => by
    simp only [toP, Option.map_eq_some_iff] at h
    obtain ⟨ps, h1, rfl⟩ := h
    cases r
    have hh := sm _ _ hp
    obtain ⟨its, n, rv, e1, _⟩ := J.lst hh
    obtain ⟨as, ra, na⟩ := rds_reads sy J sm rp rv h1
    exact ⟨_ :: as, .list e1 rfl rfl ra, .cons (lst_noSys sy J hh) na⟩
  | .dct xs, _, _, _, .dct hp rp, r, h => by
    simp only [toP, Option.map_eq_some_iff] at h
    obtain ⟨ps, h1, rfl⟩ := h
    cases r
    obtain ⟨_, hne, vs, rv, hd⟩ := dk_of J.hok (sm _ _ hp)
    obtain ⟨as, ra, na⟩ := rdk_reads sy J sm rp rv h1
    exact ⟨_ :: as, PyProof.V.reads_dictOf key_reads hd ra, .cons (by simpa using hne) na⟩
  | _, _, _, _, .ob _ _ _, _, h => by simp [toP] at h
  | _, _, _, _, .rf _, _, h => by simp [toP] at h
  | _, _, _, _, .scr _, _, h => by simp [toP] at h
  | _, _, _, _, .ty _, _, h => by simp [toP] at h
theorem rds_reads (sy : SysOk X.K) (J : Inv X pins σ H s) (sm : Same I H) : ∀ {x : List D} {v : List V} {u : List Value} {p : List PyData}, RDs X.K I x v → Vals v u → toPs x = some p → ∃ as, ReadsAll s.heap u p as ∧ noSys as
  | _, _, _, _, .nil, .nil, h => by simp only [toPs] at h; cases h; exact ⟨[], .nil, .nil⟩
  | x :: xs, _, _, _, .cons r t, .cons rv tv, h => by
    simp only [toPs] at h
    cases e : toP x with
    | none => rw [e] at h; cases h
    | some y =>
      rw [e, Option.bind_some, Option.map_eq_some_iff] at h
      obtain ⟨ps, h1, rfl⟩ := h
      obtain ⟨as, ra, na⟩ := rd_reads sy J sm r rv e
      obtain ⟨bs, rb, nb⟩ := rds_reads sy J sm t tv h1
      exact ⟨as ++ bs, .cons ra rb, na.app nb⟩
theorem rdk_reads (sy : SysOk X.K) (J : Inv X pins σ H s) (sm : Same I H) : ∀ {x : List (Key × D)} {v : List (Key × V)} {u : List (Key × Value)} {p : List (PyData × PyData)}, RDk X.K I x v → KV v u → toPk x = some p → ∃ as, PyProof.V.PairsRead s.heap encK u p as ∧ noSys as
  | _, _, _, _, .nil, .nil, h => by simp only [toPk] at h; cases h; exact ⟨[], .nil, .nil⟩
  | (k, x) :: xs, _, (k2, u) :: us, _, .cons r t, .cons rv tv, h => by
    obtain ⟨ek, rv⟩ := rv
    dsimp only at ek
    subst ek
    simp only [toPk] at h
    cases e : toP x with
    | none => rw [e] at h; cases h
    | some y =>
      rw [e, Option.bind_some, Option.map_eq_some_iff] at h
      obtain ⟨ps, h1, rfl⟩ := h
      obtain ⟨as, ra, na⟩ := rd_reads sy J sm r rv e
      obtain ⟨bs, rb, nb⟩ := rdk_reads sy J sm t tv h1
      cases k with
      | inl i => exact ⟨as ++ bs, .cons ra rb, na.app nb⟩
      | inr i => exact ⟨as ++ bs, .cons ra rb, na.app nb⟩
end
end
theorem rr_reads (sy : SysOk X.K) {pins : List (Addr × Obj)} {σ : L2.St} {H I : Hp} {s : Shared} (J : Inv X pins σ H s) (sm : Same I H) {x : D} {v : V} {u : Value} {p : PyData} (r : RR X.K I H x v) (rv : L2.RelV v u) (h : toP x = some p) : ∃ as, Reads s.heap u p as ∧ noSys as := by
  cases x with
  | lst xs =>
    simp only [toP, Option.map_eq_some_iff] at h
    obtain ⟨ps, h1, rfl⟩ := h
    obtain ⟨a, vs, rfl, hh, rp⟩ := r
    cases rv
    obtain ⟨its, n, rv, e1, _⟩ := J.lst hh
    obtain ⟨as, ra, na⟩ := rds_reads sy J sm rp rv h1
    exact ⟨_ :: as, .list e1 rfl rfl ra, .cons (lst_noSys sy J hh) na⟩
  | dct xs =>
    simp only [toP, Option.map_eq_some_iff] at h
    obtain ⟨ps, h1, rfl⟩ := h
    obtain ⟨a, vs, rfl, hh, rp⟩ := r
    cases rv
    obtain ⟨_, hne, vs, rv, hd⟩ := dk_of J.hok hh
    obtain ⟨as, ra, na⟩ := rdk_reads sy J sm rp rv h1
    exact ⟨_ :: as, PyProof.V.reads_dictOf key_reads hd ra, .cons (by simpa using hne) na⟩
  | non => exact rd_reads sy J sm r rv h
  | bl b => exact rd_reads sy J sm r rv h
  | int b => exact rd_reads sy J sm r rv h
  | str b => exact rd_reads sy J sm r rv h
  | tup b => exact rd_reads sy J sm r rv h
  | ob b c => exact rd_reads sy J sm r rv h
  | rf b => exact rd_reads sy J sm r rv h
  | scr b => exact rd_reads sy J sm r rv h
  | ty b => exact rd_reads sy J sm r rv h
/-- small enough to be shown -/
def okR (p : PyData) : Bool := p.showable && decide (p.depth ≤ 60) && decide (p.shown.length ≤ sizeLine)
def rRepr (K : PySem.W.Frag) : List V → Hp → VK → Prop := fun xs H Q => ∃ I x v p, xs = [v] ∧ Same I H ∧ RR K I H x v ∧ toP x = some p ∧ okR p = true ∧ Q (.str p.shown) H
theorem c_repr (sy : SysOk X.K) {k : Nat} (hr : Rm k X.A) : CallR X (.builtin "repr") (rRepr X.K) := by
  intro pins s σ H xs us Q J rv ⟨I, x, v, p, e, sm, r, hp, ok, q⟩
  subst e
  cases rv with | cons r1 rt =>
  cases rt
  rename_i u
  obtain ⟨as, ra, na⟩ := rr_reads sy J sm r r1 hp
  simp only [okR, Bool.and_eq_true, decide_eq_true_eq] at ok
  obtain ⟨⟨sh, hd⟩, hz⟩ := ok
  have hu := hr.r.units
  have fin : ∀ (h' : Heap) (tk : Tok) (n : Nat), (∀ b o, s.heap.get? b = some o → h'.get? b = some o) → EP X pins σ Q (.str p.shown tk) { s with heap := h', toks := n } := fun h' tk n hk => ⟨.str p.shown, H, J.kept hk, ⟨tk, rfl⟩, q⟩
  cases ra with
  | none => exact PySem.P.repr_of_none (fin _ _ _ fun _ _ e => e)
  | bool b => exact PySem.P.repr_of_bool (fin _ _ _ fun _ _ e => e)
  | int i t => exact PySem.P.repr_of_int (by simpa [PyData.showable] using sh) (fin _ _ _ fun _ _ e => e)
  | str z t => exact PySem.P.repr_of_str (fin _ _ _ fun _ _ e => e) hz
  | list h1 h2 h3 h4 => exact repr_of_reads' (.list h1 h2 h3 h4) sh (fun _ h => na _ h rfl) hr.g (by omega) (fun _ _ e => e) (fun h' u tk hk => fin h' u tk hk) hz
  | tuple h1 h2 h3 h4 => exact repr_of_reads' (.tuple h1 h2 h3 h4) sh (fun _ h => na _ h rfl) hr.g (by omega) (fun _ _ e => e) (fun h' u tk hk => fin h' u tk hk) hz
  | dict h1 h2 h3 h4 h5 => exact repr_of_reads' (.dict h1 h2 h3 h4 h5) sh (fun _ h => na _ h rfl) hr.g (by omega) (fun _ _ e => e) (fun h' u tk hk => fin h' u tk hk) hz
def reprD : List D → Option D
  | [x] => (toP x).bind fun p => if okR p = true then some (.str p.shown) else none
  | _ => none
theorem o_repr {K : PySem.W.Frag} : OpN K reprD (rRepr K) := by
  intro I H xs z vs Q s e r q
  unfold reprD at e
  split at e
  · cases r with | cons r1 rt =>
    cases rt
    rename_i x v
    cases ex : toP x with
    | none => rw [ex] at e; cases e
    | some p =>
      rw [ex, Option.bind_some] at e
      split at e
      · rename_i c
        cases e
        exact ⟨I, x, v, p, rfl, s, r1, ex, c, q _ _ _ .refl (.str _)⟩
      · cases e
  · cases e
end
end MP
namespace MP
open PySem PySem.Spec PyProof.Rows L2
/-! ### names of the module, built-in classes by name -/
section
variable {X : Cx} {Wx : WX} {x : Str} {pos : Pos}
theorem re_glob {d : D} {v : V} {u : Value} (hg : Gl X x) (hm : X.mg x = some u) (r : L2.RelV v u) (rd : ∀ I, RD X.K I d v) (hd : (x == ("__debug__" : Str)) = false := by decide) : RE X Wx (.Name x pos) (mD d) := re_const (pe_glob hg hm r hd) rd
theorem re_ty {n : String} (hg : Gl X x) (hm : X.mg x = none) (hv : bootBuiltins x = some (.type n)) (hn : x ≠ "__name__" := by decide) (hd : (x == ("__debug__" : Str)) = false := by decide) : RE X Wx (.Name x pos) (mD (.ty n)) :=
  re_const (pe_bltn hg hm hv (v := .ty n) rfl hn hd) fun _ => .ty n
end

/-! ### list(x), as a list that may change -/
def mListM (a : EM) : EM := fun env L => (a env L).bind fun w L1 => match rd L1 w with
  | some (.lst xs) => .ok (.loc L1.length) (L1 ++ [.lst xs])
  | some (.tup xs) => .ok (.loc L1.length) (L1 ++ [.lst xs])
  | _ => .bad
section
variable {X : Cx} {Wx : WX} {e : Expr} {m : EM} {p pos : Pos}
theorem HR.newlst {K : PySem.W.Frag} {I H : Hp} {μ : List Addr} {L : LH} (hr : HR K I μ L H) {p : Addr} {xs : List D} {vs : List V} (hp : H p = none) (r : RDs K I xs vs) :
    HR K I (μ ++ [p]) (L ++ [.lst xs]) (upd H p (.lst vs)) ∧ RW K I (μ ++ [p]) (.loc L.length) (.ref p) ∧ Ext I μ I (μ ++ [p]) :=
  ⟨hr.new (o := .lst xs) (ho := .lst vs) hp ⟨hr.sub.free hp, vs, upd_same, r⟩ trivial, .loc (by rw [List.getElem?_append_right (by rw [hr.len]; exact Nat.le_refl _), hr.len, Nat.sub_self]; rfl), Same.refl _, [p], rfl⟩
theorem re_listM (hg : Gl X "list") (hm : X.mg "list" = none) (ha : RE X Wx e m) (hn : starEach (e :: []) X.env = (false, eval e X.env) :: starEach [] X.env := by rfl) (hpl : (backTo pos (starEach [] X.env)).any (·.1) = false := by rfl) : RE X Wx (.Call (.Name "list" p) [e] [] pos) (mListM m) := by
  refine (pe_callTy (x := "list") call_list_of hg hm PyProof.Rows.boot_list (pa_cons ha pa_nil hn) (by decide) (by decide) hn hpl).imp fun σ H Q ⟨env, L, I, μ, er, hr, h⟩ => ?_
  refine (TG.seq er hr h).imp fun v1 H1 ⟨L1, I1, μ1, w1, e1, er1, hr1, r1, h1⟩ => ?_
  dsimp only [tCons, tNil]
  split at h1
  · rename_i xs ex
    obtain ⟨a, vs, rfl, hp, rp⟩ := hr1.rd r1 ex
    refine ⟨a, vs, rfl, .inl (.of hp), fun l hl => ?_⟩
    obtain ⟨g1, g2, g3⟩ := hr1.newlst hl rp
    exact h1 _ _ _ _ g3 g1 g2
  · rename_i xs ex
    cases (hr1.rd r1 ex : RD _ _ _ _) with | tup hp rp =>
    refine ⟨_, _, rfl, .inr (sqT_mono hr1.sub hp), fun l hl => ?_⟩
    obtain ⟨g1, g2, g3⟩ := hr1.newlst hl rp
    exact h1 _ _ _ _ g3 g1 g2
  · exact h1.elim
end

/-! ### methods of lists that may change -/
def mM0 (f : List D → Option (List D × D)) (a : EM) : EM := fun env L => (a env L).bind fun x L1 => match x with
  | .loc n => match L1[n]? with
    | some (.lst xs) => match f xs with
      | some (ys, z) => .ok (.d z) (L1.set n (.lst ys))
      | none => .bad
    | _ => .bad
  | _ => .bad
def isLst (L : LH) (x : W) : Bool := match rd L x with
  | some (.lst _) => true
  | _ => false
def mM1 (f : List D → D → Option (List D × D)) (a b : EM) : EM := fun env L => (a env L).bind fun x L1 => if isLst L1 x = true then (b env L1).bind fun y L2 => match fzW L2 y with
    | some (z, L3) => match x with
      | .loc n => match L3[n]? with
        | some (.lst xs) => match f xs z with
          | some (ys, u) => .ok (.d u) (L3.set n (.lst ys))
          | none => .bad
        | _ => .bad
      | _ => .bad
    | none => .bad
  else .bad
def Mt0 (K : PySem.W.Frag) (f : List D → Option (List D × D)) (r : V → List V → Hp → VK → Prop) : Prop := ∀ (I H : Hp) (l : Addr) (xs ys : List D) (z : D) (vs : List V) (Q : VK), f xs = some (ys, z) → H l = some (.lst vs) → RDs K I xs vs →
  (∀ us v, RDs K I ys us → RD K I z v → Q v (upd H l (.lst us))) → r (.ref l) [] H Q
def Mt1 (K : PySem.W.Frag) (f : List D → D → Option (List D × D)) (r : V → List V → Hp → VK → Prop) : Prop := ∀ (I H : Hp) (l : Addr) (xs ys : List D) (y z : D) (vs : List V) (u : V) (Q : VK), Same I H → f xs y = some (ys, z) → H l = some (.lst vs) → RDs K I xs vs → RD K I y u →
  (∀ us v, RDs K I ys us → RD K I z v → Q v (upd H l (.lst us))) → r (.ref l) [u] H Q
section
variable {X : Cx} {Wx : WX} {o e : Expr} {ma mb : EM} {name : Str} {apos cpos : Pos} {id : String} {r : V → List V → Hp → VK → Prop}
theorem isLst_ty {K : PySem.W.Frag} {I H : Hp} {μ : List Addr} {L : LH} (hr : HR K I μ L H) {w : W} {v : V} (r : RW K I μ w v) (h : isLst L w = true) : tyV K "list" v H := by
  unfold isLst at h
  split at h
  · rename_i xs ex
    obtain ⟨a, vs, rfl, hp, _⟩ := hr.rd r ex
    exact .inl ⟨rfl, vs, .of hp⟩
  · cases h
theorem re_m0 {f : List D → Option (List D × D)} (slot : Slot "list" name id) (hty : typeOf (.builtin id) = pure (.type "method_descriptor")) (hm : MtR X id r) (hs : Mt0 X.K f r) (ho : RE X Wx o ma)
    (hbase : attributeBase o name X.env (eval o X.env) = eval o X.env := by rfl) (hline : (apos.endLine == cpos.line) = true := by rfl) : RE X Wx (.Call (.Attribute o name apos) [] [] cpos) (mM0 f ma) := by
  refine (pe_bm0 PySem.F.plainAttrs_list slot hty hm ho hbase hline).imp fun σ H Q ⟨env, L, I, μ, er, hr, h⟩ => ?_
  refine (TG.seq er hr h).imp fun v1 H1 ⟨L1, I1, μ1, w1, e1, er1, hr1, r1, h1⟩ => ?_
  split at h1
  · rename_i n
    split at h1
    · rename_i xs ex
      split at h1
      · rename_i ys z ef
        cases r1 with | loc q =>
        obtain ⟨hi, vs, hp, rp⟩ := hr1.obj _ _ _ q ex
        refine ⟨.inl ⟨rfl, vs, .of hp⟩, hs I1 H1 _ xs ys z vs Q ef hp rp fun us v ru rz => ?_⟩
        exact h1 I1 μ1 v _ (.refl _ _) (hr1.write (o := .lst ys) (ho := .lst us) q hi hp (fun _ z => by cases z) ⟨hi, us, upd_same, ru⟩ trivial) (.d rz)
      · exact h1.elim
    · exact h1.elim
  · exact h1.elim
theorem re_m1 {f : List D → D → Option (List D × D)} (slot : Slot "list" name id) (hty : typeOf (.builtin id) = pure (.type "method_descriptor")) (hm : MtR X id r) (hs : Mt1 X.K f r) (ho : RE X Wx o ma) (hb : RE X Wx e mb)
    (hs' : starEach (e :: []) X.env = (false, eval e X.env) :: starEach [] X.env := by rfl)
    (hbase : attributeBase o name X.env (eval o X.env) = eval o X.env := by rfl)
    (hfew : ((backTo cpos (starEach (e :: []) X.env)).all (fun x => !x.1) && (backToKw cpos (keywordEach [] X.env)).all (fun x => x.1.isSome)
      && decide ((e :: ([] : List Expr)).length + ([] : List Keyword).length + (if ([] : List Keyword).isEmpty then 0 else 1) < 30)) = true := by rfl)
    (hline : (apos.endLine == cpos.line) = true := by rfl) (hplain : (backTo cpos (starEach [] X.env)).any (·.1) = false := by rfl) : RE X Wx (.Call (.Attribute o name apos) [e] [] cpos) (mM1 f ma mb) := by
  refine (pe_bm PySem.F.plainAttrs_list slot hty hm ho (pa_cons hb pa_nil hs') hbase hfew hline hs' hplain).imp fun σ H Q ⟨env, L, I, μ, er, hr, h⟩ => ?_
  refine (TG.seq er hr h).imp fun v1 H1 ⟨L1, I1, μ1, w1, e1, er1, hr1, r1, h1⟩ => ?_
  split at h1
  · rename_i hl
    refine ⟨isLst_ty hr1 r1 hl, (TG.seq er1 hr1 h1).imp fun v2 H2 ⟨L2, I2, μ2, w2, e2, er2, hr2, r2, h2⟩ => ?_⟩
    dsimp only [tNil]
    split at h2
    · rename_i z L3 ez
      obtain ⟨I3, s3, hr3, r3⟩ := hr2.fzW r2 ez
      split at h2
      · rename_i n
        split at h2
        · rename_i xs ex
          split at h2
          · rename_i ys u ef
            cases r1 with | loc q1 =>
            obtain ⟨hi, vs, hp, rp⟩ := hr3.obj _ _ _ (e2.at q1) ex
            refine hs I3 H2 _ xs ys z u vs v2 Q hr3.sub ef hp rp r3 fun us v ru rz => ?_
            exact h2 I3 μ2 v _ (Ext.of μ2 s3) (hr3.write (o := .lst ys) (ho := .lst us) (e2.at q1) hi hp (fun _ z => by cases z) ⟨hi, us, upd_same, ru⟩ trivial) (.d rz)
          · exact h2.elim
        · exact h2.elim
      · exact h2.elim
    · exact h2.elim
  · exact h1.elim
end
def appF (xs : List D) (y : D) : Option (List D × D) := if xs.length < sizeLine then some (xs ++ [y], .non) else none
def popF (xs : List D) : Option (List D × D) := xs[xs.length - 1]?.map fun y => (xs.dropLast, y)
def popAtF (xs : List D) (y : D) : Option (List D × D) := match y with
  | .int i => if -(2 ^ 63) ≤ i ∧ i < 2 ^ 63 then (seqIndex? i xs.length).bind fun k => xs[k]?.map fun y => (xs.eraseIdx k, y) else none
  | _ => none
def extF (xs : List D) (y : D) : Option (List D × D) := match y with
  | .lst ys => if xs.length + ys.length ≤ sizeLine then some (xs ++ ys, .non) else none
  | _ => none
section
variable {K : PySem.W.Frag}
theorem s_app : Mt1 K appF rAppend := by
  intro I H l xs ys y z vs u Q s e hp rp ry q
  unfold appF at e
  split at e
  · rename_i c
    cases e
    exact ⟨l, vs, u, rfl, rfl, hp, by rw [← rp.length]; exact c, q _ _ (rp.append (.cons ry .nil)) .non⟩
  · cases e
theorem s_pop : Mt0 K popF rPop := by
  intro I H l xs ys z vs Q e hp rp q
  unfold popF at e
  rw [Option.map_eq_some_iff] at e
  obtain ⟨y, e1, e2⟩ := e
  cases e2
  obtain ⟨v, h1, h2⟩ := rp.get e1
  rw [rp.length] at h1
  exact ⟨l, vs, v, rfl, rfl, hp, h1, q _ _ rp.dropLast h2⟩
theorem s_popAt : Mt1 K popAtF rPopAt := by
  intro I H l xs ys y z vs u Q s e hp rp ry q
  unfold popAtF at e
  split at e
  · cases ry
    split at e
    · rename_i c
      cases ek : seqIndex? _ xs.length with
      | none => rw [ek] at e; cases e
      | some k =>
        rw [ek, Option.bind_some, Option.map_eq_some_iff] at e
        obtain ⟨y, e1, e2⟩ := e
        cases e2
        obtain ⟨v, h1, h2⟩ := rp.get e1
        rw [rp.length] at ek
        exact ⟨l, vs, _, k, v, rfl, rfl, hp, c.1, c.2, ek, h1, q _ _ (rp.eraseIdx k) h2⟩
    · cases e
  · cases e
theorem s_ext : Mt1 K extF rExtend := by
  intro I H l xs ys y z vs u Q s e hp rp ry q
  unfold extF at e
  split at e
  · cases ry with | lst h2 r2 =>
    split at e
    · rename_i c
      cases e
      exact ⟨l, _, vs, _, rfl, rfl, hp, s _ _ h2, by rw [← rp.length, ← r2.length]; exact c, q _ _ (rp.append r2) .non⟩
    · cases e
  · cases e
end
section
variable {X : Cx} {Wx : WX} {o e : Expr} {ma mb : EM} {apos cpos : Pos}
theorem re_app (ho : RE X Wx o ma) (hb : RE X Wx e mb) (hs' : starEach (e :: []) X.env = (false, eval e X.env) :: starEach [] X.env := by rfl) (hbase : attributeBase o "append" X.env (eval o X.env) = eval o X.env := by rfl)
    (hfew : ((backTo cpos (starEach (e :: []) X.env)).all (fun x => !x.1) && (backToKw cpos (keywordEach [] X.env)).all (fun x => x.1.isSome)
      && decide ((e :: ([] : List Expr)).length + ([] : List Keyword).length + (if ([] : List Keyword).isEmpty then 0 else 1) < 30)) = true := by rfl)
    (hline : (apos.endLine == cpos.line) = true := by rfl) (hplain : (backTo cpos (starEach [] X.env)).any (·.1) = false := by rfl) : RE X Wx (.Call (.Attribute o "append" apos) [e] [] cpos) (mM1 appF ma mb) :=
  re_m1 PySem.F.slot_list_append PySem.F.type_list_append mt_append s_app ho hb hs' hbase hfew hline hplain
theorem re_pop (ho : RE X Wx o ma) (hbase : attributeBase o "pop" X.env (eval o X.env) = eval o X.env := by rfl) (hline : (apos.endLine == cpos.line) = true := by rfl) : RE X Wx (.Call (.Attribute o "pop" apos) [] [] cpos) (mM0 popF ma) :=
  re_m0 PySem.F.slot_list_pop PySem.F.type_list_pop mt_pop s_pop ho hbase hline
theorem re_popAt (ho : RE X Wx o ma) (hb : RE X Wx e mb) (hs' : starEach (e :: []) X.env = (false, eval e X.env) :: starEach [] X.env := by rfl) (hbase : attributeBase o "pop" X.env (eval o X.env) = eval o X.env := by rfl)
    (hfew : ((backTo cpos (starEach (e :: []) X.env)).all (fun x => !x.1) && (backToKw cpos (keywordEach [] X.env)).all (fun x => x.1.isSome)
      && decide ((e :: ([] : List Expr)).length + ([] : List Keyword).length + (if ([] : List Keyword).isEmpty then 0 else 1) < 30)) = true := by rfl)
    (hline : (apos.endLine == cpos.line) = true := by rfl) (hplain : (backTo cpos (starEach [] X.env)).any (·.1) = false := by rfl) : RE X Wx (.Call (.Attribute o "pop" apos) [e] [] cpos) (mM1 popAtF ma mb) :=
  re_m1 PySem.F.slot_list_pop PySem.F.type_list_pop mt_popAt s_popAt ho hb hs' hbase hfew hline hplain
theorem re_ext (ho : RE X Wx o ma) (hb : RE X Wx e mb) (hs' : starEach (e :: []) X.env = (false, eval e X.env) :: starEach [] X.env := by rfl) (hbase : attributeBase o "extend" X.env (eval o X.env) = eval o X.env := by rfl)
    (hfew : ((backTo cpos (starEach (e :: []) X.env)).all (fun x => !x.1) && (backToKw cpos (keywordEach [] X.env)).all (fun x => x.1.isSome)
      && decide ((e :: ([] : List Expr)).length + ([] : List Keyword).length + (if ([] : List Keyword).isEmpty then 0 else 1) < 30)) = true := by rfl)
    (hline : (apos.endLine == cpos.line) = true := by rfl) (hplain : (backTo cpos (starEach [] X.env)).any (·.1) = false := by rfl) : RE X Wx (.Call (.Attribute o "extend" apos) [e] [] cpos) (mM1 extF ma mb) :=
  re_m1 PySem.F.slot_list_extend PySem.F.type_list_extend mt_extend s_ext ho hb hs' hbase hfew hline hplain
end

/-! ### o[i] = v -/
def putW (kvs : List (Key × W)) (k : Key) (w : W) : List (Key × W) :=
  if (kvs.any fun kv => decide (kv.1 = k)) = true then kvs.map (fun kv => if kv.1 = k then (kv.1, w) else kv) else kvs ++ [(k, w)]
theorem RWf.put {K : PySem.W.Frag} {I : Hp} {μ : List Addr} {kvs : List (Key × W)} {kv : List (Key × V)} (r : RWf K I μ kvs kv) (k : Key) {w : W} {v : V} (rw' : RW K I μ w v) : RWf K I μ (putW kvs k w) (putK kv k v) := by
  have hany : ∀ {kvs : List (Key × W)} {kv : List (Key × V)}, RWf K I μ kvs kv → (kvs.any fun kv => decide (kv.1 = k)) = kv.any fun kv => decide (kv.1 = k) := by
    intro kvs kv r
    induction r with
    | nil => rfl
    | cons _ _ ih => simp [List.any_cons, ih]
  have hmap : ∀ {kvs : List (Key × W)} {kv : List (Key × V)}, RWf K I μ kvs kv → RWf K I μ (kvs.map fun kv => if kv.1 = k then (kv.1, w) else kv) (kv.map fun kv => if kv.1 = k then (kv.1, v) else kv) := by
    intro kvs kv r
    induction r with
    | nil => exact .nil
    | @cons k0 _ _ _ _ h t ih =>
      rw [List.map_cons, List.map_cons]
      dsimp only
      by_cases e : k0 = k
      · rw [if_pos e, if_pos e]; exact .cons rw' ih
      · rw [if_neg e, if_neg e]; exact .cons h ih
  have happ : ∀ {kvs : List (Key × W)} {kv : List (Key × V)}, RWf K I μ kvs kv → RWf K I μ (kvs ++ [(k, w)]) (kv ++ [(k, v)]) := by
    intro kvs kv r
    induction r with
    | nil => exact .cons rw' .nil
    | cons h t ih => exact .cons h ih
  unfold putW putK
  rw [hany r]
  split
  · exact hmap r
  · exact happ r
theorem RWf.length {κ : Type} {K : PySem.W.Frag} {I : Hp} {μ : List Addr} : ∀ {kvs : List (κ × W)} {kv : List (κ × V)}, RWf K I μ kvs kv → kvs.length = kv.length
  | _, _, .nil => rfl
  | _, _, .cons _ t => congrArg (· + 1) t.length
theorem RW.below {K : PySem.W.Frag} {I : Hp} {μ : List Addr} {w : W} {v : V} (r : RW K I μ w v) : w.below μ.length := by
  cases r with
  | d r => exact trivial
  | loc q => exact (List.getElem?_eq_some_iff.mp q).1
theorem RWf.bel {κ : Type} {K : PySem.W.Frag} {I : Hp} {μ : List Addr} : ∀ {kvs : List (κ × W)} {kv : List (κ × V)}, RWf K I μ kvs kv → ∀ y ∈ kvs, y.2.below μ.length
  | _, _, .cons r t, y, h => by
    rcases List.mem_cons.mp h with e | h
    · subst e; exact r.below
    · exact t.bel y h
/-- v, then o, then i: a dict -/
def sDPut (v o i : EM) : SM := fun env L => ofE (v env L) env fun w L1 => ofE (o env L1) env fun x L2 => ofE (i env L2) env fun y L3 => match x with
  | .loc n => match L3[n]? with
    | some (.dic kvs) => match (rd L3 y).bind keyOf with
      | some k => if kvs.length < sizeLine then .nx env (L3.set n (.dic (putW kvs k w))) else .bad
      | none => .bad
    | _ => .bad
  | _ => .bad
/-- .. a list -/
def sLPut (v o i : EM) : SM := fun env L => ofE (v env L) env fun w L1 => ofE (o env L1) env fun x L2 => ofE (i env L2) env fun y L3 => match x with
  | .loc n => match y with
      | .d (.int i) => match fzW L3 w with
          | some (z, L4) => match L4[n]? with
            | some (.lst ys) => match ixN ys.length i with
              | some j => .nx env (L4.set n (.lst (ys.set j z)))
              | none => .bad
            | _ => .bad
          | none => .bad
      | _ => .bad
  | _ => .bad
theorem _root_.L2.PS.or {X : Cx} {e : Stmt} {t t' : L2.TS} (h : PS X e t) (h' : PS X e t') : PS X e (fun D σ H => t D σ H ∨ t' D σ H) :=
  ⟨fun pins s σ H D I q => q.elim (h.run pins s σ H D I) (h'.run pins s σ H D I)⟩
theorem TG.stm' {α β : Type} {Rel : Hp → List Addr → α → β → Prop} {K : PySem.W.Frag} {X : WX} {m : Ev → LH → Res α} {k : α → LH → SR} {σ : L2.St} {H I : Hp} {μ : List Addr} {env : Ev} {L : LH} {D : Ends}
    (er : ER K I μ env σ) (hr : HR K I μ L H) (h : PostS K X I μ (ofE (m env L) env k) D) :
    TG Rel K X m σ H (fun v H1 => ∃ L1 I1 μ1 w, Ext I μ I1 μ1 ∧ ER K I1 μ1 env σ ∧ HR K I1 μ1 L1 H1 ∧ Rel I1 μ1 w v ∧ PostS K X I1 μ1 (k w L1) D ∧ m env L = .ok w L1) := by
  refine ⟨env, L, I, μ, er, hr, ?_⟩
  cases e : m env L with
  | ok w L1 =>
    rw [e] at h
    exact fun I1 μ1 v H1 e1 hr1 rw1 => ⟨L1, I1, μ1, w, e1, er.mono e1, hr1, rw1, PostS.ext h e1, rfl⟩
  | exc c th L1 => rw [e] at h; exact fun I1 μ1 H1 cls d e1 hr1 xr => h I1 μ1 σ H1 cls d e1 hr1 (er.mono e1) xr
  | bad => rw [e] at h; exact h
section
variable {X : Cx} {Wx : WX} {o i value : Expr} {pos pos' : Pos} {mv mo mi : EM}
theorem rs_dput (hu : X.A.units + 1 < cLine) (hv : RE X Wx value mv) (ho : RE X Wx o mo) (hi : RE X Wx i mi) (hs : swapsWith value (some (.Subscript o i pos')) pos.line X.env = pure false := by rfl)
    : RS X Wx (.Assign [.Subscript o i pos'] value pos) (sDPut mv mo mi) := by
  refine (ps_dput hu ho hi hv hs).imp fun D σ H ⟨env, L, I, μ, er, hr, h⟩ => ?_
  refine (TG.stm er hr h).imp fun v1 H1 ⟨L1, I1, μ1, w, e1, er1, hr1, r1, h1⟩ => ?_
  refine (TG.stm er1 hr1 h1).imp fun v2 H2 ⟨L2, I2, μ2, x, e2, er2, hr2, r2, h2⟩ => ?_
  refine (TG.stm er2 hr2 h2).imp fun v3 H3 ⟨L3, I3, μ3, y, e3, er3, hr3, r3, h3⟩ => ?_
  split at h3
  · rename_i n
    split at h3
    · rename_i kvs ex
      split at h3
      · rename_i k ek
        split at h3
        · rename_i hl
          cases ey : rd L3 y with
          | none => rw [ey] at ek; cases ek
          | some yy =>
            rw [ey, Option.bind_some] at ek
            cases r2 with | loc q =>
            have q3 := e3.at q
            obtain ⟨hi3, kv, hp, rk⟩ := hr3.obj _ _ _ q3 ex
            have rw3 := r1.mono (e2.trans e3)
            have rk2 := rk.put k rw3
            have hb := rk2.bel
            rw [hr3.len] at hb
            refine ⟨_, _, rfl, .inl ⟨kv, k, hp, key_V (hr3.rd r3 ey) ek, by rw [← rk.length]; exact hl, rfl⟩, ?_⟩
            exact h3 I3 μ3 σ _ (.refl _ _) (hr3.write (o := .dic (putW kvs k w)) (ho := .dK (putK kv k v1)) q3 hi3 hp (fun _ z => by cases z) ⟨hi3, _, upd_same, rk2⟩ hb) er3
        · exact h3.elim
      · exact h3.elim
    · exact h3.elim
  · exact h3.elim
theorem rs_lput (hv : RE X Wx value mv) (ho : RE X Wx o mo) (hi : RE X Wx i mi)
    (ha : ∀ v, assign (.Subscript o i pos') X.env v = (do
      let ov ← holding [v] (eval o X.env)
      let iv ← holding [v, ov] (eval i X.env)
      standAt pos'
      holding [v, ov, iv] (setItem ov iv v)
      release [v, ov, iv] []) := by intro _; rfl)
    (hs : swapsWithSole [.Subscript o i pos'] value pos.line X.env = pure false := by rfl) (hw : swappedStores [.Subscript o i pos'] value X.env = pure none := by rfl) (h1 : (assignEach [.Subscript o i pos'] X.env).map (·.2) = [assign (.Subscript o i pos') X.env] := by rfl)
    : RS X Wx (.Assign [.Subscript o i pos'] value pos) (sLPut mv mo mi) := by
  refine (ps_asg hv (pg_sub ho hi set_list ha) hs hw h1).imp fun D σ H ⟨env, L, I, μ, er, hr, h⟩ => ?_
  refine (TG.stm er hr h).imp fun v1 H1 ⟨L1, I1, μ1, w, e1, er1, hr1, r1, h1⟩ => ?_
  refine (TG.stm er1 hr1 h1).imp fun v2 H2 ⟨L2, I2, μ2, x, e2, er2, hr2, r2, h2⟩ => ?_
  refine (TG.stm er2 hr2 h2).imp fun v3 H3 ⟨L3, I3, μ3, y, e3, er3, hr3, r3, h3⟩ => ?_
  split at h3
  · rename_i n
    split at h3
    · rename_i ii
      split at h3
      · rename_i z L4 ez
        split at h3
        · rename_i ys ex
          split at h3
          · rename_i j ej
            cases r3 with | d r3 =>
            cases r3 with | int =>
            cases r2 with | loc q =>
            obtain ⟨I4, s4, hr4, r4⟩ := hr3.fzW (r1.mono (e2.trans e3)) ez
            obtain ⟨hi4, vs, hp, rp⟩ := hr4.obj _ _ _ (e3.at q) ex
            rw [rp.length] at ej
            refine ⟨_, vs, ii, j, rfl, rfl, hp, ej, ?_⟩
            exact h3 I4 μ3 σ _ (Ext.of μ3 s4) (hr4.write (o := .lst (ys.set j z)) (ho := .lst (vs.set j v1)) (e3.at q) hi4 hp (fun _ z => by cases z) ⟨hi4, _, upd_same, rp.set r4 j⟩ trivial) (er3.mono (Ext.of μ3 s4))
          · exact h3.elim
        · exact h3.elim
      · exact h3.elim
    · exact h3.elim
  · exact h3.elim
end
end MP
namespace MP
open PySem PySem.Spec PyProof.Rows L2
/-! ### instances -/
section
variable {K : PySem.W.Frag} {I H : Hp} {μ : List Addr} {L : LH}
theorem RWf.lookup : ∀ {fs : List (Str × W)} {fv : List (Str × V)} {k : Str} {x : W}, RWf K I μ fs fv → fs.lookup k = some x → ∃ v, fv.lookup k = some v ∧ RW K I μ x v
  | _, _, _, _, .nil, e => by simp at e
  | (k0, x0) :: r, (_, v0) :: r', k, x, .cons h t, e => by
    by_cases q : (k == k0) = true
    · rw [List.lookup_cons, q] at e
      cases e
      exact ⟨v0, by rw [List.lookup_cons, q], h⟩
    · rw [List.lookup_cons, Bool.eq_false_iff.mpr q] at e
      obtain ⟨v, h1, h2⟩ := RWf.lookup t e
      exact ⟨v, by rw [List.lookup_cons, Bool.eq_false_iff.mpr q]; exact h1, h2⟩
theorem RWf.lookupN : ∀ {fs : List (Str × W)} {fv : List (Str × V)} {k : Str}, RWf K I μ fs fv → fs.lookup k = none → fv.lookup k = none
  | _, _, _, .nil, e => rfl
  | (k0, x0) :: r, (_, v0) :: r', k, .cons h t, e => by
    by_cases q : (k == k0) = true
    · rw [List.lookup_cons, q] at e; cases e
    · rw [List.lookup_cons, Bool.eq_false_iff.mpr q] at e
      rw [List.lookup_cons, Bool.eq_false_iff.mpr q]
      exact RWf.lookupN t e
theorem RDf.rwf : ∀ {fs : List (Str × D)} {fv : List (Str × V)}, RDf K I fs fv → RWf K I μ (fs.map fun p => (p.1, W.d p.2)) fv
  | _, _, .nil => .nil
  | _, _, .cons h t => .cons (.d h) t.rwf
/-- an instance: its class and its fields -/
def insW (L : LH) : W → Option (Addr × List (Str × W))
  | .d (.ob C fs) => some (C, fs.map fun p => (p.1, W.d p.2))
  | .loc n => match L[n]? with
    | some (.ins C fs) => some (C, fs)
    | some (.frz (.ob C fs)) => some (C, fs.map fun p => (p.1, W.d p.2))
    | _ => none
  | _ => none
theorem HR.ins (hr : HR K I μ L H) {w : W} {v : V} {C : Addr} {fs : List (Str × W)} (r : RW K I μ w v) (h : insW L w = some (C, fs)) : ∃ a dx fv, v = .ref a ∧ H a = some (.ins C dx fv) ∧ RWf K I μ fs fv := by
  have ob : ∀ {C : Addr} {gs : List (Str × D)} {v : V}, RD K I (.ob C gs) v → ∃ a dx fv, v = .ref a ∧ H a = some (.ins C dx fv) ∧ RWf K I μ (gs.map fun p => (p.1, W.d p.2)) fv := fun r => by
    cases r with | ob h1 h2 h3 => exact ⟨_, _, _, rfl, hr.sub _ _ h1, h3.rwf⟩
  cases r with
  | @d x _ r =>
    unfold insW at h
    split at h
    · rename_i e
      cases e
      cases h
      exact ob r
    · rename_i e; cases e
    · cases h
  | @loc n p q =>
    unfold insW at h
    dsimp only at h
    split at h
    · rename_i ex
      cases h
      obtain ⟨_, dx, fv, h1, _, h2⟩ := hr.obj _ _ _ q ex
      exact ⟨p, dx, fv, rfl, h1, h2⟩
    · rename_i ex
      cases h
      exact ob (show RD K I _ (.ref p) from hr.obj _ _ _ q ex)
    · cases h
end
def mFld (C : Addr) (f : Str) (a : EM) : EM := fun env L => (a env L).bind fun x L1 => match insW L1 x with
  | some (C', fs) => if C' = C then (match fs.lookup f with | some w => .ok w L1 | none => .bad) else .bad
  | none => .bad
/-- o.f = v -/
def putA (f : Str) (v : W) : List (Str × W) → List (Str × W)
  | [] => [(f, v)]
  | (g, x) :: r => if g = f then (g, v) :: r else (g, x) :: putA f v r
theorem RWf.putA {K : PySem.W.Frag} {I : Hp} {μ : List Addr} {f : Str} {w : W} {v : V} (r : RW K I μ w v) : ∀ {fs : List (Str × W)} {fv : List (Str × V)}, RWf K I μ fs fv → RWf K I μ (MP.putA f w fs) (putF f v fv)
  | _, _, .nil => .cons r .nil
  | (g, x) :: _, (_, _) :: _, .cons h t => by
    unfold MP.putA putF
    split
    · exact .cons r t
    · exact .cons h (RWf.putA r t)
def sFld (C : Addr) (f : Str) (v o : EM) : SM := fun env L => ofE (v env L) env fun w L1 => ofE (o env L1) env fun x L2 => match x with
  | .loc n => match L2[n]? with
    | some (.ins C' fs) => if C' = C ∧ fs.length < 1000 then .nx env (L2.set n (.ins C (putA f w fs))) else .bad
    | _ => .bad
  | _ => .bad
section
variable {X : Cx} {Wx : WX} {o e value : Expr} {f : Str} {pos pos' : Pos} {C : Addr} {m mv : EM}
theorem re_fld (c : Cls X.K C) (n : NoAttr X.K C f) (he : RE X Wx e m) (hb : attributeBase e f X.env (eval e X.env) = eval e X.env := by rfl) : RE X Wx (.Attribute e f pos) (mFld C f m) := by
  refine (pe_fld he hb).imp fun σ H Q ⟨env, L, I, μ, er, hr, h⟩ => ?_
  refine (TG.seq er hr h).imp fun v1 H1 ⟨L1, I1, μ1, w1, e1, er1, hr1, r1, h1⟩ => ?_
  split at h1
  · rename_i C' fs ei
    split at h1
    · rename_i ec
      subst ec
      split at h1
      · rename_i w ew
        obtain ⟨a, dx, fv, rfl, hp, rf⟩ := hr1.ins r1 ei
        obtain ⟨v, g1, g2⟩ := rf.lookup ew
        exact ⟨a, _, dx, fv, v, rfl, hp, c, n, g1, TG.ret h1 hr1 g2⟩
      · exact h1.elim
    · exact h1.elim
  · exact h1.elim
theorem rs_fld (c : Cls X.K C) (n : NoAttr X.K C f) (hv : RE X Wx value mv) (ho : RE X Wx o m) (hs : swapsWith value (some (.Attribute o f pos')) pos.line X.env = pure false := by rfl) : RS X Wx (.Assign [.Attribute o f pos'] value pos) (sFld C f mv m) := by
  refine (ps_fld ho hv hs).imp fun D σ H ⟨env, L, I, μ, er, hr, h⟩ => ?_
  refine (TG.stm er hr h).imp fun v1 H1 ⟨L1, I1, μ1, w, e1, er1, hr1, r1, h1⟩ => ?_
  refine (TG.stm er1 hr1 h1).imp fun v2 H2 ⟨L2, I2, μ2, x, e2, er2, hr2, r2, h2⟩ => ?_
  split at h2
  · rename_i k
    split at h2
    · rename_i C' fs ei
      split at h2
      · rename_i cc
        obtain ⟨rfl, hl⟩ := cc
        cases r2 with | loc q =>
        obtain ⟨hi, dx, fv, hp, hd, rf⟩ := hr2.obj _ _ _ q ei
        have rf2 := rf.putA (f := f) (r1.mono e2)
        have hb := rf2.bel
        rw [hr2.len] at hb
        have ne : dx ≠ _ := fun z => by rw [z, hp] at hd; cases hd
        refine ⟨_, _, dx, fv, rfl, hp, c, n, by rw [← rf.length]; exact hl, ?_⟩
        exact h2 I2 μ2 σ _ (.refl _ _) (hr2.write (o := .ins _ (putA f w fs)) (ho := .ins _ dx (putF f v1 fv)) q hi hp (fun _ z => by cases z) ⟨hi, dx, _, upd_same, by rw [upd_ne ne]; exact hd, rf2⟩ hb) er2
      · exact h2.elim
    · exact h2.elim
  · exact h2.elim
end
section
variable {K : PySem.W.Frag} {I H : Hp} {μ : List Addr} {L : LH}
theorem HR.junk (hr : HR K I μ L H) {p : Addr} (o : HO) (hp : H p = none) : HR K I μ L (upd H p o) where
  sub := hr.sub.trans (same_upd hp)
  len := hr.len
  nd := hr.nd
  there := fun q hq => by
    obtain ⟨ob, h⟩ := hr.there q hq
    exact ⟨ob, same_upd hp _ _ h⟩
  obj := fun n q l h1 h2 => by
    obtain ⟨ob, hob⟩ := hr.there q (List.mem_of_getElem? h1)
    exact (hr.obj n q l h1 h2).mono (.refl _ _) (upd_ne (ne_of_none hob hp)) (fun _ z => z) fun dx z => same_upd hp _ _ z
  wf := hr.wf
end
/-- C(e, ..) -/
def mMake (C : Addr) (f : Fs) (a : AM) : EM := fun env L => (a env L).bind fun ws L1 => (f (.loc L1.length :: ws) (L1 ++ [.ins C []])).bind fun r L2 => match r with
  | .d .non => .ok (.loc L1.length) L2
  | _ => .bad
section
variable {X : Cx} {Wx : WX} {x : Str} {e : Expr} {es : List Expr} {C f : Addr} {fd : FuncData} {p0 : Str} {ps : List Str} {k : Nat} {m : Fs} {ms : AM} {p pos : Pos}
theorem re_make (tk : Takes X Wx) (M : Mk X.K C f) (F : Fx X.prog X.w X.K X.mg X.base k f fd (p0 :: ps) m) (hr : Rm (k + 1) X.A) (hg : Gl X x) (hm : X.mg x = some (.ref C)) (ha : RA X Wx (e :: es) ms) (hn : ms.len ps.length) (hdb : (x == ("__debug__" : Str)) = false := by decide)
    (he : starEach (e :: es) X.env = (false, eval e X.env) :: starEach es X.env := by rfl) (hpl : (backTo pos (starEach es X.env)).any (·.1) = false := by rfl) : RE X Wx (.Call (.Name x p) (e :: es) [] pos) (mMake C m ms) := by
  refine ⟨fun pins s σ H Q J ⟨env, L, I, μ, er, hR, h⟩ => wpAny_Call_Name_kw (ld_glob J hg hm ?_ hdb)⟩
  refine PySem.W.callWith_K (h₀ := X.base) J.ok.mod.kin M.kp (thn (ha.run pos pins s σ H _ J (TG.seq' er hR h)) fun us s1 ⟨vs, H1, J1, r, L1, I1, μ1, ws, e1, er1, hr1, r1, h1, q1⟩ => ⟨J1.kIn, ?_⟩) he hpl
  have n0 : H1 s1.heap.objs.size = none := J1.hok.fresh (Nat.le_refl _)
  have n1 : H1 (s1.heap.objs.size + 1) = none := J1.hok.fresh (Nat.le_succ _)
  have J2 := Inv.made (C := C) J1
  have ne : s1.heap.objs.size + 1 ≠ s1.heap.objs.size := Nat.succ_ne_self _
  have hr2 := (hr1.junk (.own (s1.heap.objs.size + 1)) n0).new (p := s1.heap.objs.size + 1) (o := .ins C []) (ho := .ins C s1.heap.objs.size []) (by rw [upd_ne ne]; exact n1)
    ⟨hr1.sub.free n1, s1.heap.objs.size, [], upd_same, by rw [upd_ne ne.symm]; exact upd_same, .nil⟩ (fun _ h => nomatch h)
  have eS : (μ1 ++ [s1.heap.objs.size + 1])[L1.length]? = some (s1.heap.objs.size + 1) := by rw [List.getElem?_append_right (by rw [hr1.len]; exact Nat.le_refl _), hr1.len, Nat.sub_self]; rfl
  have ext2 : Ext I1 μ1 I1 (μ1 ++ [s1.heap.objs.size + 1]) := ⟨Same.refl _, _, rfl⟩
  have rws : RWs X.K I1 (μ1 ++ [s1.heap.objs.size + 1]) (.loc L1.length :: ws) (V.ref (s1.heap.objs.size + 1) :: vs) := .cons (.loc eS) (r1.mono ext2)
  have hlen : (W.loc L1.length :: ws).length = (p0 :: ps).length := by simp [hn _ _ _ _ q1]
  have hl : (Value.ref (s1.heap.objs.size + 1) :: us).length = (p0 :: ps).length := by rw [← hlen]; simp [r1.length, r.length]
  refine wpAny_call (make_map (f := f) J1.kIn M.makes M.init (beq_iff_eq.mp M.fn) (codeAny_mono (F.ok.run _ X.stack _ _ ⟨Value.ref (s1.heap.objs.size + 1) :: us, []⟩ (Value.ref (s1.heap.objs.size + 1) :: us) (V.ref (s1.heap.objs.size + 1) :: vs) (fun v H2 => v = .non ∧ Q (.ref (s1.heap.objs.size + 1)) H2) (WE Wx σ) (hr.make C us [])
    (J2.env0.make C us []) (by have b := F.bd _ (Value.ref (s1.heap.objs.size + 1) :: us) J2.kIn; rw [List.append_nil] at b; exact b hl) (.cons rfl r) ⟨_, _, I1, _, hlen, rws, hr2, ?_⟩) fun o s' hq => ?_))
  · have h2 := (Post.ext h1 ext2).toE
    cases q : m (.loc L1.length :: ws) (L1 ++ [.ins C []]) with
    | ok w L2 =>
      rw [q] at h2
      dsimp only [Res.bind] at h2
      split at h2
      · intro I3 μ3 v H3 e3 hr3 rv
        cases rv with | d rv =>
        cases rv with | non =>
        exact ⟨rfl, h2 I3 μ3 _ H3 e3 hr3 (.loc (e3.at eS))⟩
      · exact h2.elim
    | exc c th L2 => rw [q] at h2; exact h2
    | bad => rw [q] at h2; exact h2.elim
  · match o, hq with
    | .error ee, hq => exact passAt tk σ pins _ _ ee s' J2 hq
    | .ok (.ret u), hq =>
      obtain ⟨v, H3, J3, rv, ev, q3⟩ := J2.after hq
      subst ev
      exact ⟨rv, ⟨V.ref (s1.heap.objs.size + 1), H3, J3, rfl, q3⟩⟩
end

/-! ### methods -/
def mMeth (C : Addr) (nm : Str) (f : Fs) (a : EM) (as : AM) : EM := fun env L => (a env L).bind fun x L1 => match insW L1 x with
  | some (C', fs) => if C' = C ∧ fs.lookup nm = none then (as env L1).bind fun ws L2 => f (x :: ws) L2 else .bad
  | none => .bad
section
variable {X : Cx} {Wx : WX} {nm : Str} {o e : Expr} {es : List Expr} {C f : Addr} {fd : FuncData} {p0 : Str} {ps : List Str} {k : Nat} {m : Fs} {mo : EM} {ms : AM} {apos pos : Pos}
theorem re_meth {pl : Sem Bool} (tk : Takes X Wx) (c : Cls X.K C) (hm : Meth X.K C nm f) (F : Fx X.prog X.w X.K X.mg X.base k f fd (p0 :: ps) m) (hr : Rm k X.A) (ho : RE X Wx o mo) (ha : RA X Wx (e :: es) ms) (hn : ms.len ps.length)
    (hst : starEach (e :: es) X.env = (false, eval e X.env) :: starEach es X.env := by rfl) (hpl : (backTo pos (starEach es X.env)).any (·.1) = false := by rfl)
    (ht : eval (.Call (.Attribute o nm apos) (e :: es) [] pos) X.env = (do
      let ov ← eval o X.env
      standAt apos.atName
      let (f, first) ← holding [ov] (getMethod ov nm pl)
      callWith pos f first (backTo pos (starEach (e :: es) X.env)) (backToKw pos (keywordEach [] X.env))) := by rfl) : RE X Wx (.Call (.Attribute o nm apos) (e :: es) [] pos) (mMeth C nm m mo ms) := by
  refine ⟨fun pins s σ H Q J ⟨env, L, I, μ, er, hR, h⟩ => PySem.W.methodCall_KW (pl := pl) (thn (ho.run pins s σ H _ J (TG.seq er hR h)) fun u s1 ⟨v, H1, J1, rv, L1, I1, μ1, w, e1, er1, hr1, r1, h1⟩ => ?_) ht⟩
  split at h1
  · rename_i C' fs ei
    split at h1
    · rename_i cc
      obtain ⟨rfl, hl⟩ := cc
      obtain ⟨a, dx, fv, rfl, hp, rf⟩ := hr1.ins r1 ei
      obtain rfl : u = Value.ref a := rv
      refine getmeth_ok J1 hp c hm (rf.lookupN hl) ?_
      refine PySem.W.callWith_K (first := [.ref a]) (h₀ := X.base) J.ok.mod.kin hm.kp (thn (ha.run pos pins s1 σ H1 _ J1 (TG.seq' er1 hr1 h1)) fun us s2 ⟨vs, H2, J2, rs, L2, I2, μ2, ws, e2, er2, hr2, r2, h2, q2⟩ => ⟨J2.kIn, ?_⟩) hst hpl
      have hlen : (w :: ws).length = (p0 :: ps).length := by simp [hn _ _ _ _ q2]
      refine wpAny_call (codeAny_mono (run_g (us := .ref a :: us) (vs := .ref a :: vs) tk F.ok hr J2 (by have b := F.bd s2 (.ref a :: us) J2.kIn; rw [List.append_nil] at b; exact b (by rw [← hlen]; simp [r2.length, rs.length])) (.cons rfl rs) ⟨_, L2, I2, μ2, hlen, .cons (r1.mono e2) r2, hr2, h2.toE⟩) fun o s' hq => ?_)
      match o, hq with
      | .ok (.ret u), q => exact q
      | .error e, q => exact q
    · exact h1.elim
  · exact h1.elim
theorem re_meth0 {pl : Sem Bool} (tk : Takes X Wx) (c : Cls X.K C) (hm : Meth X.K C nm f) (F : Fx X.prog X.w X.K X.mg X.base k f fd [p0] m) (hr : Rm k X.A) (ho : RE X Wx o mo)
    (ht : eval (.Call (.Attribute o nm apos) [] [] pos) X.env = (do
      let ov ← eval o X.env
      standAt apos.atName
      let (f, first) ← holding [ov] (getMethod ov nm pl)
      callWith pos f first (backTo pos (starEach [] X.env)) (backToKw pos (keywordEach [] X.env))) := by rfl) : RE X Wx (.Call (.Attribute o nm apos) [] [] pos) (mMeth C nm m mo aNil) := by
  refine ⟨fun pins s σ H Q J ⟨env, L, I, μ, er, hR, h⟩ => PySem.W.methodCall_KW (pl := pl) (thn (ho.run pins s σ H _ J (TG.seq er hR h)) fun u s1 ⟨v, H1, J1, rv, L1, I1, μ1, w, e1, er1, hr1, r1, h1⟩ => ?_) ht⟩
  split at h1
  · rename_i C' fs ei
    split at h1
    · rename_i cc
      obtain ⟨rfl, hl⟩ := cc
      obtain ⟨a, dx, fv, rfl, hp, rf⟩ := hr1.ins r1 ei
      obtain rfl : u = Value.ref a := rv
      refine getmeth_ok J1 hp c hm (rf.lookupN hl) ?_
      refine PySem.W.callWith_K0 (first := [.ref a]) J1.kIn hm.kp ?_
      refine wpAny_call (codeAny_mono (run_g (us := [.ref a]) (vs := [.ref a]) tk F.ok hr J1 (by have b := F.bd s1 [.ref a] J1.kIn; rw [List.append_nil] at b; exact b rfl) (.cons rfl .nil) ⟨_, L1, I1, μ1, rfl, .cons r1 .nil, hr1, h1.toE⟩) fun o s' hq => ?_)
      match o, hq with
      | .ok (.ret u), q => exact q
      | .error e, q => exact q
    · exact h1.elim
  · exact h1.elim
end

/-! ### dict displays -/
/-- {"a": e, ..}, as a dict that may change -/
def mDicM (ks : List Key) (a : AM) : EM := fun env L => (a env (L ++ [.dic []])).bind fun ws L1 => match L1[L.length]? with
  | some (.dic []) => if ws.length = ks.length then .ok (.loc L.length) (L1.set L.length (.dic (ks.zip ws))) else .bad
  | _ => .bad
/-- .. as one that never changes -/
def mFrz (a : EM) : EM := fun env L => (a env L).bind fun w L1 => match fzW L1 w with
  | some (x, L2) => .ok (.d x) L2
  | none => .bad
structure RPs (X : Cx) (Wx : WX) (pos : Pos) (keys : List (Option Expr)) (values : List Expr) (ks : List Key) (a : AM) : Prop where
  ok : ∃ trs, PPs X pos keys values trs ∧ ∀ σ H Q, TA X.K Wx a σ H (fun vs H' => vs.length = ks.length → Q ((ks.map kV).zip vs) H') → tPairs trs σ H Q
  len : a.len ks.length
section
variable {X : Cx} {Wx : WX} {pos : Pos} {keys : List (Option Expr)} {values : List Expr} {ks : List Key} {as : AM} {e : Expr} {m : EM}
theorem rps_nil : RPs X Wx pos [] [] [] aNil := ⟨⟨[], pps_nil, fun σ H Q ⟨env, L, I, μ, er, hr, h⟩ => TG.ret h hr .nil rfl⟩, len_nil⟩
theorem rps_cons {k : Expr} {key : Key} (hk : PE X k (tC (kV key))) (he : RE X Wx e m) (h : RPs X Wx pos keys values ks as) : RPs X Wx pos (some k :: keys) (e :: values) (key :: ks) (aCons m as) := by
  obtain ⟨⟨trs, hp, ht⟩, hl⟩ := h
  refine ⟨⟨_, pps_cons hk he hp, fun σ H Q ⟨env, L, I, μ, er, hr, h⟩ => ?_⟩, len_cons hl⟩
  refine (TG.seq er hr h).imp fun v H1 ⟨L1, I1, μ1, w1, e1, er1, hr1, r1, h1⟩ => ?_
  refine ht σ H1 _ ((TG.seq er1 hr1 h1).imp fun vs H2 ⟨L2, I2, μ2, w2, e2, er2, hr2, r2, h2⟩ => fun hlen => ?_)
  exact TG.ret h2 hr2 (.cons (r1.mono e2) r2) (by simp [hlen])
theorem rps_str {x : Str} {j pos'} (he : RE X Wx e m) (h : RPs X Wx pos keys values ks as) : RPs X Wx pos (some (.Constant (.str x) j pos') :: keys) (e :: values) (.inr x :: ks) (aCons m as) := rps_cons (pe_str (x := x)) he h
theorem rps_int {x : Int} {j pos'} (he : RE X Wx e m) (h : RPs X Wx pos keys values ks as) : RPs X Wx pos (some (.Constant (.int x) j pos') :: keys) (e :: values) (.inl x :: ks) (aCons m as) := rps_cons (pe_int (i := x)) he h
theorem merge_new : ∀ (more kvs : List (Key × V)), ((kvs ++ more).map (·.1)).Nodup → mergeK kvs more = kvs ++ more
  | [], kvs, _ => by simp [mergeK]
  | (k, v) :: r, kvs, h => by
    have hn : valV kvs k = none := by
      have : ∀ kvs : List (Key × V), k ∉ kvs.map (·.1) → valV kvs k = none := by
        intro kvs
        induction kvs with
        | nil => intro _; rfl
        | cons p t ih =>
          intro hk
          rw [List.map_cons, List.mem_cons, not_or] at hk
          rw [valV_neg (fun z => hk.1 z.symm)]
          exact ih hk.2
      apply this
      rw [List.map_append, List.nodup_append] at h
      intro hk
      exact h.2.2 _ hk _ (by simp) rfl
    show mergeK (putK kvs k v) r = _
    rw [putK_new v hn, merge_new r (kvs ++ [(k, v)]) (by simpa using h)]
    simp
theorem re_dicM (h : RPs X Wx pos keys values ks as) (hnd : ks.Nodup) (h15 : ks.length ≤ 15) (hall : keys.all (·.isSome) = true) (hl : keys.length = values.length) (h0 : keys ≠ []) (hk15 : keys.length ≤ 15) : RE X Wx (.Dict keys values pos) (mDicM ks as) := by
  obtain ⟨⟨trs, hp, ht⟩, hlen⟩ := h
  refine (pe_disp hp hall hl h0 hk15).imp fun σ H Q ⟨env, L, I, μ, er, hr, h⟩ => fun p hp => ?_
  have hr1 : HR X.K I (μ ++ [p]) (L ++ [.dic []]) (upd H p (.dK [])) := hr.new (o := .dic []) (ho := .dK []) hp ⟨hr.sub.free hp, [], upd_same, .nil⟩ fun _ h => nomatch h
  have ext1 : Ext I μ I (μ ++ [p]) := ⟨Same.refl _, [p], rfl⟩
  have eD : (μ ++ [p])[L.length]? = some p := by rw [List.getElem?_append_right (by rw [hr.len]; exact Nat.le_refl _), hr.len, Nat.sub_self]; rfl
  refine ht _ _ _ ((TG.seq (er.mono ext1) hr1 (Post.ext h ext1)).imp fun vs H2 ⟨L2, I2, μ2, ws, e2, er2, hr2, r2, h2⟩ => fun hvl => ?_)
  split at h2
  · rename_i ex
    split at h2
    · rename_i hws
      obtain ⟨hi, kv, hpp, rk⟩ := hr2.obj _ _ _ (e2.at eD) ex
      cases rk
      have rz : ∀ {ks : List Key} {ws : List W} {vs : List V}, RWs X.K I2 μ2 ws vs → RWf X.K I2 μ2 (ks.zip ws) (ks.zip vs) := by
        intro ks
        induction ks with
        | nil => intro _ _ _; exact .nil
        | cons k ks ih =>
          intro ws vs r
          cases r with
          | nil => exact .nil
          | cons a b => exact .cons a (ih b)
      have rz' := rz (ks := ks) r2
      have hb := rz'.bel
      rw [hr2.len] at hb
      have hzl : (ks.zip vs).length = ks.length := by rw [List.length_zip, hvl, Nat.min_self]
      refine ⟨hpp, ks.zip vs, ?_, by rw [hzl]; exact h15, ?_⟩
      · have zm : ∀ (ks : List Key) (vs : List V), (ks.map kV).zip vs = (ks.zip vs).map fun kv => (kV kv.1, kv.2) := by
          intro ks
          induction ks with
          | nil => intro _; rfl
          | cons k ks ih =>
            intro vs
            cases vs with
            | nil => rfl
            | cons v vs => simp [ih]
        exact zm ks vs
      · rw [merge_new (ks.zip vs) [] (by
          rw [List.nil_append, ← List.unzip_fst, List.unzip_zip_left (by omega)]
          exact hnd), List.nil_append]
        exact h2 I2 μ2 _ _ (.refl _ _) (hr2.write (o := .dic (ks.zip ws)) (ho := .dK (ks.zip vs)) (e2.at eD) hi hpp (fun _ z => by cases z) ⟨hi, _, upd_same, rz'⟩ hb) (.loc (e2.at eD))
    · exact h2.elim
  · exact h2.elim
theorem re_dic0 : RE X Wx (.Dict [] [] pos) (mDicM [] aNil) := by
  refine pe_dnewK.imp fun σ H Q ⟨env, L, I, μ, er, hr, h⟩ => fun p hp => ?_
  have hr1 : HR X.K I (μ ++ [p]) (L ++ [.dic []]) (upd H p (.dK [])) := hr.new (o := .dic []) (ho := .dK []) hp ⟨hr.sub.free hp, [], upd_same, .nil⟩ fun _ h => nomatch h
  have eD : (μ ++ [p])[L.length]? = some p := by rw [List.getElem?_append_right (by rw [hr.len]; exact Nat.le_refl _), hr.len, Nat.sub_self]; rfl
  have e1 : mDicM [] aNil env L = .ok (.loc L.length) (L ++ [.dic []]) := by
    simp [mDicM, aNil, Res.bind]
  rw [e1] at h
  exact h I (μ ++ [p]) _ _ ⟨Same.refl _, [p], rfl⟩ hr1 (.loc eD)
/-- what a mutable expression comes to, frozen: any rule for it will do -/
theorem re_frz (h : RE X Wx e m) : RE X Wx e (mFrz m) := by
  refine h.imp fun σ H Q ⟨env, L, I, μ, er, hr, h⟩ => ?_
  refine (TG.seq er hr h).imp fun v1 H1 ⟨L1, I1, μ1, w1, e1, er1, hr1, r1, h1⟩ => ?_
  split at h1
  · rename_i x L2 ef
    obtain ⟨I2, s2, hr2, r2⟩ := hr1.fzW r1 ef
    exact h1 I2 μ1 _ _ (Ext.of μ1 s2) hr2 (.d r2)
  · exact h1.elim
end
end MP
namespace MP
open PySem PySem.Spec PyProof.Rows L2
open Sem (wp)
/-! ### enumerate of a tuple -/
section
open AutoSeq1 (wpAny_loadPart')
theorem meets_enumT (l : Addr) (items : Array Value) (n : Nat) (dct : Option Addr) (sl : Array (Option Value)) :
    Meets (Builtin.«enumerate.__new__» ⟨[.type "enumerate", .ref l], []⟩) (fun _ R s => s.heap.get? l = some { cls := .type "tuple", dict := dct, data := .seq items n, slots := sl } ∧
      R (.ok (.ret (.ref (s.heap.push { cls := .type "tuple_iterator", data := .fields #[.ref l, .int 0 0] }).objs.size)))
        { s with heap := (s.heap.push { cls := .type "tuple_iterator", data := .fields #[.ref l, .int 0 0] }).push { cls := .type "enumerate", data := .fields #[.none, .bool false, .ref s.heap.objs.size, rawInt 0, .none, .none] } }) :=
  .of_wp fun prog w A R s h => by
    obtain ⟨hp, g, d, tk, os⟩ := s
    obtain ⟨hl, h⟩ := h
    have hsub := sub_enumerate
    have hL : Heap.IsTuple (Shared.heap ⟨hp, g, d, tk, os⟩) l items := ⟨_, hl, rfl, n, rfl⟩
    wp_walk using wpAny_loadPart' hl
    refine wpAny_stack_any fun st => wpAny_pure ?_
    split
    · rename_i c _ _ _ _ _
      cases (c == Value.type "enumerate")
      · wp_walk using wpAny_loadPart' hl, wpAny_pyIter_tuple hL
        exact ⟨_, rfl, h⟩
      · wp_walk using wpAny_loadPart' hl, wpAny_pyIter_tuple hL
        exact ⟨_, rfl, h⟩
    · wp_walk using wpAny_loadPart' hl, wpAny_pyIter_tuple hL
      exact ⟨_, rfl, h⟩
end
theorem call_enumT {prog : Program} {w : World} {A : Around} {E : Value → Shared → Prop} {s : Shared} {l : Addr} {items : Array Value} {Q : Value → Shared → Prop} (hL : s.heap.IsTuple l items)
    (h : ∀ h', IsEnum h' (s.heap.objs.size + 1) s.heap.objs.size 0 .none → h'.IsTupleIter s.heap.objs.size l 0 → (∀ b o, s.heap.get? b = some o → h'.get? b = some o) → Q (.ref (s.heap.objs.size + 1)) { s with heap := h' }) :
    wpAny (model prog w) A (call (.type "enumerate") [.ref l]) Q E s := by
  obtain ⟨⟨c, dct, dt, sl⟩, hl, hc, n, hd⟩ := hL
  replace hc : c = .type "tuple" := hc
  replace hd : dt = .seq items n := hd
  subst hc hd
  refine callType_new F.called_enumerate (by decide) (F.typeCall_enumerate_1 _) (F.newCall_enumerate_1 _) (fun obj => F.args_object_init_2 obj _) F.entry_enumerate_new (meets_enumT l items n dct sl) ⟨hl, ?_⟩
  have hz : (s.heap.push { cls := .type "tuple_iterator", data := .fields #[.ref l, .int 0 0] }).objs.size = s.heap.objs.size + 1 := Heap.size_push ..
  show _ ∧ _
  rw [hz]
  have he : IsEnum ((s.heap.push { cls := .type "tuple_iterator", data := .fields #[.ref l, .int 0 0] }).push
      { cls := .type "enumerate", data := .fields #[.none, .bool false, .ref s.heap.objs.size, rawInt 0, .none, .none] }) (s.heap.objs.size + 1) s.heap.objs.size 0 .none := by
    have q := Heap.get?_push_size (s.heap.push { cls := .type "tuple_iterator", data := .fields #[.ref l, .int 0 0] })
      (o := { cls := .type "enumerate", data := .fields #[.none, .bool false, .ref s.heap.objs.size, rawInt 0, .none, .none] }) rfl
    rw [hz] at q
    exact q
  exact ⟨⟨_, he, rfl⟩, h _ he ⟨_, Heap.get?_push_of_some _ (Heap.get?_push_size _ rfl), rfl, rfl⟩ fun b o x => Heap.get?_push_of_some _ (Heap.get?_push_of_some _ x)⟩
theorem next_enumT_end {prog : Program} {w : World} {A : Around} {E : Value → Shared → Prop} {s : Shared} {e it l : Addr} {i : Nat} {items : Array Value} {old : Value} {Q : Option Value → Shared → Prop} (hh : A.handled = none)
    (he : IsEnum s.heap e it i old) (hit : s.heap.IsTupleIter it l i) (hl : s.heap.IsTuple l items) (hx : items[i]? = none) (hQ : ∀ h', Heap.ExtBut it s.heap h' → Q none { s with heap := h' }) : wpAny (model prog w) A (pyNext (.ref e)) Q E s := by
  have hT : s.TypeIs (.ref e) "enumerate" := ⟨_, he, rfl⟩
  unfold pyNext
  refine wpAny_bind (wpAny_attempt (wpAny_callSpecial?_slot (name := Str.ofString "__next__") hT F.slot_enumerate_next (wpAny_call_entry F.slot_enumerate_next hT F.entry_enumerate_next ?_ (F.args_enumerate_next_1 _))))
  show wpAny _ _ (field (.ref e) 2 >>= _) _ _ _
  refine wpAny_bind (wpAny_field he rfl (x := .ref it) rfl (wpAny_bind (RZ.nextOf_tuple_end hh hit hl hx fun h' x he' ⟨o, ho, hc⟩ => ?_)))
  exact wpAny_bind (wpAny_isInstance (T := "StopIteration") (b := true) ⟨o, ho, hc⟩ isSubtype_stop (wpAny_pure (hQ _ he')))
def IteT (K : PySem.W.Frag) (a : Addr) : It :=
  ⟨fun i H => ∃ (xs : List V) (x : V), SqT K H a xs ∧ xs[i]? = some x, fun i H v H' => ∃ T x, v = .ref T ∧ H T = none ∧ H' = upd H T (.tup [.int (i : Nat), x]) ∧ ∀ xs, SqT K H a xs → xs[i]? = some x, fun i H => ∃ xs : List V, SqT K H a xs ∧ xs.length ≤ i⟩
theorem turn_enumT {P : Program} {w : World} {K : PySem.W.Frag} {elts : List Expr} {kk : Nat} {tpos : Pos} (a e it : Addr) :
    Turn P w K (.Tuple elts kk tpos) (IteT K a) [e, it] e (fun i h => (∃ old, IsEnum h e it ((i : Nat) : Int) old) ∧ h.IsTupleIter it a i ∧ e ≠ it) where
  mem := by simp
  obj := fun i h st b hb => by
    obtain ⟨⟨old, he⟩, ⟨o, ho, hc, hd⟩, _⟩ := st
    rcases (by simpa using hb : b = e ∨ b = it) with rfl | rfl
    · exact ⟨_, he, fun v q => nomatch q⟩
    · exact ⟨o, ho, fun v q => by rw [hd] at q; cases q⟩
  keep := fun i h h' st k => let ⟨⟨old, he⟩, hi, hne⟩ := st; ⟨⟨old, k e (by simp) _ he⟩, hi.at fun o q => k it (by simp) o q, hne⟩
  item := by
    intro X hP hw hK hc i pins s σ H E I hf st hg
    subst hP hw hK
    obtain ⟨⟨old, he⟩, hit, hne⟩ := st
    obtain ⟨xs, x, hq, hx⟩ := hg
    obtain ⟨its, rv, p, hz⟩ := I.tuple hq
    obtain ⟨u, hu, ru⟩ := rv.get hx
    have hel : e < s.heap.objs.size := Heap.lt_size he
    have hil : it < s.heap.objs.size := by obtain ⟨_, q, _⟩ := hit; exact Heap.lt_size q
    have pt : s.heap.IsTuple a its.toArray := p
    have nit : a ≠ it := fun z => by
      obtain ⟨o1, q1, c1, _⟩ := hit
      obtain ⟨o2, q2, c2, _⟩ := p
      rw [z, q1] at q2; cases q2; rw [c1] at c2; exact absurd c2 (by decide)
    have nie : e ≠ a := fun z => by
      obtain ⟨o2, q2, c2, _⟩ := p
      rw [← z, he] at q2; cases q2; injection c2 with c2; exact absurd c2 (by decide)
    have hiu : i < its.toArray.size := by
      have := (List.getElem?_eq_some_iff.mp hu).1
      simpa using this
    refine wpAny_pyNext_enum_itemD (Draws.tuple (A := X.A.in1) (I.ok.hd hc) it a nit its.toArray) he ⟨hit, pt⟩ hiu hne (by simp [hne, nie]) fun u' h' tk hP ho hst hT hsz hk => ?_
    have eu : u' = u := by
      have h1 : its.toArray[i]? = some u := by simpa using hu
      rw [h1] at hP; exact (Option.some.inj hP).symm
    subst eu
    refine ⟨_, rfl, wpAny_letOwnedTupleGo_enum (s := { s with heap := h', toks := tk + 1 }) ho fun h'' he' sb => ?_⟩
    have hT2 : h''.get? s.heap.objs.size = some { cls := .type "tuple", data := .seq #[.int i tk, u'] } := (sb.2 _ (Nat.ne_of_gt hel)).trans hT
    have new : ObjOk X.prog X.w (upd H s.heap.objs.size (.tup [.int (i : Nat), x])) h'' s.heap.objs.size (.tup [.int (i : Nat), x]) :=
      ⟨by show 2 ≤ sizeLine; decide, [.int i tk, u'], .cons ⟨_, rfl⟩ (.cons ru .nil), ⟨_, hT2, rfl, _, rfl⟩⟩
    have I1 : Inv X pins σ (upd H s.heap.objs.size (.tup [.int (i : Nat), x])) { s with heap := h'', toks := tk + 1 } :=
      I.turnedNew (ch := [e, it]) (fun b ob hb q => (sb.2 b (fun z => hb (by simp [z]))).trans (hk b ob (fun z => hb (by simp [z])) (fun z => hb (by simp [z])) q)) hf (Nat.le_refl _) new
    refine ⟨.ref s.heap.objs.size, _, I1, rfl, ⟨_, x, rfl, I.hok.fresh (Nat.le_refl _), rfl, fun ys hy => by rw [I.tuple_inj hy hq]; exact hx⟩, ⟨⟨u', ?_⟩, hst.1.at fun o q => (sb.2 it (Ne.symm hne)).trans q, hne⟩, fun b hb => ?_⟩
    · have e1 : ((i + 1 : Nat) : Int) = (i : Int) + 1 := by omega
      rw [e1]; exact he'
    · have hb' : b < s.heap.objs.size := by
        rcases (by simpa using hb : b = e ∨ b = it) with rfl | rfl
        · exact hel
        · exact hil
      rw [upd_ne (Nat.ne_of_lt hb')]
      exact (hf b hb).1
  done := by
    intro X hP hw hK hc i pins s σ H E I hf st hg
    subst hP hw hK
    obtain ⟨⟨old, he⟩, hit, hne⟩ := st
    obtain ⟨xs, hq, hx⟩ := hg
    obtain ⟨its, rv, p, hz⟩ := I.tuple hq
    have pt : s.heap.IsTuple a its.toArray := p
    have nit : a ≠ it := fun z => by
      obtain ⟨o1, q1, c1, _⟩ := hit
      obtain ⟨o2, q2, c2, _⟩ := p
      rw [z, q1] at q2; cases q2; rw [c1] at c2; exact absurd c2 (by decide)
    obtain ⟨f0, f1, f2, f3, f4, f5⟩ := hf it (by simp)
    have hl := rv.length
    refine next_enumT_end (I.ok.hd hc) he hit pt (by simp; omega) fun h' eb => ⟨rfl, I.turned (t' := s.toks) (fun b o hb q => eb b o hb q) f0 f1 f3 f4 f5⟩
  self := fun A i s Q E st h => let ⟨⟨_, he⟩, _⟩ := st; wpAny_pyIter_enum he h
def enumD : Nat → List D → List D
  | _, [] => []
  | k, x :: r => .tup [.int (k : Nat), x] :: enumD (k + 1) r
theorem enumD_get : ∀ (xs : List D) (k i : Nat), (enumD k xs)[i]? = xs[i]?.map fun x => .tup [.int ((k + i : Nat) : Int), x]
  | [], k, i => by simp [enumD]
  | x :: r, k, 0 => by simp [enumD]
  | x :: r, k, i + 1 => by
    show (enumD (k + 1) r)[i]? = _
    rw [enumD_get r (k + 1) i]
    simp only [List.getElem?_cons_succ]
    congr 1
    funext x
    congr 4
    omega
theorem enumD_len : ∀ (xs : List D) (k : Nat), (enumD k xs).length = xs.length
  | [], _ => rfl
  | _ :: r, k => congrArg (· + 1) (enumD_len r (k + 1))
def enIts (w : W) : D → Option Its
  | .lst xs => some ⟨enumD 0 xs, fun L => MP.rd L w = some (.lst xs)⟩
  | .tup xs => some ⟨enumD 0 xs, fun L => MP.rd L w = some (.tup xs)⟩
  | _ => none
def iEnum (a : EM) : IM := fun env L => (a env L).bind fun w L1 => match (MP.rd L1 w).bind (enIts w) with
  | some its => .ok its L1
  | none => .bad
theorem pair_rd {K : PySem.W.Frag} {I H : Hp} {μ : List Addr} {L : LH} (hr : HR K I μ L H) {T : Addr} (hT : H T = none) {x y : D} {v u : V} (rx : RD K I x v) (ry : RD K I y u) :
    ∃ I'', Same I I'' ∧ HR K I'' μ L (upd H T (.tup [v, u])) ∧ RD K I'' (.tup [x, y]) (.ref T) :=
  have s := same_upd (o := HO.tup [v, u]) (hr.sub.free hT)
  ⟨_, s, hr.step _ hT, .tup (.of upd_same) (.cons (rx.mono s) (.cons (ry.mono s) .nil))⟩
section
variable {X : Cx} {Wx : WX} {e e2 e3 : Expr} {m m2 m3 : EM} {pos p tpos : Pos} {elts : List Expr} {kk : Nat}
theorem pi_enumT {ta : L2.TA} (hg : Gl X "enumerate") (hm : X.mg "enumerate" = none) (ha : PA X [e] ta) (hs : starEach [e] X.env = [(false, eval e X.env)] := by rfl) :
    PI X (.Tuple elts kk tpos) (.Call (.Name "enumerate" p) [e] [] pos) (fun σ H R => ta σ H fun vs H1 => ∃ a xs, vs = [.ref a] ∧ SqT X.K H1 a xs ∧ R (IteT X.K a) H1) := by
  refine ⟨fun pins s σ H R I h => ?_⟩
  refine Call_ (ld_blt I hg hm boot_enumerate (PyProof.Rows.callWith_type1 (thn (ha.run pos pins s σ H _ I h) fun us s1 ⟨vs, H1, I1, r1, a, xs, ex, hq, q⟩ => ?_) hs rfl))
  subst ex
  cases r1 with | cons r rr =>
  cases rr
  cases r
  obtain ⟨its, rv, p', hz⟩ := I1.tuple hq
  have pt : s1.heap.IsTuple a its.toArray := p'
  refine call_enumT pt fun h' he hit hk => wpAny_pyIter_enum he ?_
  have I2 : Inv X pins σ H1 { s1 with heap := h' } := I1.kept (t' := s1.toks) hk
  refine ⟨s1.heap.objs.size + 1, [s1.heap.objs.size + 1, s1.heap.objs.size], _, _, H1, rfl, I2, turn_enumT a (s1.heap.objs.size + 1) s1.heap.objs.size, ⟨⟨.none, he⟩, hit, Nat.succ_ne_self _⟩, fun b hb => ?_, q⟩
  have hle : s1.heap.objs.size ≤ b := by
    rcases (by simpa using hb : b = s1.heap.objs.size + 1 ∨ b = s1.heap.objs.size) with rfl | rfl
    · exact Nat.le_add_right _ _
    · exact Nat.le_refl _
  exact I1.fpOk hle (I1.hok.fresh hle)
theorem ri_enum (hg : Gl X "enumerate") (hm : X.mg "enumerate" = none) (he : RE X Wx e m) (h1 : starEach (e :: []) X.env = (false, eval e X.env) :: starEach [] X.env := by rfl) (hs : starEach [e] X.env = [(false, eval e X.env)] := by rfl) :
    RI X Wx (.Tuple elts kk tpos) (.Call (.Name "enumerate" p) [e] [] pos) (iEnum m) := by
  refine ((pi_enum hg hm (pa_cons he pa_nil h1) hs).or (pi_enumT hg hm (pa_cons he pa_nil h1) hs)).imp fun σ H Q ⟨env, L, I, μ, er, hr, h⟩ => ?_
  by_cases hd : ∃ w L1, m env L = .ok w L1 ∧ isTupW L1 w = true
  · right
    obtain ⟨w, L1, ea, ht⟩ := hd
    refine (TG.seq' er hr h).imp fun v1 H1 ⟨L1', I1, μ1, w1, e1, er1, hr1, r1, h1, q1⟩ => ?_
    rw [ea] at q1; cases q1
    unfold isTupW at ht
    split at ht
    · rename_i xs ex
      rw [ex, Option.bind_some] at h1
      simp only [enIts] at h1
      cases (hr1.rd r1 ex : RD _ _ _ _) with | tup hp rp =>
      refine ⟨_, _, rfl, sqT_mono hr1.sub hp, h1 I1 μ1 _ H1 (.refl _ _) hr1 fun i I' μ' L' H' e' hr' hs' => ?_⟩
      have rp' := rp.mono e'.1
      have hp' := sqT_mono hr'.sub (sqT_mono e'.1 hp)
      refine ⟨fun hl => ⟨_, hp', by rw [← rp.length]; rw [enumD_len] at hl; exact Nat.le_of_eq hl.symm⟩, fun x hx => ?_⟩
      rw [enumD_get, Option.map_eq_some_iff] at hx
      obtain ⟨x0, hx0, rfl⟩ := hx
      obtain ⟨v, hv, rv⟩ := rp'.get hx0
      refine ⟨⟨_, v, hp', hv⟩, fun u H'' ⟨T, y, eu, hT, eH, hy⟩ => ?_⟩
      subst eu eH
      have := hy _ hp'
      rw [hv] at this
      cases this
      rw [Nat.zero_add]
      exact pair_rd hr' hT (.int _) rv
    · cases ht
  · left
    refine (TG.seq' er hr h).imp fun v1 H1 ⟨L1, I1, μ1, w1, e1, er1, hr1, r1, h1, q1⟩ => ?_
    cases ex : MP.rd L1 w1 with
    | none => rw [ex] at h1; exact h1.elim
    | some x =>
      rw [ex, Option.bind_some] at h1
      cases x with
      | lst xs =>
        simp only [enIts] at h1
        obtain ⟨a, vs, rfl, hp, rp⟩ := hr1.rd r1 ex
        refine ⟨a, vs, rfl, .of hp, h1 I1 μ1 _ H1 (.refl _ _) hr1 fun i I' μ' L' H' e' hr' hs' => ?_⟩
        obtain ⟨a', vs', ea, hp', rp'⟩ := hr'.rd (r1.mono e') hs'
        cases ea
        refine ⟨fun hl => ⟨vs', .of hp', by rw [← rp'.length]; rw [enumD_len] at hl; exact Nat.le_of_eq hl.symm⟩, fun x hx => ?_⟩
        rw [enumD_get, Option.map_eq_some_iff] at hx
        obtain ⟨x0, hx0, rfl⟩ := hx
        obtain ⟨v, hv, rv⟩ := rp'.get hx0
        refine ⟨⟨vs', v, .of hp', hv⟩, fun u H'' ⟨T, y, eu, hT, eH, hy⟩ => ?_⟩
        subst eu eH
        have := hy vs' (.of hp')
        rw [hv] at this
        cases this
        rw [Nat.zero_add]
        exact pair_rd hr' hT (.int _) rv
      | tup xs => exact (hd ⟨w1, L1, q1, by simp [isTupW, ex]⟩).elim
      | _ => exact h1.elim
end
end MP
namespace MP
open PySem PySem.Spec PyProof.Rows L2
/-! ### zip of lists and tuples -/
def IsIt (t : Bool) (h : Heap) (it l : Addr) (i : Nat) : Prop := if t = true then h.IsTupleIter it l i else h.IsListIter it l i
def IsSq (t : Bool) (h : Heap) (l : Addr) (items : Array Value) : Prop := if t = true then h.IsTuple l items else h.IsList l items
def SqV (t : Bool) (K : PySem.W.Frag) (H : Hp) (a : Addr) (xs : List V) : Prop := if t = true then SqT K H a xs else SqL K H a xs
def itO (t : Bool) (l : Addr) : Obj := if t = true then { cls := .type "tuple_iterator", data := .fields #[.ref l, .int 0 0] } else { cls := .type "list_iterator", data := .fields #[.ref l, .int 0 0] }
theorem IsIt.get {t : Bool} {h : Heap} {it l : Addr} {i : Nat} (x : IsIt t h it l i) : ∃ o, h.get? it = some o ∧ (∀ v, o.data ≠ .cell v) ∧ o.cls ≠ .type "tuple" ∧ o.cls ≠ .type "list" ∧ o.cls ≠ .type "zip" := by
  unfold IsIt at x
  split at x
  · obtain ⟨o, a, b, c⟩ := x
    exact ⟨o, a, (fun v q => by rw [c] at q; cases q), (by rw [b]; decide), (by rw [b]; decide), (by rw [b]; decide)⟩
  · obtain ⟨o, a, b, c⟩ := x
    exact ⟨o, a, (fun v q => by rw [c] at q; cases q), (by rw [b]; decide), (by rw [b]; decide), (by rw [b]; decide)⟩
theorem IsIt.at {t : Bool} {h h' : Heap} {it l : Addr} {i : Nat} (x : IsIt t h it l i) (k : ∀ o, h.get? it = some o → h'.get? it = some o) : IsIt t h' it l i := by
  unfold IsIt at x ⊢
  split
  · rename_i c; rw [if_pos c] at x; exact Heap.IsTupleIter.at x k
  · rename_i c; rw [if_neg c] at x; exact Heap.IsListIter.at x k
theorem IsSq.get {t : Bool} {h : Heap} {l : Addr} {its : Array Value} (x : IsSq t h l its) : ∃ o, h.get? l = some o ∧ (o.cls = .type "tuple" ∨ o.cls = .type "list") := by
  unfold IsSq at x
  split at x
  · obtain ⟨o, a, b, _⟩ := x; exact ⟨o, a, .inl b⟩
  · obtain ⟨o, a, b, _⟩ := x; exact ⟨o, a, .inr b⟩
theorem IsIt.ne {t u : Bool} {h : Heap} {it l l' : Addr} {i : Nat} {its : Array Value} (x : IsIt t h it l i) (y : IsSq u h l' its) : l' ≠ it := fun e => by
  obtain ⟨o, a, _, b, c, _⟩ := x.get
  obtain ⟨o', a', b'⟩ := y.get
  rw [e, a] at a'
  cases a'
  exact b'.elim b c
theorem draws_k {prog : Program} {w : World} {A : Around} (hh : A.handled = none) (t : Bool) (it l : Addr) (hne : l ≠ it) (items : Array Value) :
    Draws prog w A it [it, l] items.size (fun i v => items[i]? = some v) (fun i h => IsIt t h it l i ∧ IsSq t h l items) := by
  cases t
  · exact Draws.list hh it l hne items
  · exact Draws.tuple hh it l hne items
theorem begins_k (t : Bool) (l : Addr) (items : Array Value) : Begins (.ref l) (itO t l) fun h => IsSq t h l items := by
  cases t
  · exact begins_list l items
  · exact begins_tuple l items
section
variable {X : Cx} {pins : List (Addr × Obj)} {σ : L2.St} {H : Hp} {s : Shared}
theorem Inv.seqk (I : Inv X pins σ H s) {t : Bool} {a : Addr} {xs : List V} (h : SqV t X.K H a xs) : ∃ its : List Value, Vals xs its ∧ IsSq t s.heap a its.toArray := by
  cases t
  · obtain ⟨its, rv, p, _⟩ := I.list h; exact ⟨its, rv, p.isList⟩
  · obtain ⟨its, rv, p, _⟩ := I.tuple h; exact ⟨its, rv, p⟩
theorem Inv.seqk_inj (I : Inv X pins σ H s) {t : Bool} {a : Addr} {xs ys : List V} (h : SqV t X.K H a xs) (h' : SqV t X.K H a ys) : xs = ys := by
  cases t
  · exact I.list_inj h h'
  · exact I.tuple_inj h h'
end
def ItZ (t u : Bool) (K : PySem.W.Frag) (a b : Addr) : It :=
  ⟨fun i H => ∃ (xs ys : List V) (x y : V), SqV t K H a xs ∧ SqV u K H b ys ∧ xs[i]? = some x ∧ ys[i]? = some y,
    fun i H v H' => ∃ T x y, v = .ref T ∧ H T = none ∧ H' = upd H T (.tup [x, y]) ∧ (∀ xs, SqV t K H a xs → xs[i]? = some x) ∧ ∀ ys, SqV u K H b ys → ys[i]? = some y,
    fun i H => ∃ xs ys : List V, SqV t K H a xs ∧ SqV u K H b ys ∧ i ≤ xs.length ∧ i ≤ ys.length ∧ (i = xs.length ∨ i = ys.length)⟩
/-- the five records of zip stand apart -/
structure Zap (z TI TO i1 i2 : Addr) : Prop where
  TIz : TI ≠ z
  TOz : TO ≠ z
  TITO : TI ≠ TO
  TIi1 : TI ≠ i1
  TIi2 : TI ≠ i2
  zi1 : z ≠ i1
  zi2 : z ≠ i2
  TOi1 : TO ≠ i1
  TOi2 : TO ≠ i2
  i12 : i1 ≠ i2
theorem zap_of (n : Nat) : Zap (n + 4) (n + 2) (n + 3) n (n + 1) :=
  ⟨show (n + 2 : Nat) ≠ n + 4 by omega, show (n + 3 : Nat) ≠ n + 4 by omega, show (n + 2 : Nat) ≠ n + 3 by omega, show (n + 2 : Nat) ≠ n by omega, show (n + 2 : Nat) ≠ n + 1 by omega,
    show (n + 4 : Nat) ≠ n by omega, show (n + 4 : Nat) ≠ n + 1 by omega, show (n + 3 : Nat) ≠ n by omega, show (n + 3 : Nat) ≠ n + 1 by omega, show (n : Nat) ≠ n + 1 by omega⟩
theorem turn_zipK {P : Program} {w : World} {K : PySem.W.Frag} {elts : List Expr} {kk : Nat} {tpos : Pos} (t u : Bool) {a b z TI TO i1 i2 : Addr} (D : Zap z TI TO i1 i2) :
    Turn P w K (.Tuple elts kk tpos) (ItZ t u K a b) [z, TI, TO, i1, i2] z (fun i h => IsZip h z TI TO .none ∧ IsTupOf2 h TI (.ref i1) (.ref i2) ∧ (∃ x y, IsTupOf2 h TO x y) ∧ IsIt t h i1 a i ∧ IsIt u h i2 b i ∧ (a ≠ TO ∧ b ≠ TO)) where
  mem := by simp
  obj := fun i h st c hc => by
    obtain ⟨hz, hTI, ⟨x, y, hTO⟩, h1, h2, _⟩ := st
    obtain ⟨o1, e1, d1, _⟩ := h1.get
    obtain ⟨o2, e2, d2, _⟩ := h2.get
    rcases (by simpa using hc : c = z ∨ c = TI ∨ c = TO ∨ c = i1 ∨ c = i2) with rfl | rfl | rfl | rfl | rfl
    · exact ⟨_, hz, fun v q => nomatch q⟩
    · exact ⟨_, hTI, fun v q => nomatch q⟩
    · exact ⟨_, hTO, fun v q => nomatch q⟩
    · exact ⟨o1, e1, d1⟩
    · exact ⟨o2, e2, d2⟩
  keep := fun i h h' st k => by
    obtain ⟨hz, hTI, ⟨x, y, hTO⟩, h1, h2, h3⟩ := st
    exact ⟨k z (by simp) _ hz, k TI (by simp) _ hTI, ⟨x, y, k TO (by simp) _ hTO⟩, h1.at fun o q => k i1 (by simp) o q, h2.at fun o q => k i2 (by simp) o q, h3⟩
  item := by
    intro X hP hw hK hc i pins s σ H E I hf st hg
    subst hP hw hK
    obtain ⟨hz, hTI, ⟨x0, y0, hTO⟩, h1, h2, h3⟩ := st
    obtain ⟨xs, ys, x, y, hqx, hqy, hx, hy⟩ := hg
    obtain ⟨its, rv, p⟩ := Inv.seqk I hqx
    obtain ⟨its2, rv2, p2⟩ := Inv.seqk I hqy
    obtain ⟨v1, hu, ru⟩ := rv.get hx
    obtain ⟨v2, hu2, ru2⟩ := rv2.get hy
    have hzl : z < s.heap.objs.size := Heap.lt_size hz
    have zsep : ∀ {t : Bool} {l : Addr} {it : Array Value}, IsSq t s.heap l it → z ≠ l := fun q e => by
      obtain ⟨o, g1, g2⟩ := q.get
      rw [← e, hz] at g1
      cases g1
      rcases g2 with g | g
      · injection g with g; exact absurd g (by decide)
      · injection g with g; exact absurd g (by decide)
    have S : ZipSep2 z TI TO i1 i2 [i1, a] [i2, b] := {
      TIz := D.TIz, TOz := D.TOz, TITO := D.TITO, TIi1 := D.TIi1, mem1 := by simp, TIi2 := D.TIi2, mem2 := by simp
      zf1 := by simp [D.zi1, zsep p]
      Tf1 := by simp [D.TOi1, h3.1.symm]
      zf2 := by simp [D.zi2, zsep p2]
      Tf2 := by simp [D.TOi2, h3.2.symm]
      sep1_2 := by simp [D.i12, (h1.ne p2).symm]
      sep2_1 := by simp [D.i12.symm, (h2.ne p).symm] }
    have l1 : i < its.toArray.size := by simpa using (List.getElem?_eq_some_iff.mp hu).1
    have l2 : i < its2.toArray.size := by simpa using (List.getElem?_eq_some_iff.mp hu2).1
    refine wpAny_pyNext_zipD2_item S (draws_k (A := X.A.in1) (I.ok.hd hc) t i1 a (h1.ne p) its.toArray) (draws_k (A := X.A.in1) (I.ok.hd hc) u i2 b (h2.ne p2) its2.toArray) hz hTI hTO ⟨h1, p⟩ ⟨h2, p2⟩ l1 l2
      fun x1 x2 h' tk hP1 hP2 z' TO' st1 st2 hT hsz hk => ?_
    have ex1 : x1 = v1 := by
      have q : its.toArray[i]? = some v1 := by simpa using hu
      rw [q] at hP1; exact (Option.some.inj hP1).symm
    have ex2 : x2 = v2 := by
      have q : its2.toArray[i]? = some v2 := by simpa using hu2
      rw [q] at hP2; exact (Option.some.inj hP2).symm
    subst ex1 ex2
    refine ⟨_, rfl, wpAny_letOwnedTupleGo_zip (s := { s with heap := h', toks := tk }) z' fun h'' z'' sb => ?_⟩
    have hT2 : h''.get? s.heap.objs.size = some { cls := .type "tuple", data := .seq #[x1, x2] } := (sb.2 _ (Nat.ne_of_gt hzl)).trans hT
    have new : ObjOk X.prog X.w (upd H s.heap.objs.size (.tup [x, y])) h'' s.heap.objs.size (.tup [x, y]) :=
      ⟨by show 2 ≤ sizeLine; decide, [x1, x2], .cons ru (.cons ru2 .nil), ⟨_, hT2, rfl, _, rfl⟩⟩
    have I1 : Inv X pins σ (upd H s.heap.objs.size (.tup [x, y])) { s with heap := h'', toks := tk } :=
      I.turnedNew (t' := tk) (ch := [z, TI, TO, i1, i2]) (fun c o hb q => (sb.2 c (fun q' => hb (by simp [q']))).trans (hk c o (fun q' => hb (by simp [q'])) (fun q' => hb (by simp [q'])) (fun q' => hb (by simp [q'])) (fun q' => hb (by simp [q'])) q)) hf (Nat.le_refl _) new
    refine ⟨.ref s.heap.objs.size, _, I1, rfl, ⟨_, x, y, rfl, I.hok.fresh (Nat.le_refl _), rfl, fun l hl => by rw [Inv.seqk_inj I hl hqx]; exact hx, fun l hl => by rw [Inv.seqk_inj I hl hqy]; exact hy⟩, ⟨z'', ?_, ⟨x1, x2, ?_⟩, ?_, ?_, h3⟩, fun c hcm => ?_⟩
    · exact (sb.2 _ D.TIz).trans (hk _ _ D.TIz D.TITO D.TIi1 D.TIi2 hTI)
    · exact (sb.2 _ D.TOz).trans TO'
    · exact st1.1.at fun o q => (sb.2 _ D.zi1.symm).trans q
    · exact st2.1.at fun o q => (sb.2 _ D.zi2.symm).trans q
    · have hlt : c < s.heap.objs.size := by
        obtain ⟨o1, e1, _⟩ := h1.get
        obtain ⟨o2, e2, _⟩ := h2.get
        rcases (by simpa using hcm : c = z ∨ c = TI ∨ c = TO ∨ c = i1 ∨ c = i2) with rfl | rfl | rfl | rfl | rfl
        · exact hzl
        · exact Heap.lt_size hTI
        · exact Heap.lt_size hTO
        · exact Heap.lt_size e1
        · exact Heap.lt_size e2
      rw [upd_ne (Nat.ne_of_lt hlt)]
      exact (hf c hcm).1
  done := by
    intro X hP hw hK hc i pins s σ H E I hf st hg
    subst hP hw hK
    obtain ⟨hz, hTI, ⟨x0, y0, hTO⟩, h1, h2, h3⟩ := st
    obtain ⟨xs, ys, hqx, hqy, b1, b2, hend⟩ := hg
    obtain ⟨its, rv, p⟩ := Inv.seqk I hqx
    obtain ⟨its2, rv2, p2⟩ := Inv.seqk I hqy
    have l1 := rv.length
    have l2 := rv2.length
    have zsep : ∀ {t : Bool} {l : Addr} {it : Array Value}, IsSq t s.heap l it → z ≠ l := fun q e => by
      obtain ⟨o, g1, g2⟩ := q.get
      rw [← e, hz] at g1
      cases g1
      rcases g2 with g | g
      · injection g with g; exact absurd g (by decide)
      · injection g with g; exact absurd g (by decide)
    have S : ZipSep2 z TI TO i1 i2 [i1, a] [i2, b] := {
      TIz := D.TIz, TOz := D.TOz, TITO := D.TITO, TIi1 := D.TIi1, mem1 := by simp, TIi2 := D.TIi2, mem2 := by simp
      zf1 := by simp [D.zi1, zsep p]
      Tf1 := by simp [D.TOi1, h3.1.symm]
      zf2 := by simp [D.zi2, zsep p2]
      Tf2 := by simp [D.TOi2, h3.2.symm]
      sep1_2 := by simp [D.i12, (h1.ne p2).symm]
      sep2_1 := by simp [D.i12.symm, (h2.ne p).symm] }
    refine wpAny_pyNext_zipD2_end S (draws_k (A := X.A.in1) (I.ok.hd hc) t i1 a (h1.ne p) its.toArray) (draws_k (A := X.A.in1) (I.ok.hd hc) u i2 b (h2.ne p2) its2.toArray) hz hTI hTO ⟨h1, p⟩ ⟨h2, p2⟩ (by simp; omega) (by simp; omega) (by simp; omega)
      fun h' tk hk => ⟨rfl, I.turnedL (t' := tk) (ch := [z, TI, TO, i1, i2]) (fun c o hb q => hk c o (fun q' => hb (by simp [q'])) (fun q' => hb (by simp [q'])) (fun q' => hb (by simp [q'])) (fun q' => hb (by simp [q'])) q) hf⟩
  self := fun A i s Q E st h => wpAny_pyIter_zip st.1 h
section
variable {X : Cx} {Wx : WX} {e e2 : Expr} {m m2 : EM} {pos p tpos : Pos} {elts : List Expr} {kk : Nat}
theorem pi_zipK {ta : L2.TA} (hg : Gl X "zip") (hm : X.mg "zip" = none) (ha : PA X [e, e2] ta) (hs : starEach [e, e2] X.env = (false, eval e X.env) :: starEach [e2] X.env := by rfl) (hpl : (backTo pos (starEach [e2] X.env)).any (·.1) = false := by rfl) :
    PI X (.Tuple elts kk tpos) (.Call (.Name "zip" p) [e, e2] [] pos) (fun σ H R => ta σ H fun vs H1 => ∃ t u a b xs ys, vs = [.ref a, .ref b] ∧ SqV t X.K H1 a xs ∧ SqV u X.K H1 b ys ∧ R (ItZ t u X.K a b) H1) := by
  refine ⟨fun pins s σ H R I h => ?_⟩
  refine Call_ (ld_blt I hg hm PyProof.Rows.boot_zip (PyProof.Rows.callWith_type1 (thn (ha.run pos pins s σ H _ I h) fun us s1 ⟨vs, H1, I1, r1, t, u, a, b, xs, ys, ex, hqx, hqy, q⟩ => ?_) hs hpl))
  subst ex
  cases r1 with | cons r rr =>
  cases rr with | cons r' rr =>
  cases rr
  cases r
  cases r'
  obtain ⟨its, rv, p1⟩ := Inv.seqk I1 hqx
  obtain ⟨its2, rv2, p2⟩ := Inv.seqk I1 hqy
  have old : ∀ {t : Bool} {l : Addr} {it : Array Value}, IsSq t s1.heap l it → l < s1.heap.objs.size := fun q => by
    obtain ⟨o, g1, _⟩ := q.get
    exact Heap.lt_size g1
  refine zip_begins2 (begins_k t a its.toArray) (begins_k u b its2.toArray) p1 p2 fun h' hz hTI hTO h1 h2 hsz hk => wpAny_pyIter_zip hz ?_
  have I2 : Inv X pins σ H1 { s1 with heap := h' } := I1.kept (t' := s1.toks) hk
  have k1 : IsIt t h' s1.heap.objs.size a 0 := by
    unfold IsIt itO at *
    split
    · rename_i c; rw [if_pos c] at h1; exact ⟨_, h1, rfl, rfl⟩
    · rename_i c; rw [if_neg c] at h1; exact ⟨_, h1, rfl, rfl⟩
  have k2 : IsIt u h' (s1.heap.objs.size + 1) b 0 := by
    unfold IsIt itO at *
    split
    · rename_i c; rw [if_pos c] at h2; exact ⟨_, h2, rfl, rfl⟩
    · rename_i c; rw [if_neg c] at h2; exact ⟨_, h2, rfl, rfl⟩
  have o1 : a ≠ s1.heap.objs.size + 3 := Nat.ne_of_lt (Nat.lt_of_lt_of_le (old p1) (Nat.le_add_right _ _))
  have o2 : b ≠ s1.heap.objs.size + 3 := Nat.ne_of_lt (Nat.lt_of_lt_of_le (old p2) (Nat.le_add_right _ _))
  refine ⟨s1.heap.objs.size + 4, [s1.heap.objs.size + 4, s1.heap.objs.size + 2, s1.heap.objs.size + 3, s1.heap.objs.size, s1.heap.objs.size + 1], _, _, H1, rfl, I2,
    turn_zipK t u (zap_of _), ⟨hz, hTI, ⟨_, _, hTO⟩, k1, k2, o1, o2⟩, fun c hcm => ?_, q⟩
  have hle : s1.heap.objs.size ≤ c := by
    rcases (by simpa using hcm : c = s1.heap.objs.size + 4 ∨ c = s1.heap.objs.size + 2 ∨ c = s1.heap.objs.size + 3 ∨ c = s1.heap.objs.size ∨ c = s1.heap.objs.size + 1) with rfl | rfl | rfl | rfl | rfl <;> first | exact Nat.le_add_right _ _ | exact Nat.le_refl _
  exact I1.fpOk hle (I1.hok.fresh hle)
/-- what a value holds as a sequence -/
def seqD : D → Option (Bool × List D)
  | .lst xs => some (false, xs)
  | .tup xs => some (true, xs)
  | _ => none
def zipD : List D → List D → List D
  | x :: xs, y :: ys => .tup [x, y] :: zipD xs ys
  | _, _ => []
theorem zipD_len : ∀ (xs ys : List D), (zipD xs ys).length = min xs.length ys.length
  | [], _ => by simp [zipD]
  | _ :: _, [] => by simp [zipD]
  | _ :: xs, _ :: ys => by simp [zipD, zipD_len xs ys]
theorem zipD_get : ∀ (xs ys : List D) (i : Nat) (z : D), (zipD xs ys)[i]? = some z → ∃ x y, xs[i]? = some x ∧ ys[i]? = some y ∧ z = .tup [x, y]
  | [], _, _, _, h => by simp [zipD] at h
  | _ :: _, [], _, _, h => by simp [zipD] at h
  | x :: xs, y :: ys, 0, z, h => by simp [zipD] at h; exact ⟨x, y, rfl, rfl, h.symm⟩
  | x :: xs, y :: ys, i + 1, z, h => by
    obtain ⟨a, b, h1, h2, h3⟩ := zipD_get xs ys i z (by simpa [zipD] using h)
    exact ⟨a, b, by simpa using h1, by simpa using h2, h3⟩
def iZip (a b : EM) : IM := fun env L => (a env L).bind fun w L1 => (b env L1).bind fun u L2 => match (rd L2 w).bind seqD, (rd L2 u).bind seqD with
  | some p, some q => .ok ⟨zipD p.2 q.2, fun L => (rd L w).bind seqD = some p ∧ (rd L u).bind seqD = some q⟩ L2
  | _, _ => .bad
theorem seq_rd {K : PySem.W.Frag} {I H : Hp} {μ : List Addr} {L : LH} (hr : HR K I μ L H) {w : W} {v : V} (r : RW K I μ w v) {t : Bool} {xs : List D} (h : (rd L w).bind seqD = some (t, xs)) : ∃ a vs, v = .ref a ∧ SqV t K H a vs ∧ RDs K I xs vs := by
  cases ex : rd L w with
  | none => rw [ex] at h; cases h
  | some x =>
    rw [ex, Option.bind_some] at h
    have rx := hr.rd r ex
    cases x with
    | lst ys =>
      cases h
      obtain ⟨a, vs, rfl, hp, rp⟩ := rx
      exact ⟨a, vs, rfl, (SqL.of hp : SqL K H a vs), rp⟩
    | tup ys =>
      cases h
      cases (rx : RD _ _ _ _) with | tup hp rp =>
      exact ⟨_, _, rfl, sqT_mono hr.sub hp, rp⟩
    | _ => cases h
theorem ri_zip (hg : Gl X "zip") (hm : X.mg "zip" = none) (he : RE X Wx e m) (he2 : RE X Wx e2 m2) (h1 : starEach (e :: [e2]) X.env = (false, eval e X.env) :: starEach [e2] X.env := by rfl) (h2 : starEach (e2 :: []) X.env = (false, eval e2 X.env) :: starEach [] X.env := by rfl)
    (hs : starEach [e, e2] X.env = (false, eval e X.env) :: starEach [e2] X.env := by rfl) (hpl : (backTo pos (starEach [e2] X.env)).any (·.1) = false := by rfl) :
    RI X Wx (.Tuple elts kk tpos) (.Call (.Name "zip" p) [e, e2] [] pos) (iZip m m2) := by
  refine (pi_zipK hg hm (pa_cons he (pa_cons he2 pa_nil h2) h1) hs hpl).imp fun σ H Q ⟨env, L, I, μ, er, hr, h⟩ => ?_
  refine (TG.seq er hr h).imp fun v1 H1 ⟨L1, I1, μ1, w1, e1, er1, hr1, r1, h1⟩ => ?_
  refine (TG.seq er1 hr1 h1).imp fun v2 H2 ⟨L2, I2, μ2, w2, e2, er2, hr2, r2, h2⟩ => ?_
  split at h2
  · rename_i p q ep eq
    obtain ⟨t, xs⟩ := p
    obtain ⟨u, ys⟩ := q
    have r1' := r1.mono e2
    obtain ⟨a, vs, rfl, hp, rp⟩ := seq_rd hr2 r1' ep
    obtain ⟨b, us, rfl, hq, rq⟩ := seq_rd hr2 r2 eq
    refine ⟨t, u, a, b, vs, us, rfl, hp, hq, h2 I2 μ2 _ H2 (.refl _ _) hr2 fun i I' μ' L' H' e' hr' hs' => ?_⟩
    obtain ⟨a', vs', ea, hp', rp'⟩ := seq_rd hr' (r1'.mono e') hs'.1
    obtain ⟨b', us', eb, hq', rq'⟩ := seq_rd hr' (r2.mono e') hs'.2
    cases ea
    cases eb
    refine ⟨fun hl => ⟨vs', us', hp', hq', ?_⟩, fun x hx => ?_⟩
    · rw [zipD_len] at hl
      rw [← rp'.length, ← rq'.length]
      simp only at hl ⊢
      omega
    · obtain ⟨x1, x2, g1, g2, rfl⟩ := zipD_get _ _ _ _ hx
      obtain ⟨v, hv, rv⟩ := rp'.get g1
      obtain ⟨v', hv', rv'⟩ := rq'.get g2
      refine ⟨⟨vs', us', v, v', hp', hq', hv, hv'⟩, fun z H'' ⟨T, y1, y2, eu, hT, eH, k1, k2⟩ => ?_⟩
      subst eu eH
      have q1 := k1 _ hp'
      have q2 := k2 _ hq'
      rw [hv] at q1
      rw [hv'] at q2
      cases q1
      cases q2
      exact pair_rd hr' hT rv rv'
  · exact h2.elim
end
end MP
namespace MP
open PySem PySem.Spec PyProof.Rows L2
/-! ### x in y -/
def inG (neg : Bool) (x y : D) : Option D := match y with
  | .lst ys => (toP x).bind fun p => (toPs ys).bind fun qs => if (okP p && okP (.list qs)) = true then some (.bl (if neg = true then !(qs.any fun z => PyData.eqv z p) else qs.any fun z => PyData.eqv z p)) else none
  | _ => none
/-- x in a list: of texts, of ints, of any data -/
def inL (neg : Bool) (x y : D) : Option D := match x, y with
  | .str a, .lst ys => (strs' ys).map fun zs => .bl (if neg = true then !(zs.any fun z => decide (z = a)) else zs.any fun z => decide (z = a))
  | .int a, .lst ys => (intsD ys).map fun zs => .bl (if neg = true then !(zs.any fun z => decide (z = a)) else zs.any fun z => decide (z = a))
  | x, y => inG neg x y
theorem strs_map : ∀ {xs : List D} {ns : List Str}, strs' xs = some ns → xs = ns.map D.str
  | [], _, h => by simp [strs'] at h; subst h; rfl
  | .str i :: r, _, h => by
    simp only [strs', Option.map_eq_some_iff] at h
    obtain ⟨y, h1, rfl⟩ := h
    rw [strs_map h1]; rfl
  | .non :: _, _, h => by simp [strs'] at h
  | .bl _ :: _, _, h => by simp [strs'] at h
  | .int _ :: _, _, h => by simp [strs'] at h
  | .tup _ :: _, _, h => by simp [strs'] at h
  | .lst _ :: _, _, h => by simp [strs'] at h
  | .dct _ :: _, _, h => by simp [strs'] at h
  | .ob _ _ :: _, _, h => by simp [strs'] at h
  | .rf _ :: _, _, h => by simp [strs'] at h
  | .scr _ :: _, _, h => by simp [strs'] at h
  | .ty _ :: _, _, h => by simp [strs'] at h
theorem inV_str (a : Str) : ∀ zs : List Str, inV (.str a) (zs.map V.str) = zs.any fun z => decide (z = a)
  | [] => rfl
  | z :: r => by
    have ih := inV_str a r
    unfold inV at ih ⊢
    rw [List.map_cons, List.any_cons, List.any_cons, ih]
    first | rfl | (congr 1; show (z == a) = decide (z = a); by_cases h : z = a <;> simp [h])
theorem inV_int (a : Int) : ∀ zs : List Int, inV (.int a) (zs.map V.int) = zs.any fun z => decide (z = a)
  | [] => rfl
  | z :: r => by
    have ih := inV_int a r
    unfold inV at ih ⊢
    rw [List.map_cons, List.any_cons, List.any_cons, ih]
    first | rfl | (congr 1; show (z == a) = decide (z = a); by_cases h : z = a <;> simp [h])
section
variable {X : Cx} {Wx : WX} {a b : Expr} {ma mb : EM} {pos : Pos}
theorem s_inG {K : PySem.W.Frag} : Op2 K (inG false) (rInD K) := by
  intro I H x y z v u Q s e rx ry q
  unfold inG at e
  split at e
  · rename_i ys
    cases ex : toP x with
    | none => rw [ex] at e; cases e
    | some p =>
      cases ey : toPs ys with
      | none => rw [ex, ey] at e; cases e
      | some qs =>
        rw [ex, ey] at e
        simp only [Option.bind_some] at e
        split at e
        · rename_i c
          cases e
          simp only [okP, Bool.and_eq_true] at c
          exact ⟨p, qs, rr_dp s rx ex c.1.1, rr_dp s ry (by simp [toP, ey]) c.2.1, c.1.2, c.2.2, q _ _ _ .refl (.bl _)⟩
        · cases e
  · cases e
theorem s_ninG {K : PySem.W.Frag} : Op2 K (inG true) (rNotInD K) := by
  intro I H x y z v u Q s e rx ry q
  unfold inG at e
  split at e
  · rename_i ys
    cases ex : toP x with
    | none => rw [ex] at e; cases e
    | some p =>
      cases ey : toPs ys with
      | none => rw [ex, ey] at e; cases e
      | some qs =>
        rw [ex, ey] at e
        simp only [Option.bind_some] at e
        split at e
        · rename_i c
          cases e
          simp only [okP, Bool.and_eq_true] at c
          exact ⟨p, qs, rr_dp s rx ex c.1.1, rr_dp s ry (by simp [toP, ey]) c.2.1, c.1.2, c.2.2, q _ _ _ .refl (.bl _)⟩
        · cases e
  · cases e
abbrev rInAll (K : PySem.W.Frag) (neg : Bool) (r : R2) : R2 := fun x y H Q => r x y H Q ∨ rIn K neg x y H Q
theorem s_inAll {K : PySem.W.Frag} {neg : Bool} {r : R2} (hG : Op2 K (inG neg) r) : Op2 K (inL neg) (rInAll K neg r) := by
  intro I H x y z v u Q s e rx ry q
  unfold inL at e
  split at e
  · rename_i a ys
    cases (rx : RD _ _ _ _)
    obtain ⟨p, vs, rfl, hp, rp⟩ := ry
    rw [Option.map_eq_some_iff] at e
    obtain ⟨zs, e1, rfl⟩ := e
    rw [strs_map e1] at rp
    have := rp.strs_of
    subst this
    have hf : (zs.map V.str).all flatV = true := by simp [flatV]
    refine .inr ⟨p, _, rfl, .inl (.of hp), rfl, hf, ?_⟩
    rw [inV_str]
    exact q _ _ _ .refl (.bl _)
  · rename_i a ys
    cases (rx : RD _ _ _ _)
    obtain ⟨p, vs, rfl, hp, rp⟩ := ry
    rw [Option.map_eq_some_iff] at e
    obtain ⟨zs, e1, rfl⟩ := e
    rw [intsD_map e1] at rp
    have := rp.ints_of
    subst this
    have hf : (zs.map V.int).all flatV = true := by simp [flatV]
    refine .inr ⟨p, _, rfl, .inl (.of hp), rfl, hf, ?_⟩
    rw [inV_int]
    exact q _ _ _ .refl (.bl _)
  · exact .inl (hG I H _ _ z v u Q s e rx ry q)
theorem re_inL (hu : X.A.units + 65 < cLine) (ha : RE X Wx a ma) (hb : RE X Wx b mb) (hm : behindInMarks .In b = false := by rfl) : RE X Wx (.Compare a [.In] [b] pos) (m2 (inL false) ma mb) := re_cmp ((op_inD hu).or op_in_seq) (s_inAll s_inG) ha hb hm
theorem re_ninL (hu : X.A.units + 65 < cLine) (ha : RE X Wx a ma) (hb : RE X Wx b mb) (hm : behindInMarks .NotIn b = false := by rfl) : RE X Wx (.Compare a [.NotIn] [b] pos) (m2 (inL true) ma mb) := re_cmp ((op_notInD hu).or op_notIn_seq) (s_inAll s_ninG) ha hb hm
end
/-! ### the end: the law's own def, from the script on -/
theorem end_core {P : Program} {w : World} {K : PySem.W.Frag} {mg mb : Str → Option Value} {k : Nat} {fa a : Addr} {fd : FuncData} {x : Str} {m : Fs} {s1 : Shared} {vs : List Value} {ns : List Int} {H : Hp}
    (KX : K.In s1.heap) (hns : s1.heap.Ns mainGlobals mg) (hb : s1.heap.Ns builtinsNs mb) (hbb : ∀ x : Str, x ≠ "__name__" → mb x = bootBuiltins x) (hlim : s1.heap.NoLimit) (hg : s1.gens = #[])
    (ha : s1.heap.get? a = some { cls := .type "list", data := .seq vs.toArray }) (hr : Rm k callerA)
    (F : ∀ base : Heap, K.In base → base.Ns mainGlobals mg → FnG P w K mg base k fa fd [x] (SpOf K 1 m)) (hbind : ∀ (s : Shared) (u : Value), BindsTo s fd ⟨[u], []⟩ [(x, u)])
    (hm : ∃ L, m [.d (.scr ns)] [] = .ok (.d (.bl true)) L)
    (hH : ∀ b, H b = none ∨ (b = a ∧ H b = some (.frz { cls := .type "list", data := .seq vs.toArray } (.lst (ns.map V.int))))) (hS : SqL K H a (ns.map V.int)) (hok : HOk P w H s1.heap) (hKa : H a ≠ none → K.lookup a = none) :
    codeAny (model P w) callerA (.call (.ref fa) ⟨[.ref a], []⟩) (fun r s' => r = .ok (.ret (.bool true)) ∧ OldK s1.heap s'.heap ∧ s'.os = s1.os ∧ AllBare s'.gens) s1 := by
  have atA : ∀ {b : Addr} {o : HO}, H b = some o → b = a := fun {b o} e => (hH b).elim (fun z => by rw [z] at e; cases e) fun z => z.1
  have free : ∀ {b : Addr} {o : Obj}, s1.heap.get? b = some o → (∀ q n, o.data ≠ .seq q n) → H b = none := fun {b o} e d => by
    cases q : H b with
    | none => rfl
    | some u =>
      have e' := atA q
      subst e'
      rw [ha] at e
      cases e
      exact (d _ _ rfl).elim
  have nsB : ∀ {b : Addr} {g : Str → Option Value}, s1.heap.Ns b g → (hidT s1.heap H).Ns b g := fun ⟨o, es, ep, e, d, r⟩ => ⟨o, es, ep, hidT_get e (free e fun q n z => by rw [d] at z; cases z), d, r⟩
  have KB : K.In (hidT s1.heap H) := fun b o e => hidT_get (KX b o e) (by
    cases q : H b with
    | none => rfl
    | some u =>
      have e' := atA q
      subst e'
      rw [hKa (by rw [q]; exact fun z => nomatch z)] at e
      cases e)
  have hM : Mod K mg (hidT s1.heap H) := ⟨KB, nsB hns, ⟨mb, nsB hb, hbb⟩, hlim.elim fun mc hc => ⟨mc, nsB hc.1, hc.2⟩⟩
  have e0 : Env0 P w K mg (hidT s1.heap H) callerA [] s1 H := ⟨rfl, hM, fun b o e => of_hidT e, Nat.le_of_eq (hidT_size _ _), trivial, (fun b hb => nomatch hb), hok, .of_eq hg⟩
  obtain ⟨L, hL⟩ := hm
  have hR : HR K H [] [] H := ⟨Same.refl H, rfl, List.nodup_nil, (fun p hp => nomatch hp), (fun n p o h => by simp at h), fun n o h => by simp at h⟩
  have sp : SpOf K 1 m [.ref a] H (fun v _ => v = .bl true) (fun _ _ _ => False) := by
    refine ⟨[.d (.scr ns)], [], H, [], rfl, .cons (.d (.scr hS)) .nil, hR, ?_⟩
    rw [hL]
    intro I' μ' v H' _ _ r
    cases r with | d r =>
    cases r
    rfl
  refine codeAny_mono ((F _ KB (nsB hns)).run callerA [] s1 H ⟨[.ref a], []⟩ [.ref a] [.ref a] _ _ hr e0 (hbind s1 (.ref a)) (.cons rfl .nil) sp) fun o s' ho => ?_
  match o, ho with
  | .error e, ⟨_, _, _, _, _, _, _, _, _, _, _, _, f⟩ => exact f.elim
  | .ok (.ret u), ⟨v, H', os, bare, un, hok', r', q⟩ =>
    have q' : v = .bl true := q
    subst q'
    cases r'
    refine ⟨rfl, OldK.of_keep fun b o e => ?_, os, bare⟩
    rcases hH b with z | ⟨_, z⟩
    · exact un.keep b o e z (fun h => nomatch h) (fun h => nomatch h)
    · have g1 := (hok b _ z).1
      have g2 := (hok' b _ (un.frzs b _ _ z)).1
      rw [e] at g1
      cases g1
      exact g2
theorem end_law {P : Program} {w : World} {K : PySem.W.Frag} {mg mb : Str → Option Value} {k : Nat} {fa a : Addr} {fd : FuncData} {x : Str} {m : Fs} {s1 : Shared} {vs : List Value} {ns : List Int}
    (KX : K.In s1.heap) (hns : s1.heap.Ns mainGlobals mg) (hb : s1.heap.Ns builtinsNs mb) (hbb : ∀ x : Str, x ≠ "__name__" → mb x = bootBuiltins x) (hlim : s1.heap.NoLimit) (hg : s1.gens = #[])
    (ha : s1.heap.get? a = some { cls := .type "list", data := .seq vs.toArray }) (hi : IntsAre vs ns) (hl : ns.length ≤ sizeLine) (hr : Rm k callerA)
    (F : ∀ base : Heap, K.In base → base.Ns mainGlobals mg → FnG P w K mg base k fa fd [x] (SpOf K 1 m)) (hbind : ∀ (s : Shared) (u : Value), BindsTo s fd ⟨[u], []⟩ [(x, u)])
    (hm : ∃ L, m [.d (.scr ns)] [] = .ok (.d (.bl true)) L) :
    codeAny (model P w) callerA (.call (.ref fa) ⟨[.ref a], []⟩) (fun r s' => r = .ok (.ret (.bool true)) ∧ OldK s1.heap s'.heap ∧ s'.os = s1.os ∧ AllBare s'.gens) s1 := by
  have rv := vals_ints hi
  cases hk : K.lookup a with
  | some o =>
    have e := KX a o hk
    rw [ha] at e
    cases e
    exact end_core KX hns hb hbb hlim hg ha hr F hbind hm (H := fun _ => none) (fun _ => .inl rfl) (.inr ⟨_, vs.toArray, _, hk, rfl, rfl, rfl, by rw [List.size_toArray, hi.length]; exact hl, by simpa using rv⟩) (fun b u z => nomatch z) fun z => absurd rfl z
  | none =>
    refine end_core KX hns hb hbb hlim hg ha hr F hbind hm (H := upd (fun _ => none) a (.frz { cls := .type "list", data := .seq vs.toArray } (.lst (ns.map V.int)))) (fun b => ?_) (.inl (.inr ⟨_, upd_same⟩)) (fun b u z => ?_) fun _ => hk
    · by_cases e : b = a
      · subst e; exact .inr ⟨rfl, upd_same⟩
      · exact .inl (upd_ne e)
    · by_cases e : b = a
      · subst e
        rw [upd_same] at z
        cases z
        exact ⟨ha, by rw [List.length_map]; exact hl, vs, _, rv, ha⟩
      · rw [upd_ne e] at z; cases z
/-- THE END of a law row -/
theorem walk_g {l : PySem.W.OpenLaw} {n k : Nat} {q : Program} {loose : List Str} {XP : (Str → Option Value) → Heap → Prop} {YP : World → Heap → Prop} {d : DefRec} {K : Params → PySem.W.Frag} {x : Str}
    (hn : l.most = some n) (hn2 : n ≤ sizeLine) (hdf : d.params.defaults = []) (hr : Room k callerA) (hY : ∀ (w : World) (h : Heap), YP w h → (K w.params).In h)
    (F : ∀ (w : World) (mg : Str → Option Value) (fa : Addr) (h : Heap), (K w.params).In h → h.Ns mainGlobals mg → mg d.name = some (.ref fa) →
      ∃ (fd : FuncData) (m : Fs), (∀ (s : Shared) (u : Value), BindsTo s fd ⟨[u], []⟩ [(x, u)]) ∧ (∀ ns : List Int, ns.length ≤ n → ∃ L, m [.d (.scr ns)] [] = .ok (.d (.bl true)) L) ∧
        ∀ base : Heap, (K w.params).In base → base.Ns mainGlobals mg → FnG l.prog w (K w.params) mg base k fa fd [x] (SpOf (K w.params) 1 m)) :
    PySem.W.WalkO q loose XP YP l.row.toRowW d [] (fun f vs => PySem.call f vs) :=
  Att.attach_call hn hdf fun w s0 s1 mg mb fa o pm cd doc a vs ns G Y ho hd hcd hmg hobj hints hlen hg => by
    obtain ⟨fd, m, b, hm, hF⟩ := F w mg fa _ (hY w _ Y) G.T.g hmg
    exact end_law (hY w _ Y) G.T.g G.T.b G.T.builtins G.T.nolimit hg hobj hints (Nat.le_trans hlen hn2) ⟨hr, rfl⟩ hF b (hm ns hlen)
end MP
namespace MP
open PySem PySem.Spec PyProof.Rows L2
/-! ### comparisons as tests -/
def IsBl (f : D → D → Option D) : Prop := ∀ x y z, f x y = some z → ∃ b, z = .bl b
section
variable {X : Cx} {Wx : WX} {a b : Expr} {ma mb : EM} {pos : Pos}
theorem rt_cmp {op : CmpOp} {r : R2} {f : D → D → Option D} (ho : OpR X (compareOp op) r) (hs : Op2 X.K f r) (hf : IsBl f) (ha : RE X Wx a ma) (hb : RE X Wx b mb) (hm : behindInMarks op b = false) : RT X Wx (.Compare a [op] [b] pos) (tst (m2 f ma mb)) := by
  refine (pt_cmpR ho ha hb hm).imp fun σ H Q ⟨env, L, I, μ, er, hr, h⟩ => ?_
  have e0 : tst (m2 f ma mb) env L = (ma env L).bind fun x L1 => (mb env L1).bind fun y L2 => (pureD L2 ((rd L2 x).bind fun x => (rd L2 y).bind fun y => f x y)).bind fun z L3 => match (rd L3 z).bind trD with
    | some b => .ok b L3
    | none => .bad := by
    unfold tst m2
    cases ma env L with
    | ok x L1 =>
      simp only [Res.bind]
      cases mb env L1 with
      | ok y L2 =>
        simp only [Res.bind]
        try (generalize pureD L2 ((rd L2 x).bind fun x => (rd L2 y).bind fun y => f x y) = r; cases r <;> rfl)
      | exc c th L2 => rfl
      | bad => rfl
    | exc c th L1 => rfl
    | bad => rfl
  rw [e0] at h
  refine (TG.seq er hr h).imp fun v1 H1 ⟨L1, I1, μ1, w1, e1, er1, hr1, r1, h1⟩ => ?_
  refine (TG.seq er1 hr1 h1).imp fun v2 H2 ⟨L2, I2, μ2, w2, e2, er2, hr2, r2, h2⟩ => ?_
  cases ex : rd L2 w1 with
  | none => rw [ex] at h2; exact h2.elim
  | some x =>
    cases ey : rd L2 w2 with
    | none => rw [ex, ey] at h2; exact h2.elim
    | some y =>
      rw [ex, ey] at h2
      simp only [Option.bind_some] at h2
      cases ez : f x y with
      | none => rw [ez] at h2; exact h2.elim
      | some z =>
        rw [ez] at h2
        obtain ⟨k, rfl⟩ := hf _ _ _ ez
        refine hs I2 H2 x y (.bl k) v1 v2 _ hr2.sub ez (hr2.rd (r1.mono e2) ex) (hr2.rd r2 ey) fun I' H' v' g rz => ?_
        cases rz
        exact ⟨k, rfl, h2 I' μ2 k H' (Ext.of μ2 (g.same hr2.sub).1) (g.hr hr2) rfl⟩
theorem bl_lt : IsBl ltD := fun x y z h => by
  unfold ltD at h
  split at h
  · cases h; exact ⟨_, rfl⟩
  · rename_i xs ys
    cases ex : intsD xs with
    | none => rw [ex] at h; cases h
    | some a =>
      cases ey : intsD ys with
      | none => rw [ex, ey] at h; cases h
      | some b => rw [ex, ey] at h; cases h; exact ⟨_, rfl⟩
  · cases h
theorem bl_le : IsBl leD := fun x y z h => by unfold leD at h; split at h; cases h; exact ⟨_, rfl⟩; cases h
theorem bl_gt : IsBl gtD := fun x y z h => by unfold gtD at h; split at h; cases h; exact ⟨_, rfl⟩; cases h
theorem bl_ge : IsBl geD := fun x y z h => by unfold geD at h; split at h; cases h; exact ⟨_, rfl⟩; cases h
theorem bl_eqG : IsBl eqG := fun x y z h => by
  unfold eqG at h
  cases ex : toP x with
  | none => rw [ex] at h; cases h
  | some a =>
    cases ey : toP y with
    | none => rw [ex, ey] at h; cases h
    | some b =>
      rw [ex, ey] at h
      simp only [Option.bind_some] at h
      split at h
      · cases h; exact ⟨_, rfl⟩
      · cases h
theorem bl_neG : IsBl neG := fun x y z h => by
  unfold neG at h
  cases ex : toP x with
  | none => rw [ex] at h; cases h
  | some a =>
    cases ey : toP y with
    | none => rw [ex, ey] at h; cases h
    | some b =>
      rw [ex, ey] at h
      simp only [Option.bind_some] at h
      split at h
      · cases h; exact ⟨_, rfl⟩
      · cases h
theorem bl_eq : IsBl eqD := fun x y z h => by
  unfold eqD at h
  split at h
  · cases h; exact ⟨_, rfl⟩
  · split at h
    · cases h; exact ⟨_, rfl⟩
    · exact bl_eqG _ _ _ h
  · split at h
    · cases h; exact ⟨_, rfl⟩
    · exact bl_eqG _ _ _ h
  · exact bl_eqG _ _ _ h
theorem bl_ne : IsBl neD := fun x y z h => by
  unfold neD at h
  split at h
  · cases h; exact ⟨_, rfl⟩
  · split at h
    · cases h; exact ⟨_, rfl⟩
    · exact bl_neG _ _ _ h
  · split at h
    · cases h; exact ⟨_, rfl⟩
    · exact bl_neG _ _ _ h
  · exact bl_neG _ _ _ h
theorem bl_inG {neg : Bool} : IsBl (inG neg) := fun x y z h => by
  unfold inG at h
  split at h
  · rename_i ys
    cases ex : toP x with
    | none => rw [ex] at h; cases h
    | some a =>
      cases ey : toPs ys with
      | none => rw [ex, ey] at h; cases h
      | some b =>
        rw [ex, ey] at h
        simp only [Option.bind_some] at h
        split at h
        · cases h; exact ⟨_, rfl⟩
        · cases h
  · cases h
theorem bl_in {neg : Bool} : IsBl (inL neg) := fun x y z h => by
  unfold inL at h
  split at h
  · rw [Option.map_eq_some_iff] at h; obtain ⟨_, _, rfl⟩ := h; exact ⟨_, rfl⟩
  · rw [Option.map_eq_some_iff] at h; obtain ⟨_, _, rfl⟩ := h; exact ⟨_, rfl⟩
  · exact bl_inG _ _ _ h
theorem rt_lt (hu : X.A.units < cLine) (ha : RE X Wx a ma) (hb : RE X Wx b mb) : RT X Wx (.Compare a [.Lt] [b] pos) (tst (m2 ltD ma mb)) := rt_cmp (op_lt.or (op_ltT hu)) s_lt bl_lt ha hb (nomark _)
theorem rt_le (ha : RE X Wx a ma) (hb : RE X Wx b mb) : RT X Wx (.Compare a [.LtE] [b] pos) (tst (m2 leD ma mb)) :=
  rt_cmp op_le (s_cmpI fun x y z h => by unfold leD at h; split at h; cases h; exact ⟨_, _, rfl, rfl, rfl⟩; cases h) bl_le ha hb (nomark _)
theorem rt_gt (ha : RE X Wx a ma) (hb : RE X Wx b mb) : RT X Wx (.Compare a [.Gt] [b] pos) (tst (m2 gtD ma mb)) :=
  rt_cmp op_gt (s_cmpI fun x y z h => by unfold gtD at h; split at h; cases h; exact ⟨_, _, rfl, rfl, rfl⟩; cases h) bl_gt ha hb (nomark _)
theorem rt_ge (ha : RE X Wx a ma) (hb : RE X Wx b mb) : RT X Wx (.Compare a [.GtE] [b] pos) (tst (m2 geD ma mb)) :=
  rt_cmp op_ge (s_cmpI fun x y z h => by unfold geD at h; split at h; cases h; exact ⟨_, _, rfl, rfl, rfl⟩; cases h) bl_ge ha hb (nomark _)
theorem rt_eq (hu : X.A.units + 64 < cLine) (ha : RE X Wx a ma) (hb : RE X Wx b mb) : RT X Wx (.Compare a [.Eq] [b] pos) (tst (m2 eqD ma mb)) := rt_cmp ((((op_eqD hu).or (op_eqLens hu)).or (op_eqTupE hu)).or op_eq) s_eq bl_eq ha hb (nomark _)
theorem rt_ne (hu : X.A.units + 64 < cLine) (ha : RE X Wx a ma) (hb : RE X Wx b mb) : RT X Wx (.Compare a [.NotEq] [b] pos) (tst (m2 neD ma mb)) := rt_cmp ((((op_neD hu).or (op_neLens hu)).or (op_neTupE hu)).or op_ne) s_ne bl_ne ha hb (nomark _)
theorem rt_inL (hu : X.A.units + 65 < cLine) (ha : RE X Wx a ma) (hb : RE X Wx b mb) (hm : behindInMarks .In b = false := by rfl) : RT X Wx (.Compare a [.In] [b] pos) (tst (m2 (inL false) ma mb)) := rt_cmp ((op_inD hu).or op_in_seq) (s_inAll s_inG) bl_in ha hb hm
theorem rt_ninL (hu : X.A.units + 65 < cLine) (ha : RE X Wx a ma) (hb : RE X Wx b mb) (hm : behindInMarks .NotIn b = false := by rfl) : RT X Wx (.Compare a [.NotIn] [b] pos) (tst (m2 (inL true) ma mb)) := rt_cmp ((op_notInD hu).or op_notIn_seq) (s_inAll s_ninG) bl_in ha hb hm
theorem t_isN {neg : Bool} {σ : L2.St} {H : Hp} {Q : Bool → Hp → Prop} (h : TB X.K Wx (tst (isN neg ma)) σ H Q) : T X.K Wx ma σ H fun x H1 => Q (if neg = true then !decide (x = .non) else decide (x = .non)) H1 := by
  obtain ⟨env, L, I, μ, er, hr, h⟩ := h
  have e0 : tst (isN neg ma) env L = (ma env L).bind fun x L1 => match x with
    | .d x => .ok (if neg = true then !x.isNon else x.isNon) L1
    | .loc _ => .ok (if neg = true then true else false) L1 := by
    unfold tst isN
    cases ma env L with
    | ok x L1 => cases x <;> rfl
    | exc c th L1 => rfl
    | bad => rfl
  rw [e0] at h
  refine (TG.seq er hr h).imp fun v H1 ⟨L1, I1, μ1, w1, e1, er1, hr1, r1, h1⟩ => ?_
  cases r1 with
  | d r => rw [non_iff r]; exact TG.ret h1 hr1 rfl
  | loc r => exact TG.ret h1 hr1 rfl
theorem rt_isN {pos' : Pos} {k : _} (ha : RE X Wx a ma) : RT X Wx (.Compare a [.Is] [.Constant .none k pos'] pos) (tst (isN false ma)) :=
  (pt_cmp (pc_isN ha)).imp fun σ H Q h => (t_isN h).imp fun x H1 q => ⟨_, rfl, q⟩
theorem rt_notN {pos' : Pos} {k : _} (ha : RE X Wx a ma) : RT X Wx (.Compare a [.IsNot] [.Constant .none k pos'] pos) (tst (isN true ma)) :=
  (pt_cmp (pc_notN ha)).imp fun σ H Q h => (t_isN h).imp fun x H1 q => ⟨_, rfl, q⟩
theorem rt_w {e : Expr} {m : BM} (h : RWT X Wx e m) : RT X Wx e m := h.pt
end
def sNever : SM := fun _ _ => .bad
theorem rs_never {X : Cx} {Wx : WX} {st : Stmt} : RS X Wx st sNever := ps_never.imp fun D σ H ⟨_, _, _, _, _, _, h⟩ => h.elim
/-! room, in short -/
section
variable {k : Nat} {A : Around}
theorem Rm.u0 (r : Rm k A) : A.units < cLine := r.r.units0
theorem Rm.u1 (r : Rm k A) : A.units + 1 < cLine := Nat.lt_of_le_of_lt (Nat.add_le_add_left (by decide : 1 ≤ 64) _) r.r.units
theorem Rm.u64 (r : Rm k A) : A.units + 64 < cLine := r.r.units
theorem Rm.u65 (r : Rm k A) : A.units + 65 < cLine := by
  have h := r.r.un
  omega
end
/-! a def that calls itself -/
theorem fx_bad {P : Program} {w : World} {K : PySem.W.Frag} {mg : Str → Option Value} {base : Heap} {x qual : Str} {st : Stmt} {f : Addr} {fd : FuncData} {ps : List Str} {k : Nat} (F : Fun K x qual st f fd)
    (b : ∀ (kV doc pm : Value) (an : Option Addr) (cdv ct : Value) (us : List Value), us.length = ps.length → bindArgs (PySem.W.fnOf x qual (defArgs st) (defBody st) (defScope st) .none kV doc pm an cdv ct) ⟨us, []⟩ = pure (ps.zip us)) : Fx P w K mg base k f fd ps (fun _ _ => .bad) :=
  ⟨⟨fun vs H Q E ⟨ws, L, I, μ, hl, r, _⟩ => by rw [← r.length]; exact hl, fun A outer s H args us vs Q E hr e0 hb r ⟨_, _, _, _, _, _, _, h⟩ => h.elim⟩, F.binds b, F.kp⟩
end MP
namespace MP
open PySem PySem.Spec PyProof.Rows L2
/-! ### i ** j, str(int) -/
def powD : D → D → Option D
  | .int i, .int j => if 0 ≤ j ∧ j ≤ 1000000 ∧ i.natAbs < 2 ^ 64 then some (.int (i ^ j.toNat)) else none
  | _, _ => none
section
variable {X : Cx} {Wx : WX} {a b : Expr} {ma mb : EM} {pos : Pos}
theorem s_pow {K : PySem.W.Frag} : Op2 K powD (rI CPow fun i j => .int (i ^ j.toNat)) := by
  intro I H x y z v u Q s e rx ry q
  unfold powD at e
  split at e
  · cases (rx : RD _ _ _ _)
    cases (ry : RD _ _ _ _)
    split at e
    · rename_i c
      cases e
      exact ⟨_, _, rfl, rfl, c, q _ _ _ .refl (.int _)⟩
    · cases e
  · cases e
theorem re_pow (ha : RE X Wx a ma) (hb : RE X Wx b mb) : RE X Wx (.BinOp a .Pow b pos) (m2 powD ma mb) := re_op op_pow s_pow ha hb
def strID : List D → Option D
  | [.int i] => if i.natAbs.log2 < 1920 then some (.str (toString i)) else none
  | _ => none
theorem o_strI {K : PySem.W.Frag} : OpN K strID (fun xs H Q => ∃ i, xs = [.int i] ∧ i.natAbs.log2 < 1920 ∧ Q (.str (toString i)) H) := by
  intro I H xs z vs Q s e r q
  unfold strID at e
  split at e
  · cases r with | cons r1 rt =>
    cases rt
    cases (r1 : RD _ _ _ _)
    split at e
    · rename_i c
      cases e
      exact ⟨_, rfl, c, q _ _ _ .refl (.str _)⟩
    · cases e
  · cases e

/-! ### t[::-1] of a tuple -/
end
section
variable {prog : Program} {w : World} {A : Around} {E : Value → Shared → Prop} {s : Shared}
theorem applied_rev {sl : Addr} {vl vu vs : Value} {n : Nat} {Q : Int × Int × Nat → Shared → Prop} (hs : s.heap.IsSliceOf sl vl vu vs) (pl : IsPart vl none) (pu : IsPart vu none) (ps : IsPart vs (some (-1)))
    (h : Q ((n : Int) - 1, -1, n) s) : wpAny (model prog w) A (Builtin.Slice.sliceApplied (.ref sl) (pure (n : Int))) Q E s := by
  obtain ⟨os, hos, hcs, hds⟩ := id hs
  unfold Builtin.Slice.sliceApplied Builtin.Slice.sliceFields
  refine wpAny_bind (wpAny_bind (wpAny_field hos hds (x := vl) rfl (wpAny_bind (wpAny_field hos hds (x := vu) rfl (wpAny_bind (wpAny_field hos hds (x := vs) rfl (wpAny_pure ?_)))))))
  refine wpAny_bind (HT.slicePart_ ps ?_)
  show wpAny _ _ (if ((-1 : Int) == 0) = true then _ else _) _ _ s
  rw [if_neg (by decide)]
  refine wpAny_bind (HT.slicePart_ pl (wpAny_bind (HT.slicePart_ pu (wpAny_bind (wpAny_pure ?_)))))
  show wpAny _ _ (pure ((n : Int) - 1, (-1 : Int), Builtin.Slice.slicePlaces ((n : Int) - 1) (-1) (-1))) _ _ s
  have e : Builtin.Slice.slicePlaces ((n : Int) - 1) (-1) (-1) = n := by
    unfold Builtin.Slice.slicePlaces
    rw [if_neg (by decide)]
    by_cases h0 : (n : Int) - 1 > -1
    · rw [if_pos h0, show (- -1 : Int) = 1 by decide, Int.ediv_one]; omega
    · rw [if_neg h0]; omega
  rw [e]
  exact wpAny_pure h
theorem pick_rev (xs : Array Value) : ((List.range xs.size).filterMap fun (m : Nat) => xs[(((xs.size : Int) - 1) + (m : Int) * (-1)).toNat]?).toArray = xs.toList.reverse.toArray := by
  have e : ((List.range xs.size).filterMap fun (m : Nat) => xs[(((xs.size : Int) - 1) + (m : Int) * (-1)).toNat]?) = ((List.range xs.size).map fun k => xs.size - 1 - k).filterMap (xs[·]?) := by
    rw [List.filterMap_map]
    have go : ∀ l : List Nat, (∀ m ∈ l, m < xs.size) → (l.filterMap fun (m : Nat) => xs[(((xs.size : Int) - 1) + (m : Int) * (-1)).toNat]?) = l.filterMap ((xs[·]?) ∘ fun k => xs.size - 1 - k) := by
      intro l
      induction l with
      | nil => intro _; rfl
      | cons m r ih =>
        intro h
        have hm := h m List.mem_cons_self
        have e : (((xs.size : Int) - 1) + (m : Int) * (-1)).toNat = xs.size - 1 - m := by omega
        rw [List.filterMap_cons, List.filterMap_cons, e, ih fun k hk => h k (List.mem_cons_of_mem _ hk)]
        rfl
    exact go _ fun m hm => List.mem_range.mp hm
  rw [e, PySem.W.krv_range, List.filterMap_reverse, PySem.W.krv_all]
theorem getItem_tup_rev {t sl : Addr} {items : Array Value} {vl vu vs : Value} {Q : Value → Shared → Prop} (ht : IsTup s.heap t items) (hs : s.heap.IsSliceOf sl vl vu vs) (pl : IsPart vl none) (pu : IsPart vu none) (ps : IsPart vs (some (-1)))
    (h : Q (.ref s.heap.objs.size) { s with heap := s.heap.push { cls := .type "tuple", data := .seq items.toList.reverse.toArray } }) (hsz : items.size ≤ sizeLine) : wpAny (model prog w) A (getItem (.ref t) (.ref sl)) Q E s := by
  have htake : sizeOk (.seq items.toList.reverse.toArray) := by
    show items.toList.reverse.toArray.size ≤ sizeLine
    rw [List.size_toArray, List.length_reverse, Array.length_toList]
    exact hsz
  obtain ⟨os, hos, hcs, hds⟩ := id hs
  have hTs : s.TypeIs (.ref sl) "slice" := ⟨os, hos, hcs⟩
  unfold getItem
  try with_reducible refine wpAny_holding ?_
  first | refine wpAny_bind (wpAny_pure ?_) | skip
  refine wpAny_bind (wpAny_sequenceKey ht.typeIs (by decide) ?_)
  refine wpAny_bind (wpAny_callSpecial?_slot (name := Str.ofString "__getitem__") ht.typeIs PyProof.Rows.slot_tuple_getitem (wpAny_call_entry PyProof.Rows.slot_tuple_getitem ht.typeIs entry_tuple_getitem ?_ (args_tuple_getitem _ _)))
  show wpAny _ _ (Builtin.Tuple.tupleItemsOf (.ref t) >>= _) _ _ s
  refine wpAny_bind (tupleItemsOf_ ht (wpAny_bind (wpAny_typeOf hTs ?_)))
  rw [if_pos (by decide)]
  refine wpAny_bind (applied_rev hs pl pu ps ?_)
  show wpAny _ _ (if (((items.size : Int) - 1) == 0 && (-1 : Int) == 1 && items.size == items.size) = true then _ else _) _ _ s
  rw [if_neg (by simp), pick_rev]
  first
    | exact wpAny_bind (m := Builtin.Tuple.tupleExact _) (wpAny_newObj_type (wpAny_pure ⟨_, rfl, wpAny_pure h⟩) htake)
    | exact wpAny_bind (m := Builtin.Tuple.tupleExact _) (wpAny_newObj_type (wpAny_bind (wpAny_pure (wpAny_pure ⟨_, rfl, wpAny_pure h⟩))) htake)
    | exact wpAny_bind (wpAny_bind (m := Builtin.Tuple.tupleExact _) (wpAny_newObj_type (wpAny_pure (wpAny_pure ⟨_, rfl, wpAny_pure h⟩)) htake))
    | exact wpAny_bind (wpAny_bind (m := Builtin.Tuple.tupleExact _) (wpAny_newObj_type (wpAny_pure ⟨_, rfl, wpAny_pure h⟩) htake))
end
section
variable {X : Cx} {Wx : WX} {a b : Expr} {ma mb : EM} {pos : Pos}
def tRevT (K : PySem.W.Frag) (te : L2.TE) : L2.TE := fun σ H Q => te σ H fun x H1 => ∃ a xs, x = .ref a ∧ SqT K H1 a xs ∧ ∀ p, H1 p = none → Q (.ref p) (upd H1 p (.tup xs.reverse))
theorem pe_revT {e : Expr} {te : L2.TE} {k : _} {p1 p2 p3 : Pos} (he : PE X e te) : PE X (.Subscript e (.Slice none none (some (.UnaryOp .USub (.Constant (.int 1) k p1) p2)) p3) pos) (tRevT X.K te) := by
  refine ⟨fun pins s σ H Q I h => Subscript_ (thn (he.run pins s σ H _ I h) fun v s1 ⟨x, H1, I1, r1, a, xs, ex, hx, q⟩ => ?_)⟩
  subst ex
  cases r1
  have hst : PO X (some (.UnaryOp .USub (.Constant (.int 1) k p1) p2)) (tPart (tUn (rU fun i => .int (-i)) (tC (.int 1)))) := po_some (pe_un un_neg pe_int)
  refine wpAny_Slice (thn (po_none.run pins s1 σ H1 (fun o H2 => o = none ∧ H2 = H1) I1 ⟨rfl, rfl⟩) fun vl s2 ⟨l, H2, I2, pl, el, e2⟩ => ?_)
  subst el e2
  refine thn (po_none.run pins s2 σ H2 (fun o H3 => o = none ∧ H3 = H2) I2 ⟨rfl, rfl⟩) fun vu s3 ⟨u, H3, I3, pu, eu, e3⟩ => ?_
  subst eu e3
  refine thn (hst.run pins s3 σ H3 (fun o H4 => o = some (-1) ∧ H4 = H3) I3 ⟨1, rfl, -1, rfl, rfl, rfl⟩) fun vs s4 ⟨o, H4, I4, ps, eo, e4⟩ => ?_
  subst eo e4
  have I5 : Inv X pins σ H4 { s4 with heap := s4.heap.push { cls := .type "slice", data := .fields #[vl, vu, vs] } } := I4.kept (t' := s4.toks) fun b ob q => Heap.get?_push_of_some _ q
  obtain ⟨its, r, ht, hz⟩ := I5.tuple hx
  have hlen := r.length
  show wpAny (model X.prog X.w) X.A (subscriptTail e (.Slice none none (some (.UnaryOp .USub (.Constant (.int 1) k p1) p2)) p3) (.ref a) (.ref s4.heap.objs.size)) (EP X pins σ Q) X.xe { s4 with heap := s4.heap.push { cls := .type "slice", data := .fields #[vl, vu, vs] } }
  refine tail_any (ops := [.ref a, .ref s4.heap.objs.size]) ht.typeIs (PyProof.Rows.slot_tuple_getitem.lookup) ?_ (by with_unfolding_all rfl)
  refine getItem_tup_rev ht (Heap.IsSliceOf.new _ vl vu vs) pl pu ps ?_ (by rw [List.size_toArray]; omega)
  refine ⟨.ref _, _, I5.laid (t' := s4.toks) (o := .tup xs.reverse) (fun b ob q => Heap.get?_push_of_some _ q) (Nat.le_refl _) ?_, rfl, q _ (I5.hok.fresh (Nat.le_refl _))⟩
  exact ⟨by rw [List.length_reverse]; exact hz, its.reverse, r.reverse, ⟨_, Heap.get?_push_size _ rfl, rfl, _, rfl⟩⟩
def revD2 : D → Option D
  | .lst xs => some (.lst xs.reverse)
  | .tup xs => some (.tup xs.reverse)
  | _ => none
theorem re_rev2 {p1 p2 p3 : Pos} {kk : _} (ha : RE X Wx a ma) : RE X Wx (.Subscript a (.Slice none none (some (.UnaryOp .USub (.Constant (.int 1) kk p1) p2)) p3) pos) (m1 revD2 ma) := by
  refine ((pe_revL ha).or (pe_revT ha)).imp fun σ H Q ⟨env, L, I, μ, er, hr, h⟩ => ?_
  by_cases hd : ∃ w L1, ma env L = .ok w L1 ∧ isTupW L1 w = true
  · right
    obtain ⟨w, L1, ea, ht⟩ := hd
    refine (TG.seq' er hr h).imp fun v1 H1 ⟨L1', I1, μ1, w1, e1, er1, hr1, r1, h1, q1⟩ => ?_
    rw [ea] at q1; cases q1
    unfold isTupW at ht
    split at ht
    · rename_i xs ex
      rw [ex, Option.bind_some] at h1
      cases (hr1.rd r1 ex : RD _ _ _ _) with | tup hp rp =>
      exact ⟨_, _, rfl, sqT_mono hr1.sub hp, fun q hq => Post.pure h1 hr1 _ _ _ (.one _ hq) (.tup (.of upd_same) (rp.reverse.mono (same_upd (hr1.sub.free hq))))⟩
    · cases ht
  · left
    refine (TG.seq' er hr h).imp fun v1 H1 ⟨L1, I1, μ1, w1, e1, er1, hr1, r1, h1, q1⟩ => ?_
    cases ex : rd L1 w1 with
    | none => rw [ex] at h1; exact h1.elim
    | some x =>
      rw [ex, Option.bind_some] at h1
      have rx := hr1.rd r1 ex
      cases x with
      | lst xs =>
        obtain ⟨p, vs, rfl, hp, rp⟩ := rx
        exact ⟨p, vs, rfl, .of hp, fun q hq => Post.pure h1 hr1 _ _ _ (.one _ hq) (.lst upd_same (rp.reverse.mono (same_upd (hr1.sub.free hq))))⟩
      | tup xs => exact (hd ⟨w1, L1, q1, by simp [isTupW, ex]⟩).elim
      | _ => exact h1.elim
end
/-- the addresses of the classes -/
structure Cst where
  cLine : Addr
  cPath : Addr
  cPiece : Addr
end MP
namespace MP
open PySem PySem.Spec PyProof.Rows L2
/-! ### what the meanings come to, step by step -/
def Wp {α : Type} (r : Res α) (Q : α → LH → Prop) : Prop := match r with
  | .ok a L => Q a L
  | _ => False
def WpO {α : Type} (r : Option α) (Q : α → Prop) : Prop := match r with
  | some a => Q a
  | none => False
structure Qs where
  nx : Ev → LH → Prop
  rt : W → LH → Prop
  bk : Ev → LH → Prop := fun _ _ => False
  ct : Ev → LH → Prop := fun _ _ => False
def WpS (r : SR) (Q : Qs) : Prop := match r with
  | .nx e L => Q.nx e L
  | .rt w L => Q.rt w L
  | .bk e L => Q.bk e L
  | .ct e L => Q.ct e L
  | _ => False
section
variable {α β : Type} {r : Res α} {Q Q' : α → LH → Prop} {L : LH} {env : Ev}
theorem wp_ok {a : α} : Wp (.ok a L) Q = Q a L := rfl
theorem wpo_some {a : α} {Q : α → Prop} : WpO (some a) Q = Q a := rfl
theorem wpo_none {Q : α → Prop} : WpO (none : Option α) Q = False := rfl
theorem wp_bind {k : α → LH → Res β} {Q : β → LH → Prop} : Wp (r.bind k) Q = Wp r fun a L => Wp (k a L) Q := by cases r <;> rfl
theorem wp_ofE {k : α → LH → SR} {Q : Qs} : WpS (ofE r env k) Q = Wp r fun a L => WpS (k a L) Q := by cases r <;> rfl
theorem Wp.imp (h : Wp r Q) (i : ∀ a L, Q a L → Q' a L) : Wp r Q' := by cases r with | ok a L => exact i _ _ h | exc _ _ _ => exact h | bad => exact h
theorem wp_eq {a : α} (h : r = .ok a L) : Wp r Q = Q a L := by rw [h]; rfl
theorem Wp.of (h : Wp r Q) : ∃ a L, r = .ok a L ∧ Q a L := by cases r with | ok a L => exact ⟨a, L, rfl, h⟩ | exc _ _ _ => exact h.elim | bad => exact h.elim
theorem WpS.imp {r : SR} {Q Q' : Qs} (h : WpS r Q) (h1 : ∀ e L, Q.nx e L → Q'.nx e L) (h2 : ∀ w L, Q.rt w L → Q'.rt w L) (h3 : ∀ e L, Q.bk e L → Q'.bk e L) (h4 : ∀ e L, Q.ct e L → Q'.ct e L) : WpS r Q' := by
  cases r with
  | nx e L => exact h1 _ _ h
  | rt e L => exact h2 _ _ h
  | bk e L => exact h3 _ _ h
  | ct e L => exact h4 _ _ h
  | exc _ _ _ _ => exact h
  | bad => exact h
end
section
variable {a b : EM} {as : AM} {c d : BM} {env : Ev} {L : LH} {Q : W → LH → Prop} {B : Bool → LH → Prop} {A : List W → LH → Prop} {S : Qs}
theorem rd_d {x : D} : rd L (.d x) = some x := rfl
theorem wp_pureD {o : Option D} : Wp (pureD L o) Q = WpO o fun z => Q (.d z) L := by cases o <;> rfl
theorem wp_mD {x : D} : Wp (mD x env L) Q = Q (.d x) L := rfl
theorem wp_m1 {f : D → Option D} : Wp (m1 f a env L) Q = Wp (a env L) fun x L1 => WpO ((rd L1 x).bind f) fun z => Q (.d z) L1 := by simp only [m1, wp_bind, wp_pureD]
theorem wp_m2 {f : D → D → Option D} : Wp (m2 f a b env L) Q = Wp (a env L) fun x L1 => Wp (b env L1) fun y L2 => WpO ((rd L2 x).bind fun x => (rd L2 y).bind fun y => f x y) fun z => Q (.d z) L2 := by simp only [m2, wp_bind, wp_pureD]
theorem wp_mB {f : List D → Option D} : Wp (mB f as env L) Q = Wp (as env L) fun ws L1 => WpO ((rds L1 ws).bind f) fun z => Q (.d z) L1 := by simp only [mB, wp_bind, wp_pureD]
theorem wp_nil : Wp (aNil env L) A = A [] L := rfl
theorem wp_cons : Wp (aCons a as env L) A = Wp (a env L) fun x L1 => Wp (as env L1) fun xs L2 => A (x :: xs) L2 := by simp only [aCons, wp_bind]; rfl
theorem wp_tup : Wp (mTup as env L) Q = Wp (as env L) fun ws L1 => WpO (fzs L1 ws) fun p => p.1.length ≤ sizeLine ∧ Q (.d (.tup p.1)) p.2 := by
  simp only [mTup, wp_bind]
  congr 1
  funext ws L1
  cases fzs L1 ws with
  | none => rfl
  | some p =>
    simp only [WpO]
    split
    · rename_i h; simp [Wp, h]
    · rename_i h; simp only [Wp, h, false_and]
theorem wp_lst : Wp (mLst as env L) Q = Wp (as env L) fun ws L1 => WpO (fzs L1 ws) fun p => p.1.length ≤ sizeLine ∧ Q (.d (.lst p.1)) p.2 := by
  simp only [mLst, wp_bind]
  congr 1
  funext ws L1
  cases fzs L1 ws with
  | none => rfl
  | some p =>
    simp only [WpO]
    split
    · rename_i h; simp [Wp, h]
    · rename_i h; simp only [Wp, h, false_and]
theorem wp_lstM : Wp (mLstM as env L) Q = Wp (as env L) fun ws L1 => WpO (fzs L1 ws) fun p => p.1.length ≤ sizeLine ∧ Q (.loc p.2.length) (p.2 ++ [.lst p.1]) := by
  simp only [mLstM, wp_bind]
  congr 1
  funext ws L1
  cases fzs L1 ws with
  | none => rfl
  | some p =>
    simp only [WpO]
    split
    · rename_i h; simp [Wp, h]
    · rename_i h; simp only [Wp, h, false_and]
theorem wp_ix : Wp (mIx a b env L) Q = Wp (a env L) fun x L1 => Wp (b env L1) fun y L2 => Wp (ixW L2 x y) Q := by simp only [mIx, wp_bind]
theorem wp_sl {l u : OM} : Wp (mSl a l u env L) Q = Wp (a env L) fun x L1 => Wp (l env L1) fun lo L2 => Wp (u env L2) fun hi L3 => WpO ((rd L3 x).bind fun x => slD x lo hi) fun z => Q (.d z) L3 := by simp only [mSl, wp_bind, wp_pureD]
theorem wp_oN {O : Option Int → LH → Prop} : Wp (oNone env L) O = O none L := rfl
theorem wp_call {f : Fs} : Wp (mCall f as env L) Q = Wp (as env L) fun ws L1 => Wp (f ws L1) Q := by simp only [mCall, wp_bind]
theorem wp_callK {f : Fs} {ps ks : List Str} : Wp (mCallK f ps ks as env L) Q = Wp (as env L) fun ws L1 => (pick ps ks ws).length = ps.length ∧ Wp (f (pick ps ks ws) L1) Q := by
  simp only [mCallK, wp_bind]
  congr 1
  funext ws L1
  split <;> simp_all [Wp]
theorem wp_ifV : Wp (ifV c a b env L) Q = Wp (c env L) fun x L1 => if x = true then Wp (a env L1) Q else Wp (b env L1) Q := by
  simp only [ifV, wp_bind]
  congr 1
  funext x L1
  split <;> rfl
theorem wp_tst : Wp (tst a env L) B = Wp (a env L) fun x L1 => WpO ((rd L1 x).bind trD) fun b => B b L1 := by
  simp only [tst, wp_bind]
  congr 1
  funext x L1
  cases (rd L1 x).bind trD <;> rfl
theorem wp_tAnd : Wp (tAndM c d env L) B = Wp (c env L) fun x L1 => if x = true then Wp (d env L1) B else B false L1 := by
  simp only [tAndM, wp_bind]
  congr 1
  funext x L1
  split <;> rfl
theorem wp_tOr : Wp (tOrM c d env L) B = Wp (c env L) fun x L1 => if x = true then B true L1 else Wp (d env L1) B := by
  simp only [tOrM, wp_bind]
  congr 1
  funext x L1
  split <;> rfl
theorem wp_tNot : Wp (tNotM c env L) B = Wp (c env L) fun x L1 => B (!x) L1 := by
  simp only [tNotM, wp_bind]; rfl
theorem wps_nil : WpS (sNil env L) S = S.nx env L := rfl
theorem wps_brk : WpS (sBreak env L) S = S.bk env L := rfl
theorem wps_cnt : WpS (sCont env L) S = S.ct env L := rfl
theorem wps_seq {m n : SM} : WpS (sSeq m n env L) S = WpS (m env L) { S with nx := fun e L' => WpS (n e L') S } := by
  unfold sSeq
  cases m env L <;> rfl
theorem wps_ret : WpS (sRet a env L) S = Wp (a env L) S.rt := by simp only [sRet, wp_ofE]; rfl
theorem wps_retN : WpS (sRetN env L) S = S.rt (.d .non) L := rfl
theorem wps_exp : WpS (sExpr a env L) S = Wp (a env L) fun _ L1 => S.nx env L1 := by simp only [sExpr, wp_ofE]; rfl
theorem wps_if {m n : SM} : WpS (sIf c m n env L) S = Wp (c env L) fun x L1 => if x = true then WpS (m env L1) S else WpS (n env L1) S := by
  simp only [sIf, wp_ofE]
  congr 1
  funext x L1
  split <;> rfl
theorem wps_asg {g : GM} : WpS (sAsg a g env L) S = Wp (a env L) fun w L1 => WpO (g L1 w env) fun e => S.nx e L1 := by
  simp only [sAsg, wp_ofE]
  congr 1
  funext w L1
  cases g L1 w env <;> rfl
theorem gnm {i : Nat} {w : W} : gNm i L w env = some (env.set i (some w)) := rfl
theorem wps_for {im : IM} {g : GM} {body : SM} : WpS (sFor im g body env L) S = Wp (im env L) fun its L1 => WpS (forM g body its its.items env L1) S := by simp only [sFor, wp_ofE]
theorem Keep.refl' : Keep L.length L L := ⟨Nat.le_refl _, fun _ _ => .inl rfl⟩
/-- the end of a def -/
theorem wp_fnS {n : Nat} {m : SM} {ws : List W} : Wp (fnS n m ws L) Q = WpS (m (startE n ws) L) ⟨fun _ L' => Keep L.length L L' ∧ Q (.d .non) (L'.take L.length), fun w L' => Keep L.length L L' ∧ WpO (retW L.length L' w) fun w' => Q w' (L'.take L.length), fun _ _ => False, fun _ _ => False⟩ := by
  unfold fnS finish
  cases m (startE n ws) L with
  | nx e L' =>
    dsimp only [WpS]
    split <;> simp_all [Wp]
  | rt w L' =>
    dsimp only [WpS]
    split
    · rename_i hk
      cases retW L.length L' w <;> simp_all [Wp, WpO]
    · simp_all [Wp]
  | bk e L' => rfl
  | ct e L' => rfl
  | exc c th e L' =>
    dsimp only [WpS]
    split <;> rfl
  | bad => rfl
theorem wp_fnK {n : Nat} {m : SM} {ws : List W} : Wp (fnK n m ws L) Q = WpS (m (startE n ws) L) ⟨fun _ L' => Q (.d .non) L', Q, fun _ _ => False, fun _ _ => False⟩ := by
  unfold fnK finishK
  cases m (startE n ws) L <;> rfl
theorem ret_d {n : Nat} {x : D} : retW n L (.d x) = some (.d x) := rfl
theorem ret_lst {xs : List D} : retW L.length (L ++ [.lst xs]) (.loc L.length) = some (.d (.lst xs)) := by
  simp [retW, deep]
theorem ret_in {n k : Nat} (h : k < n) : retW n L (.loc k) = some (.loc k) := by simp [retW, h]
theorem keep_refl : Keep L.length L L = True := by simp [Keep.refl']
theorem keep_app {L2 : LH} : Keep L.length L (L ++ L2) = True := by simp [Keep.same]
end
/-- a loop, by what stands ahead of each turn -/
theorem forM_inv {g : GM} {body : SM} {its : Its} {S : Qs} (J : List D → Ev → LH → Prop) (h1 : ∀ x r env L, J (x :: r) env L → its.same L ∧ WpO (g L (.d x) env) fun e => WpS (body e L) { nx := J r, ct := J r, bk := S.nx, rt := S.rt })
    (h2 : ∀ env L, J [] env L → its.same L ∧ S.nx env L) : ∀ (xs : List D) (env : Ev) (L : LH), J xs env L → WpS (forM g body its xs env L) S
  | [], env, L, h => by
    obtain ⟨a, b⟩ := h2 env L h
    unfold forM
    rw [if_pos a]
    exact b
  | x :: r, env, L, h => by
    obtain ⟨a, b⟩ := h1 x r env L h
    unfold forM
    rw [if_pos a]
    cases q : g L (.d x) env with
    | none => rw [q] at b; exact b.elim
    | some e =>
      rw [q] at b
      dsimp only [WpO] at b ⊢
      cases q2 : body e L with
      | nx e L' => rw [q2] at b; exact forM_inv J h1 h2 r e L' b
      | ct e L' => rw [q2] at b; exact forM_inv J h1 h2 r e L' b
      | bk e L' => rw [q2] at b; exact b
      | rt e L' => rw [q2] at b; exact b
      | exc _ _ _ _ => rw [q2] at b; exact b
      | bad => rw [q2] at b; exact b
/-- a while loop, by what stands ahead of each turn and what falls -/
theorem while_inv {c : BM} {body : SM} {S : Qs} (J : Nat → Ev → LH → Prop) (h : ∀ n env L, J n env L → Wp (c env L) fun b L1 => if b = true then WpS (body env L1) { nx := fun e L' => ∃ m, m < n ∧ J m e L', ct := fun e L' => ∃ m, m < n ∧ J m e L', bk := S.nx, rt := S.rt } else S.nx env L1) :
    ∀ (n : Nat) (env : Ev) (L : LH), J n env L → WpS (sWhile c body env L) S := by
  have key : ∀ (n : Nat) (env : Ev) (L : LH), J n env L → ∃ k, whileN c body k env L ≠ .bad ∧ WpS (whileN c body k env L) S := by
    intro n
    induction n using Nat.strongRecOn with
    | _ n ih =>
      intro env L hj
      have h1 := h n env L hj
      cases q : c env L with
      | exc _ _ _ => rw [q] at h1; exact h1.elim
      | bad => rw [q] at h1; exact h1.elim
      | ok b L1 =>
        rw [q] at h1
        dsimp only [Wp] at h1
        by_cases hb : b = true
        · rw [if_pos hb] at h1
          cases q2 : body env L1 with
          | nx e L' =>
            rw [q2] at h1
            obtain ⟨m, hm, hj'⟩ := h1
            obtain ⟨k, g1, g2⟩ := ih m hm e L' hj'
            have e1 : whileN c body (k + 1) env L = whileN c body k e L' := by simp [whileN, q, ofE, hb, q2]
            exact ⟨k + 1, by rw [e1]; exact g1, by rw [e1]; exact g2⟩
          | ct e L' =>
            rw [q2] at h1
            obtain ⟨m, hm, hj'⟩ := h1
            obtain ⟨k, g1, g2⟩ := ih m hm e L' hj'
            have e1 : whileN c body (k + 1) env L = whileN c body k e L' := by simp [whileN, q, ofE, hb, q2]
            exact ⟨k + 1, by rw [e1]; exact g1, by rw [e1]; exact g2⟩
          | bk e L' =>
            rw [q2] at h1
            have e1 : whileN c body 1 env L = .nx e L' := by simp [whileN, q, ofE, hb, q2]
            exact ⟨1, by rw [e1]; exact fun z => (nomatch z), by rw [e1]; exact h1⟩
          | rt w L' =>
            rw [q2] at h1
            have e1 : whileN c body 1 env L = .rt w L' := by simp [whileN, q, ofE, hb, q2]
            exact ⟨1, by rw [e1]; exact fun z => (nomatch z), by rw [e1]; exact h1⟩
          | exc _ _ _ _ => rw [q2] at h1; exact h1.elim
          | bad => rw [q2] at h1; exact h1.elim
        · rw [if_neg hb] at h1
          have e1 : whileN c body 1 env L = .nx env L1 := by simp [whileN, q, ofE, hb]
          exact ⟨1, by rw [e1]; exact fun z => (nomatch z), by rw [e1]; exact h1⟩
  intro n env L hj
  obtain ⟨k, g1, g2⟩ := key n env L hj
  rw [sWhile_of g1]
  exact g2
/-- a comprehension, by what stands ahead of each turn: what is left, what is made, the objects below -/
theorem wp_lc {im : IM} {g : GM} {tt : BM} {te : EM} {vs : List Nat} {env : Ev} {L : LH} {Q : W → LH → Prop}
    (h : Wp (im env L) fun its L1 => ∃ J : List D → List D → LH → Prop, J its.items [] L1 ∧
      (∀ x r acc L', J (x :: r) acc L' → L'.length = L1.length → its.same (L' ++ [.lst acc]) ∧ WpO (g (L' ++ [.lst acc]) (.d x) (wipeE env vs)) fun e => Wp (tt e (L' ++ [.lst acc])) fun b M => if b = true then
        Wp (te e M) fun y M2 => ∃ z L2, y = .d z ∧ M2 = L2 ++ [.lst acc] ∧ L2.length = L1.length ∧ acc.length < sizeLine ∧ J r (acc ++ [z]) L2 else ∃ L2, M = L2 ++ [.lst acc] ∧ L2.length = L1.length ∧ J r acc L2) ∧
      ∀ acc L', J [] acc L' → L'.length = L1.length → its.same (L' ++ [.lst acc]) ∧ Keep L1.length L1 L' ∧ Q (.d (.lst acc)) L') : Wp (mLc im g tt te vs env L) Q := by
  unfold mLc
  rw [wp_bind]
  refine h.imp fun its L1 ⟨J, h0, h1, h2⟩ => ?_
  have key : ∀ (xs acc : List D) (L' : LH), J xs acc L' → L'.length = L1.length → ∃ acc' L2, lcM g tt te its (wipeE env vs) L1.length xs (L' ++ [.lst acc]) = .ok () (L2 ++ [.lst acc']) ∧ L2.length = L1.length ∧ J [] acc' L2 := by
    intro xs
    induction xs with
    | nil =>
      intro acc L' hj hl
      unfold lcM
      rw [if_pos (h2 acc L' hj hl).1]
      exact ⟨acc, L', rfl, hl, hj⟩
    | cons x r ih =>
      intro acc L' hj hl
      obtain ⟨a, b⟩ := h1 x r acc L' hj hl
      unfold lcM
      rw [if_pos a]
      cases q : g (L' ++ [.lst acc]) (.d x) (wipeE env vs) with
      | none => rw [q] at b; exact b.elim
      | some e =>
        rw [q] at b
        dsimp only [WpO] at b ⊢
        cases q2 : tt e (L' ++ [.lst acc]) with
        | exc _ _ _ => rw [q2] at b; exact b.elim
        | bad => rw [q2] at b; exact b.elim
        | ok bb M =>
          rw [q2] at b
          dsimp only [Wp] at b ⊢
          by_cases hb : bb = true
          · rw [if_pos hb] at b ⊢
            cases q3 : te e M with
            | exc _ _ _ => rw [q3] at b; exact b.elim
            | bad => rw [q3] at b; exact b.elim
            | ok y M2 =>
              rw [q3] at b
              obtain ⟨z, L2, rfl, rfl, hl2, hacc, hj2⟩ := b
              have e1 : (L2 ++ [LO.lst acc])[L1.length]? = some (.lst acc) := by rw [← hl2]; simp
              have e2 : (L2 ++ [LO.lst acc]).set L1.length (.lst (acc ++ [z])) = L2 ++ [.lst (acc ++ [z])] := by rw [← hl2]; simp
              simp only [fzW, e1, if_pos hacc, e2]
              exact ih _ _ hj2 hl2
          · rw [if_neg hb] at b ⊢
            obtain ⟨L2, rfl, hl2, hj2⟩ := b
            exact ih _ _ hj2 hl2
  obtain ⟨acc', L2, e, hl2, hj⟩ := key its.items [] L1 h0 rfl
  rw [e]
  obtain ⟨_, hk, hq⟩ := h2 acc' L2 hj hl2
  have e1 : (L2 ++ [LO.lst acc'])[L1.length]? = some (.lst acc') := by rw [← hl2]; simp
  have hk2 : Keep L1.length L1 (L2 ++ [.lst acc']) := ⟨by simp; omega, fun j hj => by rw [List.getElem?_append_left (by omega)]; exact hk.2 j hj⟩
  have e2 : (L2 ++ [LO.lst acc']).take L1.length = L2 := by rw [← hl2]; simp
  simp only [e1, if_pos hk2, e2]
  exact hq
/-- the plain case: nothing is changed -/
theorem wp_lcP {im : IM} {g : GM} {tt : BM} {te : EM} {vs : List Nat} {env : Ev} {L : LH} {Q : W → LH → Prop} (p : D → Bool) (f : D → D)
    (h : Wp (im env L) fun its L1 => its.items.length ≤ sizeLine ∧ (∀ acc, its.same (L1 ++ [.lst acc])) ∧ (∀ x ∈ its.items, ∀ acc, WpO (g (L1 ++ [.lst acc]) (.d x) (wipeE env vs)) fun e => tt e (L1 ++ [.lst acc]) = .ok (p x) (L1 ++ [.lst acc]) ∧ (p x = true → te e (L1 ++ [.lst acc]) = .ok (.d (f x)) (L1 ++ [.lst acc]))) ∧
      Q (.d (.lst ((its.items.filter p).map f))) L1) : Wp (mLc im g tt te vs env L) Q := by
  refine wp_lc (h.imp fun its L1 ⟨hz, hs, hx, hq⟩ => ⟨fun xs acc L' => L' = L1 ∧ (∃ pre, its.items = pre ++ xs ∧ acc = (pre.filter p).map f), ⟨rfl, [], rfl, rfl⟩, ?_, ?_⟩)
  · rintro x r acc L' ⟨rfl, pre, hp, rfl⟩ _
    refine ⟨hs _, ?_⟩
    have hxm := hx x (by rw [hp]; simp) ((pre.filter p).map f)
    cases q : g (L' ++ [.lst ((pre.filter p).map f)]) (.d x) (wipeE env vs) with
    | none => rw [q] at hxm; exact hxm.elim
    | some e =>
      rw [q] at hxm
      obtain ⟨h1, h2⟩ := hxm
      dsimp only [WpO]
      rw [h1]
      dsimp only [Wp]
      by_cases hb : p x = true
      · rw [if_pos hb, h2 hb]
        refine ⟨f x, L', rfl, rfl, rfl, ?_, rfl, pre ++ [x], by rw [hp]; simp, by simp [List.filter_append, hb]⟩
        rw [List.length_map]
        have h4 := List.length_filter_le p pre
        have h5 : its.items.length = pre.length + (r.length + 1) := by rw [hp]; simp
        omega
      · rw [if_neg hb]
        exact ⟨L', rfl, rfl, rfl, pre ++ [x], by rw [hp]; simp, by simp [List.filter_append, hb]⟩
  · rintro acc L' ⟨rfl, pre, hp, rfl⟩ _
    rw [List.append_nil] at hp
    subst hp
    exact ⟨hs _, Keep.refl', hq⟩
end MP
namespace MP
open PySem PySem.Spec PyProof.Rows L2
section
variable {i j : Int} {x y z : D} {xs ys : List D} {L : LH} {env : Ev} {Q : W → LH → Prop}
theorem wp_var {n : Nat} {w : W} (h : env[n]? = some (some w)) : Wp (mVar n env L) Q = Q w L := by simp [mVar, h, Wp]
theorem wp_var0 {a : Option W} {e : Ev} {w : W} : Wp (mVar 0 (some w :: e) L) Q = Q w L := rfl
theorem wp_varS {n : Nat} {a : Option W} {e : Ev} : Wp (mVar (n + 1) (a :: e) L) Q = Wp (mVar n e L) Q := rfl
theorem at0 {α : Type} {x : α} {xs : List α} : atI (x :: xs) 0 = some x := by simp [atI, ixN]
theorem at1 {α : Type} {x y : α} {xs : List α} : atI (x :: y :: xs) 1 = some y := by
  have h : (1 : Int) < (xs.length : Int) + 1 + 1 := by omega
  simp [atI, ixN, h]
theorem at2 {α : Type} {x y z : α} {xs : List α} : atI (x :: y :: z :: xs) 2 = some z := by
  have h : (2 : Int) < (xs.length : Int) + 1 + 1 + 1 := by omega
  simp [atI, ixN, h]
theorem atN {α : Type} {xs : List α} {n : Nat} {x : α} (h : xs[n]? = some x) : atI xs (n : Int) = some x := atI_nat h
theorem add_ii : addD (.int i) (.int j) = some (.int (i + j)) := rfl
theorem add_tt : addD (.tup xs) (.tup ys) = if xs.length + ys.length ≤ sizeLine then some (.tup (xs ++ ys)) else none := rfl
theorem add_ll : addD (.lst xs) (.lst ys) = if xs.length + ys.length ≤ sizeLine then some (.lst (xs ++ ys)) else none := rfl
theorem sub_ii : subD (.int i) (.int j) = some (.int (i - j)) := rfl
theorem mul_ii : mulD (.int i) (.int j) = if i.natAbs.log2 + j.natAbs.log2 < 1000000 then some (.int (i * j)) else none := rfl
theorem fdiv_ii : fdivD (.int i) (.int j) = if 0 < j ∧ j.natAbs.log2 < 9000 then some (.int (i / j)) else none := rfl
theorem mod_ii : modD (.int i) (.int j) = if 0 < j then some (.int (i % j)) else none := rfl
theorem pow_ii : powD (.int i) (.int j) = if 0 ≤ j ∧ j ≤ 1000000 ∧ i.natAbs < 2 ^ 64 then some (.int (i ^ j.toNat)) else none := rfl
theorem lt_ii : ltD (.int i) (.int j) = some (.bl (decide (i < j))) := rfl
theorem le_ii : leD (.int i) (.int j) = some (.bl (decide (i ≤ j))) := rfl
theorem gt_ii : gtD (.int i) (.int j) = some (.bl (decide (j < i))) := rfl
theorem ge_ii : geD (.int i) (.int j) = some (.bl (decide (j ≤ i))) := rfl
theorem neg_i : negD (.int i) = some (.int (-i)) := rfl
theorem okP_int : okP (.int i) = true := by
  have h : SeqAt.shaped (.int i) = true := by
    unfold SeqAt.shaped
    simp [PyData.canLay0, PyData.depth]
  simp [okP, noDct, h]
theorem eq_ii : eqD (.int i) (.int j) = some (.bl (decide (i = j))) := by
  show ((toP (.int i)).bind fun p => (toP (.int j)).bind fun q => if (okP p && okP q) = true then some (D.bl (PyData.eqv p q)) else none) = _
  simp only [toP, Option.bind_some, okP_int, Bool.and_self, if_true, PyData.eqv]
  by_cases h : i = j <;> simp [h]
theorem ne_ii : neD (.int i) (.int j) = some (.bl (!decide (i = j))) := by
  show ((toP (.int i)).bind fun p => (toP (.int j)).bind fun q => if (okP p && okP q) = true then some (D.bl (!PyData.eqv p q)) else none) = _
  simp only [toP, Option.bind_some, okP_int, Bool.and_self, if_true, PyData.eqv]
  by_cases h : i = j <;> simp [h]
theorem eq_ss {a b : Str} : eqD (.str a) (.str b) = some (.bl (decide (a = b))) := rfl
theorem ne_ss {a b : Str} : neD (.str a) (.str b) = some (.bl (!decide (a = b))) := rfl
theorem tr_bl {b : Bool} : trD (.bl b) = some b := rfl
theorem tr_i : trD (.int i) = some (i != 0) := rfl
theorem tr_t : trD (.tup xs) = some (!xs.isEmpty) := rfl
theorem tr_l : trD (.lst xs) = some (!xs.isEmpty) := rfl
theorem wp_ixt : Wp (ixW L (.d (.tup xs)) (.d (.int i))) Q = WpO (atI xs i) fun z => Q (.d z) L := by
  show Wp (pureD L (atI xs i)) Q = _
  rw [wp_pureD]
theorem wp_ixl : Wp (ixW L (.d (.lst xs)) (.d (.int i))) Q = WpO (atI xs i) fun z => Q (.d z) L := by
  show Wp (pureD L (atI xs i)) Q = _
  rw [wp_pureD]
theorem wp_ixdic {n : Nat} {kvs : List (Key × W)} {y : D} (h : L[n]? = some (.dic kvs)) : Wp (ixW L (.loc n) (.d y)) Q = WpO ((keyOf y).bind (look kvs)) fun w => Q w L := by
  simp only [ixW, h, rd_d, Option.bind_some]
  cases (keyOf y).bind (look kvs) <;> rfl
theorem wp_ixlst {n : Nat} (h : L[n]? = some (.lst xs)) : Wp (ixW L (.loc n) (.d (.int i))) Q = WpO (atI xs i) fun z => Q (.d z) L := by
  have e : rd L (.loc n) = some (.lst xs) := by simp [rd, h]
  simp only [ixW, h, e, rd_d, Option.bind_some]
  exact wp_pureD
theorem rd_lst {n : Nat} (h : L[n]? = some (.lst xs)) : rd L (.loc n) = some (.lst xs) := by simp [rd, h]
theorem rd_frz {n : Nat} (h : L[n]? = some (.frz x)) : rd L (.loc n) = some x := by simp [rd, h]
theorem wp_oS {a : EM} {O : Option Int → LH → Prop} : Wp (oSome a env L) O = Wp (a env L) fun w L1 => match w with | .d (.int i) => O (some i) L1 | _ => False := by
  simp only [oSome, wp_bind]
  congr 1
  funext w L1
  cases w with
  | d x => cases x <;> rfl
  | loc n => rfl
theorem sl_t {lo hi : Option Int} : slD (.tup xs) lo hi = some (.tup (cutD xs lo hi)) := rfl
theorem sl_l {lo hi : Option Int} : slD (.lst xs) lo hi = some (.lst (cutD xs lo hi)) := rfl
theorem sl_s {ns : List Int} {lo hi : Option Int} : slD (.scr ns) lo hi = some (.lst (cutD (ns.map D.int) lo hi)) := rfl
theorem rds_nil : rds L [] = some [] := rfl
theorem rds_d {ws : List W} : rds L (.d x :: ws) = (rds L ws).map (x :: ·) := rfl
theorem rds_w {w : W} {ws : List W} (h : rd L w = some x) : rds L (w :: ws) = (rds L ws).map (x :: ·) := by simp [rds, h]
theorem omap_some {α β : Type} {f : α → β} {a : α} : (some a).map f = some (f a) := rfl
theorem fzs_nil : fzs L [] = some ([], L) := rfl
theorem fzs_d {ws : List W} : fzs L (.d x :: ws) = (fzs L ws).map fun q => (x :: q.1, q.2) := rfl
theorem fzW_d : fzW L (.d x) = some (x, L) := rfl
theorem wp_andV {a b : EM} : Wp (andV a b env L) Q = Wp (a env L) fun x L1 => match x with | .d (.bl true) => Wp (b env L1) Q | .d (.bl false) => Q (.d (.bl false)) L1 | _ => False := by
  simp only [andV, wp_bind]
  congr 1
  funext x L1
  cases x with
  | d y =>
    cases y with
    | bl b => cases b <;> rfl
    | _ => rfl
  | loc n => rfl
theorem wp_orV {a b : EM} : Wp (orV a b env L) Q = Wp (a env L) fun x L1 => match x with | .d (.bl true) => Q (.d (.bl true)) L1 | .d (.bl false) => Wp (b env L1) Q | _ => False := by
  simp only [orV, wp_bind]
  congr 1
  funext x L1
  cases x with
  | d y =>
    cases y with
    | bl b => cases b <;> rfl
    | _ => rfl
  | loc n => rfl
theorem wp_notV {a : EM} : Wp (notV a env L) Q = Wp (a env L) fun x L1 => match x with | .d (.bl c) => Q (.d (.bl (!c))) L1 | _ => False := by
  simp only [notV, wp_bind]
  congr 1
  funext x L1
  cases x with
  | d y =>
    cases y with
    | bl b => cases b <;> rfl
    | _ => rfl
  | loc n => rfl
/-- b and c, of truth values -/
theorem wp_and' {a b : EM} {p q : Bool} (ha : a env L = .ok (.d (.bl p)) L) (hb : p = true → b env L = .ok (.d (.bl q)) L) : andV a b env L = .ok (.d (.bl (p && q))) L := by
  unfold andV
  rw [ha]
  cases p
  · rfl
  · exact hb rfl
theorem wp_iSeq {a : EM} {Q : Its → LH → Prop} : Wp (iSeq a env L) Q = Wp (a env L) fun w L1 => WpO ((rd L1 w).bind (seqIts w)) fun its => Q its L1 := by
  simp only [iSeq, wp_bind]
  congr 1
  funext w L1
  cases (rd L1 w).bind (seqIts w) <;> rfl
theorem its_t {w : W} : seqIts w (.tup xs) = some ⟨xs, fun L => rd L w = some (.tup xs)⟩ := rfl
theorem its_l {w : W} : seqIts w (.lst xs) = some ⟨xs, fun L => rd L w = some (.lst xs)⟩ := rfl
theorem wp_iEnum {a : EM} {Q : Its → LH → Prop} : Wp (iEnum a env L) Q = Wp (a env L) fun w L1 => WpO ((rd L1 w).bind (enIts w)) fun its => Q its L1 := by
  simp only [iEnum, wp_bind]
  congr 1
  funext w L1
  cases (rd L1 w).bind (enIts w) <;> rfl
theorem en_t {w : W} : enIts w (.tup xs) = some ⟨enumD 0 xs, fun L => rd L w = some (.tup xs)⟩ := rfl
theorem en_l {w : W} : enIts w (.lst xs) = some ⟨enumD 0 xs, fun L => rd L w = some (.lst xs)⟩ := rfl
theorem wp_rng1 {a : EM} {Q : Its → LH → Prop} {j : Int} (h : a env L = .ok (.d (.int j)) L) (h1 : -(2 ^ 62) ≤ j) (h2 : j < 2 ^ 62) : Wp (iRng1 a env L) Q = Q ⟨rngD 0 j.toNat, fun _ => True⟩ L := by
  simp only [iRng1, h, Res.bind]
  rw [if_pos ⟨h1, h2⟩]
  rfl
theorem wp_iZip {a b : EM} {Q : Its → LH → Prop} : Wp (iZip a b env L) Q = Wp (a env L) fun w L1 => Wp (b env L1) fun u L2 => WpO ((rd L2 w).bind seqD) fun p => WpO ((rd L2 u).bind seqD) fun q => Q ⟨zipD p.2 q.2, fun L => (rd L w).bind seqD = some p ∧ (rd L u).bind seqD = some q⟩ L2 := by
  simp only [iZip, wp_bind]
  congr 1
  funext w L1
  congr 1
  funext u L2
  cases (rd L2 w).bind seqD with
  | none => rfl
  | some p => cases (rd L2 u).bind seqD <;> rfl
theorem seq_t : seqD (.tup xs) = some (true, xs) := rfl
theorem seq_l : seqD (.lst xs) = some (false, xs) := rfl
theorem gtu {n : Nat} {gs : GsM} : gTu n gs L (.d (.tup xs)) env = if xs.length = n then gs L xs env else none := rfl
theorem gscons {g : GM} {gs : GsM} : gsCons g gs L (x :: xs) env = (g L (.d x) env).bind (gs L xs) := rfl
theorem gsnil : gsNil L [] env = some env := rfl
theorem wp_mFrz {a : EM} : Wp (mFrz a env L) Q = Wp (a env L) fun w L1 => WpO (fzW L1 w) fun p => Q (.d p.1) p.2 := by
  simp only [mFrz, wp_bind]
  congr 1
  funext w L1
  cases fzW L1 w <;> rfl
theorem wps_dput {v o i : EM} {S : Qs} : WpS (sDPut v o i env L) S = Wp (v env L) fun w L1 => Wp (o env L1) fun x L2 => Wp (i env L2) fun y L3 => match x with
  | .loc n => match L3[n]? with
    | some (.dic kvs) => WpO ((rd L3 y).bind keyOf) fun k => kvs.length < sizeLine ∧ S.nx env (L3.set n (.dic (putW kvs k w)))
    | _ => False
  | _ => False := by
  simp only [sDPut, wp_ofE]
  congr 1
  funext w L1
  congr 1
  funext x L2
  congr 1
  funext y L3
  cases x with
  | d x => rfl
  | loc n =>
    dsimp only
    cases L3[n]? with
    | none => rfl
    | some o =>
      cases o with
      | dic kvs =>
        dsimp only
        cases (rd L3 y).bind keyOf with
        | none => rfl
        | some k =>
          dsimp only [WpO]
          split
          · rename_i h; simp [WpS, h]
          · rename_i h; simp only [WpS, h, false_and]
      | lst _ => rfl
      | ins _ _ => rfl
      | frz _ => rfl
theorem wp_m0 {f : List D → Option (List D × D)} {a : EM} : Wp (mM0 f a env L) Q = Wp (a env L) fun x L1 => match x with
  | .loc n => match L1[n]? with
    | some (.lst xs) => WpO (f xs) fun p => Q (.d p.2) (L1.set n (.lst p.1))
    | _ => False
  | _ => False := by
  simp only [mM0, wp_bind]
  congr 1
  funext x L1
  cases x with
  | d x => rfl
  | loc n =>
    dsimp only
    cases L1[n]? with
    | none => rfl
    | some o =>
      cases o with
      | lst xs => dsimp only; cases f xs <;> rfl
      | dic _ => rfl
      | ins _ _ => rfl
      | frz _ => rfl
theorem wp_mm1 {f : List D → D → Option (List D × D)} {a b : EM} : Wp (mM1 f a b env L) Q = Wp (a env L) fun x L1 => isLst L1 x = true ∧ Wp (b env L1) fun y L2 => WpO (fzW L2 y) fun p => match x with
  | .loc n => match p.2[n]? with
    | some (.lst xs) => WpO (f xs p.1) fun q => Q (.d q.2) (p.2.set n (.lst q.1))
    | _ => False
  | _ => False := by
  simp only [mM1, wp_bind]
  congr 1
  funext x L1
  split
  · rename_i h
    simp only [h, true_and, wp_bind]
    congr 1
    funext y L2
    cases fzW L2 y with
    | none => rfl
    | some p =>
      obtain ⟨z, L3⟩ := p
      cases x with
      | d x => rfl
      | loc n =>
        dsimp only [WpO]
        cases L3[n]? with
        | none => rfl
        | some o =>
          cases o with
          | lst xs => dsimp only; cases f xs z <;> rfl
          | dic _ => rfl
          | ins _ _ => rfl
          | frz _ => rfl
  · rename_i h
    exact (propext ⟨fun z => z.elim, fun z => (h z.1).elim⟩)
theorem wps_par2 {i j : Nat} {as : AM} {S : Qs} : WpS (sPar2 i j as env L) S = Wp (as env L) fun ws L1 => match ws with
  | [x, y] => S.nx ((env.set i (some x)).set j (some y)) L1
  | _ => False := by
  simp only [sPar2, wp_ofE]
  congr 1
  funext ws L1
  rcases ws with _ | ⟨x, _ | ⟨y, _ | ⟨z, r⟩⟩⟩ <;> rfl
end
end MP
namespace MP
open PySem PySem.Spec PyProof.Rows L2
/-! ### how much a value shows, and how deep it is -/
def wtK : Key → Nat
  | .inl i => i.natAbs.log2 + 3
  | .inr s => 10 * s.length + 2
def plK : Key → Bool
  | .inl i => decide (i.natAbs.log2 < 1920)
  | .inr s => strOk' s
where strOk' (s : Str) : Bool := s.cps.all (· < 0x110000)
def sOk (s : Str) : Bool := s.cps.all (· < 0x110000)
mutual
def wt : D → Nat
  | .non => 5
  | .bl _ => 5
  | .int i => i.natAbs.log2 + 3
  | .str s => 10 * s.length + 2
  | .tup xs => wts xs + 3
  | .lst xs => wts xs + 3
  | .dct kvs => wtk kvs + 3
  | _ => 0
def wts : List D → Nat
  | [] => 0
  | x :: r => wt x + 2 + wts r
def wtk : List (Key × D) → Nat
  | [] => 0
  | (k, x) :: r => wtK k + 2 + wt x + 2 + wtk r
end
mutual
/-- no deeper than n, and all of it can be shown -/
def pl : D → Nat → Bool
  | .non, _ => true
  | .bl _, _ => true
  | .int i, _ => decide (i.natAbs.log2 < 1920)
  | .str s, _ => sOk s
  | .tup xs, n + 1 => pls xs n
  | .lst xs, n + 1 => pls xs n
  | .dct kvs, n + 1 => plk kvs n
  | _, _ => false
def pls : List D → Nat → Bool
  | [], _ => true
  | x :: r, n => pl x n && pls r n
def plk : List (Key × D) → Nat → Bool
  | [], _ => true
  | (k, x) :: r, n => plK k && pl x n && plk r n
end
theorem int_shown (i : Int) : (PyData.shown (.int i)).length ≤ i.natAbs.log2 + 3 := by
  have h : i.natAbs < 10 ^ (i.natAbs.log2 + 1) := by
    have h1 : i.natAbs < 2 ^ (i.natAbs.log2 + 1) := Nat.lt_log2_self
    have h2 : (2 : Nat) ^ (i.natAbs.log2 + 1) ≤ 10 ^ (i.natAbs.log2 + 1) := Nat.pow_le_pow_left (by omega) _
    omega
  have e := int_text_length_le10 (k := i.natAbs.log2 + 1) (by omega) h
  show (Str.ofString (toString i)).length ≤ _
  rw [PySem.ofString_length]
  omega
theorem str_shown (s : Str) (h : sOk s = true) : (PyData.shown (.str s)).length ≤ 10 * s.length + 2 := by
  refine StrLaws.reprText_len s fun c hc => ?_
  have := (Array.all_eq_true_iff_forall_mem.mp h) c (Array.mem_toList_iff.mp hc)
  have e : (16 : Nat) ^ 8 = 4294967296 := by decide
  have h3 : c < 0x110000 := by simpa using this
  omega
mutual
theorem shown_wt : ∀ (x : D) (n : Nat), pl x n = true → ∃ p, toP x = some p ∧ p.showable = true ∧ p.depth ≤ n ∧ p.shown.length ≤ wt x
  | .non, n, _ => ⟨_, rfl, rfl, by simp [PyData.depth], by show 4 ≤ 5; omega⟩
  | .bl b, n, _ => ⟨_, rfl, rfl, by simp [PyData.depth], by cases b <;> decide⟩
  | .int i, n, h => ⟨_, rfl, by simpa [PyData.showable, pl] using h, by simp [PyData.depth], int_shown i⟩
  | .str s, n, h => ⟨_, rfl, rfl, by simp [PyData.depth], str_shown s (by simpa [pl] using h)⟩
  | .tup xs, 0, h => by simp [pl] at h
  | .lst xs, 0, h => by simp [pl] at h
  | .dct xs, 0, h => by simp [pl] at h
  | .ob _ _, n, h => by simp [pl] at h
  | .rf _, n, h => by simp [pl] at h
  | .scr _, n, h => by simp [pl] at h
  | .ty _, n, h => by simp [pl] at h
  | .tup xs, n + 1, h => by
    obtain ⟨ps, e, s, d, l⟩ := showns_wt xs n (by simpa [pl] using h)
    refine ⟨.tuple ps, by simp [toP, e], by simpa [PyData.showable] using s, by simp only [PyData.depth]; omega, ?_⟩
    have := tupleText_len_le (PyData.shownAll ps)
    simp only [PyData.shown, wt]
    omega
  | .lst xs, n + 1, h => by
    obtain ⟨ps, e, s, d, l⟩ := showns_wt xs n (by simpa [pl] using h)
    refine ⟨.list ps, by simp [toP, e], by simpa [PyData.showable] using s, by simp only [PyData.depth]; omega, ?_⟩
    have := listText_len_le (PyData.shownAll ps)
    simp only [PyData.shown, wt]
    omega
  | .dct kvs, n + 1, h => by
    obtain ⟨ps, e, s, d, l⟩ := shownk_wt kvs n (by simpa [pl] using h)
    refine ⟨.dict ps, by simp [toP, e], by simpa [PyData.showable] using s, by simp only [PyData.depth]; omega, ?_⟩
    have := dictText_len_le (PyData.shownKv ps)
    simp only [PyData.shown, wt]
    omega
theorem showns_wt : ∀ (xs : List D) (n : Nat), pls xs n = true → ∃ ps, toPs xs = some ps ∧ PyData.showableAll ps = true ∧ PyData.depthAll ps ≤ n ∧ ((PyData.shownAll ps).map (·.length)).sum + 2 * (PyData.shownAll ps).length ≤ wts xs
  | [], n, _ => ⟨[], rfl, rfl, by simp [PyData.depthAll], by simp [PyData.shownAll, wts]⟩
  | x :: r, n, h => by
    simp only [pls, Bool.and_eq_true] at h
    obtain ⟨p, e, s, d, l⟩ := shown_wt x n h.1
    obtain ⟨ps, e', s', d', l'⟩ := showns_wt r n h.2
    refine ⟨p :: ps, by simp [toPs, e, e'], by simp [PyData.showableAll, s, s'], by simp only [PyData.depthAll]; omega, ?_⟩
    simp only [PyData.shownAll, List.map_cons, List.sum_cons, List.length_cons, wts]
    omega
theorem shownk_wt : ∀ (xs : List (Key × D)) (n : Nat), plk xs n = true → ∃ ps, toPk xs = some ps ∧ PyData.showableKv ps = true ∧ PyData.depthKv ps ≤ n ∧ ((PyData.shownKv ps).map (·.length)).sum + 2 * (PyData.shownKv ps).length ≤ wtk xs
  | [], n, _ => ⟨[], rfl, rfl, by simp [PyData.depthKv], by simp [PyData.shownKv, wtk]⟩
  | (k, x) :: r, n, h => by
    simp only [plk, Bool.and_eq_true] at h
    obtain ⟨p, e, s, d, l⟩ := shown_wt x n h.1.2
    obtain ⟨ps, e', s', d', l'⟩ := shownk_wt r n h.2
    have hk : ∃ q, (match k with | .inl i => PyData.int i | .inr s => PyData.str s) = q ∧ q.showable = true ∧ q.depth = 0 ∧ q.shown.length ≤ wtK k := by
      cases k with
      | inl i => exact ⟨_, rfl, by simpa [PyData.showable, plK] using h.1.1, by simp [PyData.depth], int_shown i⟩
      | inr s => exact ⟨_, rfl, rfl, by simp [PyData.depth], str_shown s (by simpa [plK, plK.strOk', sOk] using h.1.1)⟩
    obtain ⟨q, hq, k1, k2, k3⟩ := hk
    refine ⟨(q, p) :: ps, by rw [← hq]; simp only [toPk, e, e', Option.bind_some, Option.map_some]; try (cases k <;> rfl), by simp [PyData.showableKv, s, s', k1], by simp only [PyData.depthKv]; omega, ?_⟩
    have e2 : (q.shown ++ ": " ++ p.shown).length = q.shown.length + 2 + p.shown.length := by
      rw [strLen_append, strLen_append]; rfl
    simp only [PyData.shownKv, List.map_cons, List.sum_cons, List.length_cons, wtk]
    omega
end
/-- what repr tells -/
def shw (x : D) : Str := ((toP x).getD .none).shown
def Sm (w n : Nat) (x : D) : Prop := pl x n = true ∧ wt x ≤ w
def Sms (w n : Nat) (xs : List D) : Prop := pls xs n = true ∧ wts xs ≤ w
theorem repr_of {x : D} (h : Sm 16777216 60 x) : reprD [x] = some (.str (shw x)) := by
  obtain ⟨p, e, s, d, l⟩ := shown_wt x 60 h.1
  have hz : sizeLine = 16777216 := by decide
  have hok : okR p = true := by
    simp only [okR, s, Bool.true_and, Bool.and_eq_true, decide_eq_true_eq]
    exact ⟨d, by rw [hz]; exact Nat.le_trans l h.2⟩
  simp [reprD, e, hok, shw]
theorem pls_iff {xs : List D} {n : Nat} : pls xs n = true ↔ ∀ x ∈ xs, pl x n = true := by
  induction xs with
  | nil => simp [pls]
  | cons x r ih => simp [pls, ih]
theorem wts_app {xs ys : List D} : wts (xs ++ ys) = wts xs + wts ys := by
  induction xs with
  | nil => simp [wts]
  | cons x r ih => simp only [List.cons_append, wts, ih]; omega
theorem wts_sub {xs ys : List D} (h : xs.Sublist ys) : wts xs ≤ wts ys := by
  induction h with
  | slnil => exact Nat.le_refl _
  | cons _ _ ih => simp only [wts]; omega
  | cons_cons _ _ ih => simp only [wts]; omega
theorem wts_rev {xs : List D} : wts xs.reverse = wts xs := by
  induction xs with
  | nil => rfl
  | cons x r ih => rw [List.reverse_cons, wts_app, ih]; simp only [wts]; omega
theorem wt_mem {x : D} {xs : List D} (h : x ∈ xs) : wt x + 2 ≤ wts xs := by
  induction xs with
  | nil => cases h
  | cons y r ih =>
    simp only [wts]
    rcases List.mem_cons.mp h with rfl | h
    · omega
    · have := ih h; omega
mutual
theorem pl_mono : ∀ (x : D) (n m : Nat), n ≤ m → pl x n = true → pl x m = true
  | .non, n, m, _, _ => by cases m <;> rfl
  | .bl _, n, m, _, _ => by cases m <;> rfl
  | .int i, n, m, _, h => by simpa [pl] using h
  | .str s, n, m, _, h => by simpa [pl] using h
  | .tup xs, 0, m, _, h => by simp [pl] at h
  | .lst xs, 0, m, _, h => by simp [pl] at h
  | .dct xs, 0, m, _, h => by simp [pl] at h
  | .ob _ _, n, _, _, h => by simp [pl] at h
  | .rf _, n, _, _, h => by simp [pl] at h
  | .scr _, n, _, _, h => by simp [pl] at h
  | .ty _, n, _, _, h => by simp [pl] at h
  | .tup xs, n + 1, m, hm, h => by
    obtain ⟨k, rfl⟩ : ∃ k, m = k + 1 := ⟨m - 1, by omega⟩
    simp only [pl] at h ⊢
    exact pls_mono xs n k (by omega) h
  | .lst xs, n + 1, m, hm, h => by
    obtain ⟨k, rfl⟩ : ∃ k, m = k + 1 := ⟨m - 1, by omega⟩
    simp only [pl] at h ⊢
    exact pls_mono xs n k (by omega) h
  | .dct xs, n + 1, m, hm, h => by
    obtain ⟨k, rfl⟩ : ∃ k, m = k + 1 := ⟨m - 1, by omega⟩
    simp only [pl] at h ⊢
    exact plk_mono xs n k (by omega) h
theorem pls_mono : ∀ (xs : List D) (n m : Nat), n ≤ m → pls xs n = true → pls xs m = true
  | [], _, _, _, _ => rfl
  | x :: r, n, m, hm, h => by
    simp only [pls, Bool.and_eq_true] at h ⊢
    exact ⟨pl_mono x n m hm h.1, pls_mono r n m hm h.2⟩
theorem plk_mono : ∀ (xs : List (Key × D)) (n m : Nat), n ≤ m → plk xs n = true → plk xs m = true
  | [], _, _, _, _ => rfl
  | (k, x) :: r, n, m, hm, h => by
    simp only [plk, Bool.and_eq_true] at h ⊢
    exact ⟨⟨h.1.1, pl_mono x n m hm h.1.2⟩, plk_mono r n m hm h.2⟩
end
section
variable {w w' n m : Nat} {x : D} {xs ys : List D}
theorem Sm.mono (h : Sm w n x) (a : w ≤ w') (b : n ≤ m) : Sm w' m x := ⟨pl_mono x n m b h.1, Nat.le_trans h.2 a⟩
theorem Sms.mono (h : Sms w n xs) (a : w ≤ w') (b : n ≤ m) : Sms w' m xs := ⟨pls_mono xs n m b h.1, Nat.le_trans h.2 a⟩
theorem Sm.tup (h : Sms w n xs) : Sm (w + 3) (n + 1) (.tup xs) := ⟨by simpa [pl] using h.1, by simp only [wt]; have := h.2; omega⟩
theorem Sm.lst (h : Sms w n xs) : Sm (w + 3) (n + 1) (.lst xs) := ⟨by simpa [pl] using h.1, by simp only [wt]; have := h.2; omega⟩
theorem Sms.nil : Sms 0 n [] := ⟨rfl, by simp [wts]⟩
theorem Sms.cons (h : Sm w n x) (t : Sms w' n xs) : Sms (w + 2 + w') n (x :: xs) := ⟨by simp [pls, h.1, t.1], by simp only [wts]; have := h.2; have := t.2; omega⟩
theorem Sms.app (h : Sms w n xs) (t : Sms w' n ys) : Sms (w + w') n (xs ++ ys) := ⟨pls_iff.mpr fun x hx => (List.mem_append.mp hx).elim (pls_iff.mp h.1 x) (pls_iff.mp t.1 x), by rw [wts_app]; have := h.2; have := t.2; omega⟩
theorem Sms.sub (h : Sms w n ys) (s : xs.Sublist ys) : Sms w n xs := ⟨pls_iff.mpr fun x hx => pls_iff.mp h.1 x (s.subset hx), Nat.le_trans (wts_sub s) h.2⟩
theorem Sms.rev (h : Sms w n xs) : Sms w n xs.reverse := ⟨pls_iff.mpr fun x hx => pls_iff.mp h.1 x (List.mem_reverse.mp hx), by rw [wts_rev]; exact h.2⟩
theorem Sms.mem (h : Sms w n xs) (hx : x ∈ xs) : Sm w n x := ⟨pls_iff.mp h.1 x hx, by have := wt_mem hx; have := h.2; omega⟩
theorem Sms.all (h : ∀ x ∈ xs, Sm w n x) : Sms (xs.length * (w + 2)) n xs := by
  induction xs with
  | nil => exact ⟨rfl, by simp [wts]⟩
  | cons x r ih =>
    have h1 := (h x (List.mem_cons_self ..)).2
    have h2 := (ih fun y hy => h y (List.mem_cons_of_mem _ hy))
    refine ⟨by simp [pls, (h x (List.mem_cons_self ..)).1, h2.1], ?_⟩
    simp only [wts, List.length_cons, Nat.add_mul, Nat.one_mul]
    have := h2.2
    omega
theorem Sm.int {i : Int} {k : Nat} (h : i.natAbs < 2 ^ k) (hk : k ≤ 1920) (h0 : 0 < k := by decide) : Sm (k + 2) n (.int i) := by
  have : i.natAbs.log2 < k := by
    by_cases z : i.natAbs = 0
    · rw [z]; exact h0
    · exact (Nat.log2_lt z).mpr h
  exact ⟨by simp only [pl, decide_eq_true_eq]; omega, by simp only [wt]; omega⟩
theorem Sm.un_tup (h : Sm w n (.tup xs)) : Sms w (n - 1) xs := by
  cases n with
  | zero => have := h.1; simp [pl] at this
  | succ n => exact ⟨by simpa [pl] using h.1, by have := h.2; simp only [wt] at this; omega⟩
theorem Sm.un_lst (h : Sm w n (.lst xs)) : Sms w (n - 1) xs := by
  cases n with
  | zero => have := h.1; simp [pl] at this
  | succ n => exact ⟨by simpa [pl] using h.1, by have := h.2; simp only [wt] at this; omega⟩
end
/-! ### what can be asked by == -/
mutual
/-- no deeper than n, no dict -/
def pe : D → Nat → Bool
  | .non, _ => true
  | .bl _, _ => true
  | .int _, _ => true
  | .str s, _ => sOk s
  | .tup xs, n + 1 => pes xs n
  | .lst xs, n + 1 => pes xs n
  | _, _ => false
def pes : List D → Nat → Bool
  | [], _ => true
  | x :: r, n => pe x n && pes r n
end
mutual
theorem pe_ok : ∀ (x : D) (n : Nat), pe x n = true → ∃ p, toP x = some p ∧ noDct p = true ∧ p.canLay0 = true ∧ p.depth ≤ n
  | .non, n, _ => ⟨_, rfl, rfl, rfl, by simp [PyData.depth]⟩
  | .bl b, n, _ => ⟨_, rfl, rfl, rfl, by simp [PyData.depth]⟩
  | .int i, n, h => ⟨_, rfl, rfl, rfl, by simp [PyData.depth]⟩
  | .str s, n, h => ⟨_, rfl, rfl, by simpa [PyData.canLay0, PyData.strOk, pe, sOk] using h, by simp [PyData.depth]⟩
  | .tup xs, 0, h => by simp [pe] at h
  | .lst xs, 0, h => by simp [pe] at h
  | .dct xs, n, h => by simp [pe] at h
  | .ob _ _, n, h => by simp [pe] at h
  | .rf _, n, h => by simp [pe] at h
  | .scr _, n, h => by simp [pe] at h
  | .ty _, n, h => by simp [pe] at h
  | .tup xs, n + 1, h => by
    obtain ⟨ps, e, a, b, d⟩ := pes_ok xs n (by simpa [pe] using h)
    exact ⟨.tuple ps, by simp [toP, e], by simpa [noDct] using a, by simpa [PyData.canLay0] using b, by simp only [PyData.depth]; omega⟩
  | .lst xs, n + 1, h => by
    obtain ⟨ps, e, a, b, d⟩ := pes_ok xs n (by simpa [pe] using h)
    exact ⟨.list ps, by simp [toP, e], by simpa [noDct] using a, by simpa [PyData.canLay0] using b, by simp only [PyData.depth]; omega⟩
theorem pes_ok : ∀ (xs : List D) (n : Nat), pes xs n = true → ∃ ps, toPs xs = some ps ∧ noDcts ps = true ∧ PyData.canLayAll0 ps = true ∧ PyData.depthAll ps ≤ n
  | [], n, _ => ⟨[], rfl, rfl, rfl, by simp [PyData.depthAll]⟩
  | x :: r, n, h => by
    simp only [pes, Bool.and_eq_true] at h
    obtain ⟨p, e, a, b, d⟩ := pe_ok x n h.1
    obtain ⟨ps, e', a', b', d'⟩ := pes_ok r n h.2
    exact ⟨p :: ps, by simp [toPs, e, e'], by simp [noDcts, a, a'], by simp [PyData.canLayAll0, b, b'], by simp only [PyData.depthAll]; omega⟩
end
theorem pe_okP {x : D} {n : Nat} (h : pe x n = true) (hn : n ≤ 64) : ∃ p, toP x = some p ∧ okP p = true := by
  obtain ⟨p, e, a, b, d⟩ := pe_ok x n h
  refine ⟨p, e, ?_⟩
  simp only [okP, SeqAt.shaped, a, b, Bool.true_and, decide_eq_true_eq]
  omega
theorem pes_iff {xs : List D} {n : Nat} : pes xs n = true ↔ ∀ x ∈ xs, pe x n = true := by
  induction xs with
  | nil => simp [pes]
  | cons x r ih => simp [pes, ih]
theorem pes_ints {ns : List Int} {n : Nat} : pes (ns.map D.int) n = true := pes_iff.mpr fun x hx => by
  obtain ⟨i, _, rfl⟩ := List.mem_map.mp hx
  simp [pe]
theorem toPs_nil {xs : List D} {ps : List PyData} (h : toPs xs = some ps) : ps.isEmpty = xs.isEmpty := by
  cases xs with
  | nil => cases h; rfl
  | cons x r =>
    simp only [toPs] at h
    cases e : toP x with
    | none => rw [e] at h; cases h
    | some p =>
      rw [e, Option.bind_some] at h
      cases e2 : toPs r with
      | none => rw [e2] at h; cases h
      | some q => rw [e2] at h; cases h; rfl
theorem okP_nl : okP (.list []) = true := by decide +kernel
theorem okP_nt : okP (.tuple []) = true := by decide +kernel
theorem eqv_nl {ps : List PyData} : PyData.eqv (.list ps) (.list []) = ps.isEmpty := by cases ps <;> simp [PyData.eqv, PyData.eqvAll]
theorem eqv_nt {ps : List PyData} : PyData.eqv (.tuple ps) (.tuple []) = ps.isEmpty := by cases ps <;> simp [PyData.eqv, PyData.eqvAll]
theorem ne_nl {xs : List D} : neD (.lst xs) (.lst []) = some (.bl (!xs.isEmpty)) := by
  cases xs with
  | cons x r => rfl
  | nil =>
    show (if ([] : List D).length ≠ ([] : List D).length then some (.bl true) else neG (.lst []) (.lst [])) = _
    rw [if_neg (by simp)]
    simp only [neG, toP, toPs, Option.map_some, Option.bind_some, okP_nl, Bool.and_self, if_true, eqv_nl]
    rfl
theorem eq_nl {xs : List D} : eqD (.lst xs) (.lst []) = some (.bl xs.isEmpty) := by
  cases xs with
  | cons x r => rfl
  | nil =>
    show (if ([] : List D).length ≠ ([] : List D).length then some (.bl false) else eqG (.lst []) (.lst [])) = _
    rw [if_neg (by simp)]
    simp only [eqG, toP, toPs, Option.map_some, Option.bind_some, okP_nl, Bool.and_self, if_true, eqv_nl]
    rfl
theorem eq_nt {xs : List D} : eqD (.tup xs) (.tup []) = some (.bl xs.isEmpty) := by
  show (if (xs.isEmpty || ([] : List D).isEmpty) = true then some (D.bl (xs.isEmpty && ([] : List D).isEmpty)) else eqG (.tup xs) (.tup [])) = _
  rw [if_pos (by simp)]
  simp
theorem ne_nt {xs : List D} : neD (.tup xs) (.tup []) = some (.bl (!xs.isEmpty)) := by
  show (if (xs.isEmpty || ([] : List D).isEmpty) = true then some (D.bl (!(xs.isEmpty && ([] : List D).isEmpty))) else neG (.tup xs) (.tup [])) = _
  rw [if_pos (by simp)]
  simp
end MP
namespace MP
open PySem PySem.Spec PyProof.Rows L2
section
variable {env : Ev} {L : LH} {Q : W → LH → Prop} {a : EM} {as : AM} {xs ys : List D} {x y : D} {i j : Int} {k : Nat} {n : Nat}
theorem wp_revM : Wp (mRevM a env L) Q = Wp (a env L) fun x L1 => match rd L1 x with | some (.lst xs) => Q (.loc L1.length) (L1 ++ [.lst xs.reverse]) | _ => False := by
  simp only [mRevM, wp_bind]
  congr 1
  funext x L1
  cases rd L1 x with
  | none => rfl
  | some d => cases d <;> rfl
theorem wp_dicM {ks : List Key} : Wp (mDicM ks as env L) Q = Wp (as env (L ++ [.dic []])) fun ws L1 => match L1[L.length]? with | some (.dic []) => ws.length = ks.length ∧ Q (.loc L.length) (L1.set L.length (.dic (ks.zip ws))) | _ => False := by
  simp only [mDicM, wp_bind]
  congr 1
  funext ws L1
  cases L1[L.length]? with
  | none => rfl
  | some o =>
    cases o with
    | dic kvs =>
      cases kvs with
      | nil =>
        dsimp only
        split
        · rename_i h; simp [Wp, h]
        · rename_i h; simp [Wp, h]
      | cons _ _ => rfl
    | _ => rfl
theorem cut_pre : cutD xs none (some (k : Int)) = xs.take k := by
  rw [cutD, HT.sIx_none, HT.sIx_nat, List.drop_zero, Nat.sub_zero, ← List.take_eq_take_min]
theorem cut_suf : cutD xs (some (k : Int)) none = xs.drop k := by
  rw [cutD, HT.sIx_none, HT.sIx_nat]
  rw [List.take_of_length_le (by rw [List.length_drop]; omega)]
  by_cases h : k ≤ xs.length
  · rw [Nat.min_eq_left h]
  · rw [Nat.min_eq_right (by omega), List.drop_length, List.drop_of_length_le (by omega)]
theorem cut_sub {lo hi : Option Int} : (cutD xs lo hi).Sublist xs := (List.take_sublist _ _).trans (List.drop_sublist _ _)
theorem cut_all (h : xs.length ≤ k) : cutD xs none (some (k : Int)) = xs := by rw [cut_pre, List.take_of_length_le h]
theorem listD_l : listD [.lst xs] = some (.lst xs) := rfl
theorem listD_t : listD [.tup xs] = some (.lst xs) := rfl
theorem tupD_l : tupD [.lst xs] = some (.tup xs) := rfl
theorem tupD_t : tupD [.tup xs] = some (.tup xs) := rfl
theorem lenD_l : lenD [.lst xs] = some (.int xs.length) := rfl
theorem lenD_t : lenD [.tup xs] = some (.int xs.length) := rfl
theorem int_i : intD [.int i] = some (.int i) := rfl
theorem max_ii : maxD [.int i, .int j] = some (.int (max i j)) := rfl
theorem min_ii : minD [.int i, .int j] = some (.int (min i j)) := rfl
theorem abs_i : absD [.int i] = some (.int i.natAbs) := rfl
theorem intsD_of {ns : List Int} : intsD (ns.map D.int) = some ns := by
  induction ns with
  | nil => rfl
  | cons n r ih => simp [intsD, ih]
theorem bls_of {ns : List Bool} : bls (ns.map D.bl) = some ns := by
  induction ns with
  | nil => rfl
  | cons n r ih => simp [bls, ih]
theorem strs_of {ns : List Str} : strs' (ns.map D.str) = some ns := by
  induction ns with
  | nil => rfl
  | cons n r ih => simp [strs', ih]
theorem sumD_map {ns : List Int} : sumD [.lst (ns.map D.int)] = some (.int ns.sum) := by simp [sumD, intsD_of]
theorem allD_map {ns : List Bool} : allD' [.lst (ns.map D.bl)] = some (.bl (ns.all id)) := by simp [allD', bls_of]
theorem anyD_map {ns : List Bool} : anyD [.lst (ns.map D.bl)] = some (.bl (ns.any id)) := by simp [anyD, bls_of]
theorem rev_l : revD2 (.lst xs) = some (.lst xs.reverse) := rfl
theorem rev_t : revD2 (.tup xs) = some (.tup xs.reverse) := rfl
/-! sizes -/
theorem sm2 : sizeLine = 16777216 := by decide
theorem sum_cap {p : Prop} [Decidable p] {z : D} {Q : D → Prop} (h : p) (q : Q z) : WpO (if p then some z else none) Q := by rw [if_pos h]; exact q
theorem mul_sm {i j : Int} (a : -(2 ^ 250) < i) (b : i < 2 ^ 250) (c : -(2 ^ 250) < j) (d : j < 2 ^ 250) : mulD (.int i) (.int j) = some (.int (i * j)) := by
  have key : ∀ x : Int, -(2 ^ 250) < x → x < 2 ^ 250 → x.natAbs.log2 < 250 := fun x h1 h2 => by
    by_cases z : x.natAbs = 0
    · rw [z]; decide
    · exact (Nat.log2_lt z).mpr (by omega)
  have h1 := key i a b
  have h2 := key j c d
  rw [mul_ii, if_pos (by omega)]
theorem wpo_mul {i j : Int} {Q : D → Prop} (a : -(2 ^ 250) < i) (b : i < 2 ^ 250) (c : -(2 ^ 250) < j) (d : j < 2 ^ 250) (h : Q (.int (i * j))) : WpO (mulD (.int i) (.int j)) Q := by
  rw [mul_sm a b c d]; exact h
theorem wpo_mod {i j : Int} {Q : D → Prop} (hj : 0 < j) (h : ∀ z, 0 ≤ z → z < j → Q (.int z)) : WpO (modD (.int i) (.int j)) Q := by
  rw [mod_ii, if_pos hj]
  exact h _ (Int.emod_nonneg _ (by omega)) (Int.emod_lt_of_pos _ hj)
theorem fdiv_sm {i j : Int} (hj : 0 < j) (hk : j < 2 ^ 250) : fdivD (.int i) (.int j) = some (.int (i / j)) := by
  have : j.natAbs.log2 < 250 := (Nat.log2_lt (by omega)).mpr (by omega)
  rw [fdiv_ii, if_pos ⟨hj, by omega⟩]
theorem wpo_fdiv {i j : Int} {Q : D → Prop} (hj : 0 < j) (hk : j < 2 ^ 250) (h : Q (.int (i / j))) : WpO (fdivD (.int i) (.int j)) Q := by
  rw [fdiv_sm hj hk]
  exact h
theorem p1018 : powD (.int 10) (.int 18) = some (.int 1000000000000000000) := by rw [pow_ii, if_pos (by decide)]; rfl
theorem p1030 : powD (.int 10) (.int 30) = some (.int 1000000000000000000000000000000) := by rw [pow_ii, if_pos (by decide)]; rfl
theorem wp_ixloc {n : Nat} {y : D} : Wp (ixW L (.loc n) (.d y)) Q = match L[n]? with
  | some (.dic kvs) => WpO ((keyOf y).bind (look kvs)) fun w => Q w L
  | _ => Wp (pureD L ((rd L (.loc n)).bind fun x => ixD x y)) Q := by
  simp only [ixW, rd_d, Option.bind_some]
  cases L[n]? with
  | none => rfl
  | some o => cases o with
    | dic kvs => dsimp only; cases (keyOf y).bind (look kvs) <;> rfl
    | _ => rfl
theorem wp_rngI {Q : Its → LH → Prop} : Wp (iRng1 a env L) Q = Wp (a env L) fun w L1 => match w with | .d (.int j) => (-(2 ^ 62) ≤ j ∧ j < 2 ^ 62) ∧ Q ⟨rngD 0 j.toNat, fun _ => True⟩ L1 | _ => False := by
  simp only [iRng1, wp_bind]
  congr 1
  funext w L1
  cases w with
  | loc _ => rfl
  | d x =>
    cases x with
    | int j =>
      dsimp only
      split
      · rename_i h; simp only [Wp, h, and_self, true_and]
      · rename_i h; simp only [Wp, h, false_and]
    | _ => rfl
/-! isinstance -/
def isTup : D → Bool
  | .tup _ => true
  | _ => false
def isInt : D → Bool
  | .int _ => true
  | .bl _ => true
  | _ => false
def isBl : D → Bool
  | .bl _ => true
  | _ => false
/-- a value of a built-in type, or one of the class cl -/
def kn (cl : Option Addr) : D → Bool
  | .ob C _ => decide (cl = some C)
  | .rf _ => false
  | .scr _ => false
  | .ty _ => false
  | _ => true
theorem isB_eq {t T : String} (h : t ∈ tys) (h2 : T ∈ ["bool", "int", "str", "tuple", "list", "dict"]) : isB t T = some (decide (t = T) || (decide (t = "bool") && decide (T = "int"))) := by rw [isB, if_pos ⟨h, h2⟩]
theorem isi_eq {cl : Option Addr} (h : kn cl x = true) {T : String} (h2 : T ∈ ["bool", "int", "str", "tuple", "list", "dict"]) :
    isiD cl [x, .ty T] = some (.bl (match tyD x with | some t => decide (t = T) || (decide (t = "bool") && decide (T = "int")) | none => false)) := by
  cases x with
  | ob C fs =>
    simp only [kn, decide_eq_true_eq] at h
    rw [isiD, if_pos ⟨h, h2⟩]
    rfl
  | rf _ => simp [kn] at h
  | scr _ => simp [kn] at h
  | ty _ => simp [kn] at h
  | _ => (simp only [isiD, tyD, Option.bind_some]; rw [isB_eq (by decide) h2]; rfl)
theorem isi_tup {cl : Option Addr} (h : kn cl x = true) : isiD cl [x, .ty "tuple"] = some (.bl (isTup x)) := by
  rw [isi_eq h (by decide)]
  cases x <;> first | rfl | simp [tyD, isTup]
theorem isi_int {cl : Option Addr} (h : kn cl x = true) : isiD cl [x, .ty "int"] = some (.bl (isInt x)) := by
  rw [isi_eq h (by decide)]
  cases x <;> first | rfl | simp [tyD, isInt]
theorem isi_bl {cl : Option Addr} (h : kn cl x = true) : isiD cl [x, .ty "bool"] = some (.bl (isBl x)) := by
  rw [isi_eq h (by decide)]
  cases x <;> first | rfl | simp [tyD, isBl]
/-- an integer, no bool -/
def isI : D → Bool
  | .int _ => true
  | _ => false
theorem isI_and : (isInt x && !isBl x) = isI x := by cases x <;> rfl
theorem isI_iff : isI x = true ↔ ∃ i, x = .int i := by cases x <;> simp [isI]
end
end MP
namespace MP
open PySem PySem.Spec PyProof.Rows L2
theorem wp_yes {env : Ev} {L : LH} {B : Bool → LH → Prop} : Wp (tYesM env L) B = B true L := rfl
theorem wipe0 {env : Ev} : wipeE env [] = env := rfl
theorem wipeS {env : Ev} {v : Nat} {vs : List Nat} : wipeE env (v :: vs) = (wipeE env vs).set v none := rfl
theorem Wp.eq {α : Type} {r : Res α} {a : α} {L : LH} (h : Wp r fun x M => x = a ∧ M = L) : r = .ok a L := by
  obtain ⟨b, M, e, rfl, rfl⟩ := h.of
  exact e
/-- a comprehension that changes nothing, over values made of cs -/
theorem wp_lcA {α : Type} {im : IM} {g : GM} {tt : BM} {te : EM} {vs : List Nat} {env : Ev} {L : LH} {Q : W → LH → Prop} (emb : α → D) (cs : List α) (p : α → Bool) (f : α → D)
    (h : Wp (im env L) fun its L1 => its.items = cs.map emb ∧ cs.length ≤ sizeLine ∧ (∀ acc, its.same (L1 ++ [.lst acc])) ∧ Q (.d (.lst ((cs.filter p).map f))) L1)
    (h2 : ∀ c ∈ cs, ∀ M, WpO (g M (.d (emb c)) (wipeE env vs)) fun e => Wp (tt e M) fun b M1 => b = p c ∧ M1 = M ∧ (p c = true → Wp (te e M) fun w M2 => w = .d (f c) ∧ M2 = M)) : Wp (mLc im g tt te vs env L) Q := by
  refine wp_lc (h.imp fun its L1 ⟨he, hz, hs, hq⟩ => ⟨fun xs acc L' => L' = L1 ∧ (∃ pre post, cs = pre ++ post ∧ xs = post.map emb ∧ acc = (pre.filter p).map f), ⟨rfl, [], cs, rfl, he, rfl⟩, ?_, ?_⟩)
  · rintro x r acc L' ⟨rfl, pre, post, hp, hx, rfl⟩ _
    refine ⟨hs _, ?_⟩
    cases post with
    | nil => simp at hx
    | cons c post =>
      simp only [List.map_cons, List.cons.injEq] at hx
      obtain ⟨rfl, rfl⟩ := hx
      have hxm := h2 c (by rw [hp]; simp) (L' ++ [.lst ((pre.filter p).map f)])
      cases q : g (L' ++ [.lst ((pre.filter p).map f)]) (.d (emb c)) (wipeE env vs) with
      | none => rw [q] at hxm; exact hxm.elim
      | some e =>
        rw [q] at hxm
        dsimp only [WpO] at hxm ⊢
        refine hxm.imp fun b M ⟨hb, hM, ht⟩ => ?_
        subst hb
        subst hM
        by_cases hb : p c = true
        · rw [if_pos hb]
          refine (ht hb).imp fun w M2 ⟨hw, hM⟩ => ?_
          subst hw
          subst hM
          refine ⟨f c, L', rfl, rfl, rfl, ?_, rfl, pre ++ [c], post, by rw [hp]; simp, rfl, by simp [List.filter_append, hb]⟩
          rw [List.length_map]
          have h4 := List.length_filter_le p pre
          have h5 : cs.length = pre.length + (post.length + 1) := by rw [hp]; simp
          omega
        · rw [if_neg hb]
          exact ⟨L', rfl, rfl, rfl, pre ++ [c], post, by rw [hp]; simp, rfl, by simp [List.filter_append, hb]⟩
  · rintro acc L' ⟨rfl, pre, post, hp, hx, rfl⟩ _
    have : post = [] := by cases post with
      | nil => rfl
      | cons _ _ => simp at hx
    subst this
    rw [List.append_nil] at hp
    subst hp
    exact ⟨hs _, Keep.refl', hq⟩
/-- .. with no test -/
theorem wp_lcB {α : Type} {im : IM} {g : GM} {te : EM} {vs : List Nat} {env : Ev} {L : LH} {Q : W → LH → Prop} (emb : α → D) (cs : List α) (f : α → D)
    (h : Wp (im env L) fun its L1 => its.items = cs.map emb ∧ cs.length ≤ sizeLine ∧ (∀ acc, its.same (L1 ++ [.lst acc])) ∧ Q (.d (.lst (cs.map f))) L1)
    (h2 : ∀ c ∈ cs, ∀ M, WpO (g M (.d (emb c)) (wipeE env vs)) fun e => Wp (te e M) fun w M2 => w = .d (f c) ∧ M2 = M) : Wp (mLc im g tYesM te vs env L) Q := by
  refine wp_lcA emb cs (fun _ => true) f (h.imp fun its L1 ⟨a, b, c, d⟩ => ⟨a, b, c, ?_⟩) fun c hc M => ?_
  · rw [List.filter_eq_self.mpr fun _ _ => rfl]
    exact d
  · have := h2 c hc M
    cases q : g M (.d (emb c)) (wipeE env vs) with
    | none => rw [q] at this; exact this.elim
    | some e =>
      rw [q] at this
      exact ⟨rfl, rfl, fun _ => this⟩
theorem allD0 : allD ([] : List (Key × W)) = some [] := rfl
theorem allD1 {κ : Type} {k : κ} {x : D} {r : List (κ × W)} : allD ((k, .d x) :: r) = (allD r).map ((k, x) :: ·) := rfl
theorem fzW_dic {L : LH} {kvs : List (Key × W)} {ks : List (Key × D)} (h : allD kvs = some ks) : fzW (L ++ [.dic kvs]) (.loc L.length) = some (.dct ks, L ++ [.frz (.dct ks)]) := by
  have e : (L ++ [LO.dic kvs])[L.length]? = some (.dic kvs) := by simp
  simp only [fzW, e, h, Option.map_some]
  simp
theorem wp_fd0 {env : Ev} {L : LH} {Q : W → LH → Prop} : Wp (mFrz (mDicM [] aNil) env L) Q = Q (.d (.dct [])) (L ++ [.frz (.dct [])]) := by
  have e : (L ++ [LO.dic []])[L.length]? = some (.dic []) := by simp
  rw [wp_mFrz, wp_dicM, wp_nil, e]
  simp only [List.length_nil, true_and]
  rw [show (L ++ [LO.dic []]).set L.length (.dic (([] : List Key).zip ([] : List W))) = L ++ [.dic []] by simp, fzW_dic allD0, wpo_some]
theorem wp_fd1 {env : Ev} {L : LH} {Q : W → LH → Prop} {k : Key} {x : D} : Wp (mFrz (mDicM [k] (aCons (mD x) aNil)) env L) Q = Q (.d (.dct [(k, x)])) (L ++ [.frz (.dct [(k, x)])]) := by
  have e : (L ++ [LO.dic []])[L.length]? = some (.dic []) := by simp
  rw [wp_mFrz, wp_dicM, wp_cons, wp_mD, wp_nil, e]
  simp only [List.length_nil, List.length_cons, true_and]
  rw [show (L ++ [LO.dic []]).set L.length (.dic ([k].zip [W.d x])) = L ++ [.dic [(k, .d x)]] by simp, fzW_dic (ks := [(k, x)]) rfl, wpo_some]
theorem mul_mem {xs : List D} {k : Int} (h0 : 0 ≤ k) (h1 : k ≤ 1000) (hx : xs.length ≤ 1000) : ∃ zs, mulD (.lst xs) (.int k) = some (.lst zs) ∧ zs.length = xs.length * k.toNat ∧ ∀ y ∈ zs, y ∈ xs := by
  refine ⟨(List.replicate k.toNat xs).flatten, ?_, ?_, ?_⟩
  · have hz : sizeLine = 16777216 := by decide
    have : xs.length * k.toNat ≤ 1000 * 1000 := Nat.mul_le_mul hx (by omega)
    rw [mulD, if_pos ⟨by omega, by omega, by rw [hz]; omega⟩]
  · simp [Nat.mul_comm]
  · intro y hy
    obtain ⟨l, hl, hy⟩ := List.mem_flatten.mp hy
    rw [(List.mem_replicate.mp hl).2] at hy
    exact hy
theorem szt {k : Nat} (h : k ≤ 16777216) : (k ≤ sizeLine) = True := eq_true (by rw [sm2]; exact h)
theorem sz0 : (0 ≤ sizeLine) = True := szt (by decide)
theorem sz1 : (1 ≤ sizeLine) = True := szt (by decide)
theorem sz2 : (2 ≤ sizeLine) = True := szt (by decide)
theorem sz3 : (3 ≤ sizeLine) = True := szt (by decide)
theorem sz4 : (4 ≤ sizeLine) = True := szt (by decide)
theorem sz5 : (5 ≤ sizeLine) = True := szt (by decide)
theorem sz6 : (6 ≤ sizeLine) = True := szt (by decide)
theorem sz7 : (7 ≤ sizeLine) = True := szt (by decide)
theorem sz8 : (8 ≤ sizeLine) = True := szt (by decide)
theorem sz9 : (9 ≤ sizeLine) = True := szt (by decide)
theorem sz10 : (10 ≤ sizeLine) = True := szt (by decide)
theorem sz11 : (11 ≤ sizeLine) = True := szt (by decide)
theorem sz12 : (12 ≤ sizeLine) = True := szt (by decide)
theorem sz13 : (13 ≤ sizeLine) = True := szt (by decide)
theorem sz14 : (14 ≤ sizeLine) = True := szt (by decide)
theorem sz15 : (15 ≤ sizeLine) = True := szt (by decide)
theorem sz16 : (16 ≤ sizeLine) = True := szt (by decide)
theorem sz17 : (17 ≤ sizeLine) = True := szt (by decide)
theorem sz18 : (18 ≤ sizeLine) = True := szt (by decide)
theorem sz19 : (19 ≤ sizeLine) = True := szt (by decide)
theorem sz20 : (20 ≤ sizeLine) = True := szt (by decide)
theorem sz21 : (21 ≤ sizeLine) = True := szt (by decide)
theorem sz22 : (22 ≤ sizeLine) = True := szt (by decide)
theorem sz23 : (23 ≤ sizeLine) = True := szt (by decide)
theorem sz24 : (24 ≤ sizeLine) = True := szt (by decide)
theorem sz25 : (25 ≤ sizeLine) = True := szt (by decide)
theorem sz26 : (26 ≤ sizeLine) = True := szt (by decide)
theorem sz27 : (27 ≤ sizeLine) = True := szt (by decide)
theorem sz28 : (28 ≤ sizeLine) = True := szt (by decide)
theorem sz29 : (29 ≤ sizeLine) = True := szt (by decide)
theorem sz30 : (30 ≤ sizeLine) = True := szt (by decide)
theorem sz31 : (31 ≤ sizeLine) = True := szt (by decide)
theorem sz32 : (32 ≤ sizeLine) = True := szt (by decide)
theorem sz33 : (33 ≤ sizeLine) = True := szt (by decide)
theorem sz34 : (34 ≤ sizeLine) = True := szt (by decide)
theorem sz35 : (35 ≤ sizeLine) = True := szt (by decide)
theorem sz36 : (36 ≤ sizeLine) = True := szt (by decide)
theorem sz37 : (37 ≤ sizeLine) = True := szt (by decide)
theorem sz38 : (38 ≤ sizeLine) = True := szt (by decide)
theorem sz39 : (39 ≤ sizeLine) = True := szt (by decide)
theorem sz40 : (40 ≤ sizeLine) = True := szt (by decide)
theorem sz41 : (41 ≤ sizeLine) = True := szt (by decide)
theorem sz42 : (42 ≤ sizeLine) = True := szt (by decide)
theorem sz43 : (43 ≤ sizeLine) = True := szt (by decide)
theorem sz44 : (44 ≤ sizeLine) = True := szt (by decide)
theorem sz45 : (45 ≤ sizeLine) = True := szt (by decide)
theorem sz46 : (46 ≤ sizeLine) = True := szt (by decide)
theorem sz47 : (47 ≤ sizeLine) = True := szt (by decide)
theorem sz48 : (48 ≤ sizeLine) = True := szt (by decide)
theorem sz49 : (49 ≤ sizeLine) = True := szt (by decide)
theorem sz50 : (50 ≤ sizeLine) = True := szt (by decide)
theorem sz51 : (51 ≤ sizeLine) = True := szt (by decide)
theorem sz52 : (52 ≤ sizeLine) = True := szt (by decide)
theorem sz53 : (53 ≤ sizeLine) = True := szt (by decide)
theorem sz54 : (54 ≤ sizeLine) = True := szt (by decide)
theorem sz55 : (55 ≤ sizeLine) = True := szt (by decide)
theorem sz56 : (56 ≤ sizeLine) = True := szt (by decide)
theorem sz57 : (57 ≤ sizeLine) = True := szt (by decide)
theorem sz58 : (58 ≤ sizeLine) = True := szt (by decide)
theorem sz59 : (59 ≤ sizeLine) = True := szt (by decide)
theorem sz60 : (60 ≤ sizeLine) = True := szt (by decide)
theorem sz61 : (61 ≤ sizeLine) = True := szt (by decide)
theorem sz62 : (62 ≤ sizeLine) = True := szt (by decide)
theorem sz63 : (63 ≤ sizeLine) = True := szt (by decide)
theorem wp_mMake {C : Addr} {f : Fs} {as : AM} {env : Ev} {L : LH} {Q : W → LH → Prop} : Wp (mMake C f as env L) Q = Wp (as env L) fun ws L1 => Wp (f (.loc L1.length :: ws) (L1 ++ [.ins C []])) fun r L2 => match r with | .d .non => Q (.loc L1.length) L2 | _ => False := by
  simp only [mMake, wp_bind]
  congr 1
  funext ws L1
  congr 1
  funext r L2
  cases r with
  | loc _ => rfl
  | d x => cases x <;> rfl
theorem wps_fld {C : Addr} {f : Str} {v o : EM} {env : Ev} {L : LH} {S : Qs} : WpS (sFld C f v o env L) S = Wp (v env L) fun w L1 => Wp (o env L1) fun x L2 => match x with
  | .loc n => match L2[n]? with
    | some (.ins C' fs) => (C' = C ∧ fs.length < 1000) ∧ S.nx env (L2.set n (.ins C (putA f w fs)))
    | _ => False
  | _ => False := by
  simp only [sFld, wp_ofE]
  congr 1
  funext w L1
  congr 1
  funext x L2
  cases x with
  | d _ => rfl
  | loc n =>
    dsimp only
    cases L2[n]? with
    | none => rfl
    | some o =>
      cases o with
      | ins C' fs =>
        dsimp only
        split
        · rename_i h; simp [WpS, h]
        · rename_i h; simp only [WpS, h, false_and]
      | _ => rfl
theorem last_at {L : LH} {o : LO} : (L ++ [o])[L.length]? = some o := by simp
theorem last_set {L : LH} {o o' : LO} : (L ++ [o]).set L.length o' = L ++ [o'] := by simp
end MP
namespace MP
open PySem PySem.Spec PyProof.Rows L2
/-! ### list(range(a, b)) -/
def rngV (lo : Int) (n : Nat) : List V := (List.range n).map fun i => .int (lo + (i : Nat))
theorem rngRV {K : PySem.W.Frag} {I : Hp} {lo : Int} {n : Nat} : RDs K I (rngD lo n) (rngV lo n) := by
  have key : ∀ ks : List Nat, RDs K I (ks.map fun i => D.int (lo + (i : Nat))) (ks.map fun i => V.int (lo + (i : Nat))) := fun ks => by
    induction ks with
    | nil => exact .nil
    | cons k r ih => exact .cons (.int _) ih
  exact key _
theorem vals_at : ∀ {vs : List V} {us : List Value}, us.length = vs.length → (∀ (j : Nat) (v : V) (u : Value), vs[j]? = some v → us[j]? = some u → RelV v u) → Vals vs us
  | [], [], _, _ => .nil
  | [], _ :: _, h, _ => by simp at h
  | _ :: _, [], h, _ => by simp at h
  | v :: vs, u :: us, h, k => .cons (k 0 v u rfl rfl) (vals_at (by simpa using h) fun j a b x y => k (j + 1) a b x y)
section
variable {X : Cx} {Wx : WX}
theorem cr_listRng (hc : X.calm = true) : CallR X (.type "list") (fun xs H Q => ∃ (a : Addr) (lo hi : Int), xs = [.ref a] ∧ H a = some (.rng lo hi) ∧ (-(2 ^ 62) ≤ lo ∧ lo < 2 ^ 62 ∧ -(2 ^ 62) ≤ hi ∧ hi < 2 ^ 62 ∧ (hi - lo).toNat ≤ 16777216) ∧ ∀ p, H p = none → Q (.ref p) (upd H p (.lst (rngV lo (hi - lo).toNat)))) := by
  intro pins s σ H xs us Q J rv ⟨a, lo, hi, e, ha, ⟨b1, b2, b3, b4, b5⟩, q⟩
  subst e
  obtain ⟨u, eu, rx⟩ := vals1 rv
  subst eu
  cases rx
  have ob := J.hok a _ ha
  obtain ⟨t, u, v, hr⟩ := ob
  have hz : sizeLine = 16777216 := by decide
  refine call_list_range (n := (hi - lo).toNat) (J.ok.hd hc) hr (small_one b1 b2 b3 b4) (rangeSize_nat lo hi) (by omega) fun h' tk acc c' hk hD hacc => ?_
  have hv : Vals (rngV lo (hi - lo).toNat) acc.toList := vals_at (by rw [Array.length_toList, hacc.1]; simp [rngV]) fun j v u h1 h2 => by
    obtain ⟨t', e'⟩ := hacc.2 j u (by rw [← Array.getElem?_toList]; exact h2)
    simp only [rngV, List.getElem?_map, Option.map_eq_some_iff] at h1
    obtain ⟨k, h3, rfl⟩ := h1
    have := List.getElem?_eq_some_iff.mp h3
    obtain ⟨h4, h5⟩ := this
    rw [List.getElem_range] at h5
    subst h5
    rw [e', Int.mul_one]
    exact ⟨t', rfl⟩
  refine ⟨.ref s.heap.objs.size, upd H s.heap.objs.size (.lst (rngV lo (hi - lo).toNat)), J.laid (t' := tk) hk (Nat.le_refl _)
    (show ObjOk X.prog X.w _ _ _ (.lst _) from ⟨by simp only [rngV, List.length_map, List.length_range]; omega, acc.toList, c', hv, by rw [Array.toArray_toList]; exact hD⟩), rfl, q _ (J.hok.fresh (Nat.le_refl _))⟩
def mLRng (a : AM) : EM := fun env L => (a env L).bind fun ws L1 => match ws with
  | [.d (.int i), .d (.int j)] => if -(2 ^ 62) ≤ i ∧ i < 2 ^ 62 ∧ -(2 ^ 62) ≤ j ∧ j < 2 ^ 62 ∧ (j - i).toNat ≤ 16777216 then .ok (.d (.lst (rngD i (j - i).toNat))) L1 else .bad
  | _ => .bad
theorem re_lrng {e : Expr} {es : List Expr} {ms : AM} {p pos p2 pos2 : Pos} (hc : X.calm = true) (hg : Gl X "list") (hm : X.mg "list" = none) (hg2 : Gl X "range") (hm2 : X.mg "range" = none) (ha : RA X Wx (e :: es) ms)
    (he : starEach (e :: es) X.env = (false, eval e X.env) :: starEach es X.env := by rfl) (hpl : (backTo pos2 (starEach es X.env)).any (·.1) = false := by rfl)
    (he2 : starEach [.Call (.Name "range" p2) (e :: es) [] pos2] X.env = (false, eval (.Call (.Name "range" p2) (e :: es) [] pos2) X.env) :: starEach [] X.env := by rfl) (hpl2 : (backTo pos (starEach [] X.env)).any (·.1) = false := by rfl) :
    RE X Wx (.Call (.Name "list" p) [.Call (.Name "range" p2) (e :: es) [] pos2] [] pos) (mLRng ms) := by
  have inner := pe_callTy (X := X) (p := p2) (pos := pos2) cr_range2 hg2 hm2 (by decide +kernel) ha (by decide) (by decide) he hpl
  refine (pe_callTy (X := X) (cr_listRng hc) hg hm (by decide +kernel) (pa_cons inner pa_nil he2) (by decide) (by decide) he2 hpl2).imp fun σ H Q h => ?_
  obtain ⟨env, L, I, μ, er, hr, h⟩ := h
  refine (TG.seq er hr h).imp fun vs H1 ⟨L1, I1, μ1, ws, e1, er1, hr1, r1, h1⟩ => ?_
  split at h1
  · rename_i i j
    split at h1
    · rename_i hb
      cases r1 with | cons ra rt =>
      cases rt with | cons rb rt =>
      cases rt
      cases ra with | d ra =>
      cases rb with | d rb =>
      cases ra
      cases rb
      refine ⟨i, j, rfl, fun q hq => ?_⟩
      refine ⟨q, i, j, rfl, upd_same, hb, fun l hl => ?_⟩
      have hr2 := hr1.junk (.rng i j) hq
      exact h1 (upd I1 l (.lst (rngV i (j - i).toNat))) μ1 _ _ (Ext.of μ1 (same_upd (hr2.sub.free hl))) (hr2.step _ hl) (.d (.lst upd_same rngRV))
    · exact h1.elim
  · exact h1.elim
end
theorem wp_lrng {a : AM} {env : Ev} {L : LH} {Q : W → LH → Prop} : Wp (mLRng a env L) Q = Wp (a env L) fun ws L1 => match ws with
  | [.d (.int i), .d (.int j)] => (-(2 ^ 62) ≤ i ∧ i < 2 ^ 62 ∧ -(2 ^ 62) ≤ j ∧ j < 2 ^ 62 ∧ (j - i).toNat ≤ 16777216) ∧ Q (.d (.lst (rngD i (j - i).toNat))) L1
  | _ => False := by
  simp only [mLRng, wp_bind]
  congr 1
  funext ws L1
  split
  · split
    · rename_i h; simp only [Wp, h, and_self, true_and]
    · rename_i h; simp only [Wp, h, false_and]
  · rfl
end MP
namespace MP
open PySem PySem.Spec PyProof.Rows L2
/-! ### tuple * 1: itself -/
theorem tuple_mul1 (l : Addr) (items : Array Value) (n : Nat) (dd : Option Addr) (sl : Array (Option Value)) (u : Tok) (x : Int) (c0 : (decide (x < -(2 ^ 63)) || decide (x ≥ 2 ^ 63)) = false) (c1 : (items.isEmpty || x == 1) = true) :
    Meets (Builtin.«tuple.__mul__» ⟨[.ref l, .int x u], []⟩) (fun _ R s => s.heap.get? l = some { cls := .type "tuple", dict := dd, data := .seq items n, slots := sl } ∧ R (.ok (.ret (Value.ref l))) s) :=
  .of_wp fun prog w A R s h => by
    obtain ⟨hp, g, d, tk, os⟩ := s
    obtain ⟨hl, h⟩ := h
    have f1 := AutoSeq1.idx_int
    wp_walk using wpAny_loadPart' hl
    repeat (first
      | (refine wpAny_ite_false (decide_eq_false (by rw [c0]; exact Bool.false_ne_true)) ?_; wp_walk using wpAny_loadPart' hl)
      | (refine wpAny_ite_true (decide_eq_true c1) ?_; wp_walk using wpAny_loadPart' hl))
    exact ⟨_, rfl, h⟩
def rRepT1 (K : PySem.W.Frag) : R2 := fun x y H Q => ∃ l k xs, x = .ref l ∧ y = .int k ∧ SqT K H l xs ∧ k = 1 ∧ Q (.ref l) H
section
variable {X : Cx} {Wx : WX} {a b : Expr} {ma mb : EM} {pos : Pos}
theorem op_repT1 : OpR X (binaryOp .Mult) (rRepT1 X.K) := by
  intro pins s σ H x y v u Q I rx ry h
  obtain ⟨l, k, xs, rfl, rfl, hT, rfl, q⟩ := h
  cases rx
  obtain ⟨t, rfl⟩ := ry
  obtain ⟨its, r, ⟨⟨cls, dd, data, sl⟩, ho, hc, n, hd⟩, hs⟩ := I.tuple hT
  simp only at hc hd
  subst hc hd
  have c0 : (decide ((1 : Int) < -(2 ^ 63)) || decide ((1 : Int) ≥ 2 ^ 63)) = false := by decide
  have c1 : (its.toArray.isEmpty || (1 : Int) == 1) = true := by simp
  exact wpAny_binaryOp_repeat_ref (T := "tuple") (U := "int") (by decide) ⟨_, ho, rfl⟩ (fun s' => typeIs_int s' 1 t) noFill_tuple_mul F.fills_int_mul F.slot_int_rmul repeat_tuple F.slot_int_index.lookup
    (call_meets F.slot_int_rmul (typeIs_int s 1 t) F.entry_int_rmul (F.args_int_rmul_2 _ _) (int_rmul_tuple 1 t l its.toArray n dd sl)
      ⟨ho, rfl, ⟨_, ho, rfl⟩, call_meets F.slot_tuple_mul ⟨_, ho, rfl⟩ F.entry_tuple_mul (F.args_tuple_mul_2 _ _) (tuple_mul1 l its.toArray n dd sl t 1 c0 c1) ⟨ho, .ref l, H, I, rfl, q⟩⟩)
end
def mulT (x y : D) : Option D := match x, y with
  | .tup xs, .int k => if k = 1 then some (.tup xs) else mulD (.tup xs) (.int k)
  | x, y => mulD x y
theorem s_mulT {K : PySem.W.Frag} : Op2 K mulT (fun x y H Q => rMulAll K x y H Q ∨ rRepT1 K x y H Q) := by
  intro I H x y z v u Q s e rx ry q
  unfold mulT at e
  split at e
  · split at e
    · rename_i hk
      subst hk
      cases e
      cases (rx : RD _ _ _ _) with | tup hp rp =>
      cases (ry : RD _ _ _ _)
      exact .inr ⟨_, _, _, rfl, rfl, sqT_mono s hp, rfl, q _ _ _ .refl (.tup hp rp)⟩
    · exact .inl (s_mul I H _ _ z v u Q s e rx ry q)
  · exact .inl (s_mul I H _ _ z v u Q s e rx ry q)
theorem mulT_i {x : D} {j : Int} : mulT (.int j) x = mulD (.int j) x := rfl
theorem mulT_l {xs : List D} {x : D} : mulT (.lst xs) x = mulD (.lst xs) x := rfl
section
variable {X : Cx} {Wx : WX} {a b : Expr} {ma mb : EM} {pos : Pos}
theorem re_mulT (ha : RE X Wx a ma) (hb : RE X Wx b mb) : RE X Wx (.BinOp a .Mult b pos) (m2 mulT ma mb) := re_op (o_mul.or op_repT1) s_mulT ha hb
end
end MP
namespace MP
open PySem PySem.Spec PyProof.Rows L2
theorem szl {k : Nat} (h : k ≤ 16777216 := by decide) : k ≤ sizeLine := by rw [sm2]; exact h
/-! known all through -/
mutual
def gd (cl : Option Addr) : D → Bool
  | .tup xs => decide (xs.length ≤ 16777216) && gds cl xs
  | .lst xs => decide (xs.length ≤ 16777216) && gds cl xs
  | .ob C _ => decide (cl = some C)
  | .rf _ => false
  | .scr _ => false
  | .ty _ => false
  | _ => true
def gds (cl : Option Addr) : List D → Bool
  | [] => true
  | x :: r => gd cl x && gds cl r
end
theorem gds_iff {cl : Option Addr} {xs : List D} : gds cl xs = true ↔ ∀ x ∈ xs, gd cl x = true := by
  induction xs with
  | nil => simp [gds]
  | cons x r ih => simp [gds, ih]
theorem gd_kn {cl : Option Addr} {x : D} (h : gd cl x = true) : kn cl x = true := by
  cases x <;> first | rfl | simpa [gd, kn] using h
theorem gd_tup {cl : Option Addr} {xs : List D} (h : gd cl (.tup xs) = true) : xs.length ≤ sizeLine ∧ ∀ x ∈ xs, gd cl x = true := by
  simp only [gd, Bool.and_eq_true, decide_eq_true_eq] at h
  exact ⟨by rw [sm2]; exact h.1, gds_iff.mp h.2⟩
theorem Sms.len {w n : Nat} {xs : List D} (h : Sms w n xs) : 2 * xs.length ≤ w := by
  have key : ∀ xs : List D, 2 * xs.length ≤ wts xs := fun xs => by
    induction xs with
    | nil => simp [wts]
    | cons x r ih => simp only [List.length_cons, wts]; omega
  have := key xs
  have := h.2
  omega
mutual
theorem gd_of (cl : Option Addr) : ∀ (x : D) (n w : Nat), Sm w n x → w ≤ 33554432 → gd cl x = true
  | .non, _, _, _, _ => rfl
  | .bl _, _, _, _, _ => rfl
  | .int _, _, _, _, _ => rfl
  | .str _, _, _, _, _ => rfl
  | .dct _, _, _, _, _ => rfl
  | .ob _ _, n, _, h, _ => by have := h.1; simp [pl] at this
  | .rf _, n, _, h, _ => by have := h.1; simp [pl] at this
  | .scr _, n, _, h, _ => by have := h.1; simp [pl] at this
  | .ty _, n, _, h, _ => by have := h.1; simp [pl] at this
  | .tup xs, n, w, h, hw => by
    have h1 := h.un_tup
    have := h1.len
    simp only [gd, Bool.and_eq_true, decide_eq_true_eq]
    exact ⟨by omega, gds_of cl xs _ w h1 hw⟩
  | .lst xs, n, w, h, hw => by
    have h1 := h.un_lst
    have := h1.len
    simp only [gd, Bool.and_eq_true, decide_eq_true_eq]
    exact ⟨by omega, gds_of cl xs _ w h1 hw⟩
theorem gds_of (cl : Option Addr) : ∀ (xs : List D) (n w : Nat), Sms w n xs → w ≤ 33554432 → gds cl xs = true
  | [], _, _, _, _ => rfl
  | x :: r, n, w, h, hw => by
    have h1 := h.1
    have h2 := h.2
    simp only [pls, Bool.and_eq_true] at h1
    simp only [wts] at h2
    simp only [gds, Bool.and_eq_true]
    exact ⟨gd_of cl x n w ⟨h1.1, by omega⟩ hw, gds_of cl r n w ⟨h1.2, by omega⟩ hw⟩
end
theorem i3 {n : Nat} : decide ((n : Int) = 3) = decide (n = 3) := decide_eq_decide.mpr (by omega)
theorem i3n {n : Nat} : (!decide ((n : Int) = 3)) = !decide (n = 3) := by rw [i3]
theorem emp_map {α β : Type} {f : α → β} {xs : List α} : (xs.map f).isEmpty = xs.isEmpty := by cases xs <;> rfl
theorem emp_filter {α : Type} {p : α → Bool} {xs : List α} : (!(xs.filter p).isEmpty) = xs.any p := by
  induction xs with
  | nil => rfl
  | cons x r ih =>
    rw [List.filter_cons, List.any_cons]
    split
    · rename_i h; simp [h]
    · rename_i h; simp [h, ih]
theorem emp_filter' {α : Type} {p : α → Bool} {xs : List α} : (xs.filter p).isEmpty = !xs.any p := by rw [← emp_filter, Bool.not_not]
theorem lt1 {i : Int} : decide (i < 1) = !decide (1 ≤ i) := by
  by_cases h : 1 ≤ i
  · simp [h]
  · simp [h]; omega
/-- a fraction in lowest terms -/
def fr (t b : Int) : Int × Int := (t / (Int.gcd t b : Int), b / (Int.gcd t b : Int))
def frD (f : Int × Int) : D := .tup [.int f.1, .int f.2]
theorem fr_ok {t b : Int} (hb : 0 < b) : 0 < (Int.gcd t b : Int) ∧ (Int.gcd t b : Int) ≤ b ∧ 0 < (fr t b).2 ∧ (fr t b).2 ≤ b ∧ (0 ≤ t → 0 ≤ (fr t b).1 ∧ (fr t b).1 ≤ t) := by
  have h0 : 0 < Int.gcd t b := Int.gcd_pos_of_ne_zero_right _ (by omega)
  have h1 : (Int.gcd t b : Int) ∣ b := Int.gcd_dvd_right ..
  have h2 : (Int.gcd t b : Int) ≤ b := Int.le_of_dvd hb h1
  have h3 : 0 < b / (Int.gcd t b : Int) := Int.ediv_pos_of_pos_of_dvd hb (by omega) h1
  refine ⟨by omega, h2, h3, Int.ediv_le_self _ (by omega), fun ht => ⟨Int.ediv_nonneg ht (by omega), Int.ediv_le_self _ ht⟩⟩
theorem gcd_ii {i j : Int} : gcdD [.int i, .int j] = some (.int (Int.gcd i j : Int)) := rfl
theorem enum_zip {xs : List D} {k : Nat} : enumD k xs = (xs.zipIdx k).map fun p => .tup [.int p.2, p.1] := by
  induction xs generalizing k with
  | nil => rfl
  | cons x r ih =>
    rw [List.zipIdx_cons, List.map_cons, ← ih]
    rfl
theorem enum_map {α : Type} {f : α → D} {xs : List α} : enumD 0 (xs.map f) = xs.zipIdx.map fun p => .tup [.int p.2, f p.1] := by
  have := enum_zip (xs := xs.map f) (k := 0)
  rw [this, List.zipIdx_map, List.map_map]
  rfl
theorem mem_zip {α : Type} {xs : List α} {p : α × Nat} (h : p ∈ xs.zipIdx) : xs[p.2]? = some p.1 := by
  obtain ⟨a, b⟩ := p
  exact List.mem_zipIdx_iff_getElem?.mp h
theorem sm_i {i : Int} {n : Nat} (h0 : 0 ≤ i) (h1 : i < 1048576) : Sm 22 n (.int i) := Sm.int (k := 20) (by omega) (by decide)
theorem sOk_of {z : String} : sOk (Str.ofString z) = true := by
  rw [Str.ofString_eq_toList, sOk]
  refine Array.all_eq_true_iff_forall_mem.mpr fun c hc => ?_
  simp only [List.mem_toArray, List.mem_map] at hc
  obtain ⟨a, _, rfl⟩ := hc
  have h : a.toNat < 0xd800 ∨ (0xdfff < a.toNat ∧ a.toNat < 0x110000) := a.valid
  have h2 : a.toNat < 0x110000 := by omega
  simpa using h2
theorem add_tts {xs ys : List D} (h : xs.length + ys.length ≤ 16777216) : addD (.tup xs) (.tup ys) = some (.tup (xs ++ ys)) := by rw [add_tt, if_pos (by rw [sm2]; exact h)]
theorem add_lls {xs ys : List D} (h : xs.length + ys.length ≤ 16777216) : addD (.lst xs) (.lst ys) = some (.lst (xs ++ ys)) := by rw [add_ll, if_pos (by rw [sm2]; exact h)]
mutual
/-- a tree of tuples, lists and small values -/
def tr : D → Bool
  | .non => true
  | .bl _ => true
  | .int i => decide (i.natAbs < 2 ^ 100)
  | .str s => sOk s
  | .tup xs => trs xs
  | .lst xs => trs xs
  | _ => false
def trs : List D → Bool
  | [] => true
  | x :: r => tr x && trs r
end
theorem trs_iff {xs : List D} : trs xs = true ↔ ∀ x ∈ xs, tr x = true := by
  induction xs with
  | nil => simp [trs]
  | cons x r ih => simp [trs, ih]
mutual
theorem pe_of_tr : ∀ (x : D) (n : Nat), tr x = true → pl x n = true → pe x n = true
  | .non, n, _, _ => by cases n <;> rfl
  | .bl _, n, _, _ => by cases n <;> rfl
  | .int i, n, _, _ => by cases n <;> rfl
  | .str s, n, h, _ => by cases n <;> simpa [pe, tr] using h
  | .tup xs, 0, h, h2 => by simp [pl] at h2
  | .lst xs, 0, h, h2 => by simp [pl] at h2
  | .tup xs, n + 1, h, h2 => by
    simp only [pe, pl, tr] at h h2 ⊢
    exact pes_of_tr xs n h h2
  | .lst xs, n + 1, h, h2 => by
    simp only [pe, pl, tr] at h h2 ⊢
    exact pes_of_tr xs n h h2
  | .dct _, n, h, _ => by simp [tr] at h
  | .ob _ _, n, h, _ => by simp [tr] at h
  | .rf _, n, h, _ => by simp [tr] at h
  | .scr _, n, h, _ => by simp [tr] at h
  | .ty _, n, h, _ => by simp [tr] at h
theorem pes_of_tr : ∀ (xs : List D) (n : Nat), trs xs = true → pls xs n = true → pes xs n = true
  | [], n, _, _ => rfl
  | x :: r, n, h, h2 => by
    simp only [trs, pls, pes, Bool.and_eq_true] at h h2 ⊢
    exact ⟨pe_of_tr x n h.1 h2.1, pes_of_tr r n h.2 h2.2⟩
end
theorem wps_mid {m n : SM} {env : Ev} {L : LH} {S : Qs} (Mid : Ev → LH → Prop) (h1 : WpS (m env L) { S with nx := Mid }) (h2 : ∀ e L', Mid e L' → WpS (n e L') S) : WpS (sSeq m n env L) S := by
  rw [wps_seq]
  exact h1.imp (fun e L' h => h2 e L' h) (fun _ _ h => h) (fun _ _ h => h) (fun _ _ h => h)
theorem wps_mid3 {A B C N : SM} {env : Ev} {L : LH} {S : Qs} (Mid : Ev → LH → Prop) (h1 : WpS (sSeq A (sSeq B C) env L) { S with nx := Mid }) (h2 : ∀ e L', Mid e L' → WpS (N e L') S) : WpS (sSeq A (sSeq B (sSeq C N)) env L) S := by
  simp only [wps_seq] at h1 ⊢
  refine h1.imp (fun e L' h => ?_) (fun _ _ h => h) (fun _ _ h => h) (fun _ _ h => h)
  refine h.imp (fun e L' h => ?_) (fun _ _ h => h) (fun _ _ h => h) (fun _ _ h => h)
  exact h.imp (fun e L' h => h2 e L' h) (fun _ _ h => h) (fun _ _ h => h) (fun _ _ h => h)
theorem zip_map {α : Type} {f g : α → D} {xs : List α} : zipD (xs.map f) (xs.map g) = xs.map fun c => .tup [f c, g c] := by
  induction xs with
  | nil => rfl
  | cons x r ih => simp only [List.map_cons, zipD, ih]
theorem keep0 {L : LH} : Keep 0 [] L := ⟨Nat.zero_le _, fun j hj => absurd hj (Nat.not_lt_zero _)⟩
end MP
namespace MP
open PySem PySem.Spec PyProof.Rows L2
/-! ### sum and max of a tuple -/
section
variable {prog : Program} {w : World} {A : Around} {E : Value → Shared → Prop} {s : Shared} {l : Addr} {xs : Array (Int × Tok)} {its : List Value} {ns : List Int} {Q : Value → Shared → Prop}
abbrev tIt (l : Addr) : Obj := { cls := .type "tuple_iterator", data := .fields #[.ref l, .int 0 0] }
theorem it_tup {vs : Array Value} (hl : s.heap.IsTuple l vs)
    (h : l ≠ s.heap.objs.size → (∀ b ∈ [s.heap.objs.size, l], b < (s.heap.push (tIt l)).objs.size) → ((s.heap.push (tIt l)).IsTupleIter s.heap.objs.size l 0 ∧ (s.heap.push (tIt l)).IsTuple l vs) → Q (.ref s.heap.objs.size) { s with heap := s.heap.push (tIt l) }) :
    wpAny (model prog w) A (pyIter (.ref l)) Q E s := by
  have hlt : l < s.heap.objs.size := hl.elim fun _ e => Heap.lt_size e.1
  refine wpAny_pyIter_tuple hl (h (Nat.ne_of_lt hlt) (fun b hb => ?_) ⟨⟨_, Heap.get?_push_size _ rfl, rfl, rfl⟩, hl.push _⟩)
  simp only [List.mem_cons, List.not_mem_nil, or_false] at hb
  rw [Heap.size_push]
  rcases hb with e | e <;> rw [e]
  · exact Nat.lt_succ_self _
  · exact Nat.lt_succ_of_lt hlt
theorem kept_push {o : Obj} {h' : Heap} (hk : ∀ b u, b ∉ [s.heap.objs.size] → (s.heap.push o).get? b = some u → h'.get? b = some u) : ∀ b u, s.heap.get? b = some u → h'.get? b = some u := fun b u e =>
  hk b u (fun z => by rw [List.mem_singleton.mp z] at e; exact Nat.lt_irrefl _ (Heap.lt_size e)) (Heap.get?_push_of_some _ e)
theorem max_rawT (hh : A.handled = none) (hl : s.heap.IsTuple l its.toArray) (hi : IntsAre its ns) (hne : 0 < ns.length)
    (h : ∀ h' tk M t', (∀ b o, s.heap.get? b = some o → h'.get? b = some o) → M ∈ ns → (∀ a, a ∈ ns → a ≤ M) → Q (.int M t') { s with heap := h', toks := tk }) : wpAny (model prog w) A (call (.builtin "max") [.ref l]) Q E s := by
  obtain ⟨xs, e⟩ := hi.allInts.items
  have hn : numsOf (intItems xs).toList = ns := by rw [← e]; exact hi.numsOf
  rw [nums_intItems] at hn; subst hn
  rw [e] at hl
  have h0 : 0 < xs.size := by simpa using hne
  refine call_max_walk (it_tup hl fun hx hb st => ⟨_, _, _, _, _, _, _, rfl, Walks.tuple (A := A.in1) hh _ l hx (intItems xs), st, hb, by simpa [intItems] using h0, CmpOf.ints_gt (numAt xs) (fun _ _ => intItems_at), fun v h' tk hP hk => ?_⟩)
  have hv : (intItems xs)[argBest (fun i j => decide (numAt xs i > numAt xs j)) (xs.size - 1)]? = some v := by simpa [intItems] using hP
  obtain ⟨t, rfl⟩ := intItems_at hv
  obtain ⟨h1, h2⟩ := argBest_gt (numAt xs) (xs.size - 1)
  refine h h' tk _ t (kept_push hk) ?_ fun a ha => ?_
  · rw [numAt_eq]; refine PySem.getD_mem ?_; rw [List.length_map, Array.length_toList]; omega
  · obtain ⟨j, hj, rfl⟩ := mem_getD ha
    rw [List.length_map, Array.length_toList] at hj
    rw [← numAt_eq]
    exact h2 j (by omega)
theorem sum_rawT (hh : A.handled = none) (hl : s.heap.IsTuple l its.toArray) (hi : IntsAre its ns)
    (h : ∀ h' tk t', (∀ b o, s.heap.get? b = some o → h'.get? b = some o) → Q (.int ns.sum t') { s with heap := h', toks := tk }) : wpAny (model prog w) A (call (.builtin "sum") [.ref l]) Q E s := by
  obtain ⟨xs, e⟩ := hi.allInts.items
  have hn : numsOf (intItems xs).toList = ns := by rw [← e]; exact hi.numsOf
  rw [nums_intItems] at hn; subst hn
  rw [e] at hl
  refine call_sum_walkG (it_tup hl fun hx hb st => ⟨_, _, _, _, _, _, numAt xs, rfl, Walks.tuple (A := A.in1) hh _ l hx (intItems xs), st, hb, (fun _ _ => intItems_at), fun h' tk t' hk => ?_⟩)
  have h2 := h h' tk t' (kept_push hk)
  have h3 : (intItems xs).size = xs.size := by simp [intItems]
  rw [h3, preSum_eq, List.take_of_length_le (by simp)]
  exact h2
end
def rMaxT (K : PySem.W.Frag) : List V → Hp → VK → Prop := fun vs H Q => ∃ (a : Addr) (ns : List Int), vs = [V.ref a] ∧ SqT K H a (ns.map V.int) ∧ 0 < ns.length ∧ ∀ m, m ∈ ns → (∀ y, y ∈ ns → y ≤ m) → Q (.int m) H
def rSumT (K : PySem.W.Frag) : List V → Hp → VK → Prop := fun vs H Q => ∃ (a : Addr) (ns : List Int), vs = [V.ref a] ∧ SqT K H a (ns.map V.int) ∧ Q (.int ns.sum) H
section
variable {X : Cx}
theorem cr_maxT (hc : X.calm = true) : CallR X (.builtin "max") (rMaxT X.K) := by
  intro pins s σ H vs us Q I r ⟨a, ns, e, hs, hne, q⟩
  subst e
  obtain ⟨its, rv, hl, _⟩ := I.tuple hs
  rw [Vals.ref1 r]
  exact max_rawT (I.ok.hd hc) hl rv.ints hne fun h' tk m t' hk h1 h2 => ⟨.int _, H, I.kept hk, ⟨_, rfl⟩, q m h1 h2⟩
theorem cr_sumT (hc : X.calm = true) : CallR X (.builtin "sum") (rSumT X.K) := by
  intro pins s σ H vs us Q I r ⟨a, ns, e, hs, q⟩
  subst e
  obtain ⟨its, rv, hl, _⟩ := I.tuple hs
  rw [Vals.ref1 r]
  exact sum_rawT (I.ok.hd hc) hl rv.ints fun h' tk t' hk => ⟨.int _, H, I.kept hk, ⟨_, rfl⟩, q⟩
theorem c_maxT (hc : X.calm = true) : CallR X (.builtin "max") (fun xs H Q => rMaxAll X.K xs H Q ∨ rMaxT X.K xs H Q) := (c_max hc).or (cr_maxT hc)
theorem c_sumT (hc : X.calm = true) : CallR X (.builtin "sum") (fun xs H Q => rSum X.K xs H Q ∨ rSumT X.K xs H Q) := (cr_sum hc).or (cr_sumT hc)
end
def maxT : List D → Option D
  | [.tup xs] => (intsD xs).bind fun ns => if ns ≠ [] then some (.int (maxI ns)) else none
  | xs => maxD xs
def sumT : List D → Option D
  | [.tup xs] => (intsD xs).bind fun ns => some (.int ns.sum)
  | xs => sumD xs
theorem o_maxT {K : PySem.W.Frag} : OpN K maxT (fun xs H Q => rMaxAll K xs H Q ∨ rMaxT K xs H Q) := by
  intro I H xs z vs Q s e r q
  unfold maxT at e
  split at e
  · rename_i xs
    cases r with | cons r1 rt =>
    cases rt
    cases (r1 : RD _ _ _ _) with | tup hp rp =>
    cases e1 : intsD xs with
    | none => rw [e1] at e; cases e
    | some ns =>
      rw [e1, Option.bind_some] at e
      split at e
      · rename_i hne
        cases e
        rw [intsD_map e1] at rp
        have e2 := rp.ints_of
        subst e2
        refine .inr ⟨_, ns, rfl, sqT_mono s hp, List.length_pos_iff.mpr hne, fun m hm hy => ?_⟩
        have em : m = maxI ns := Int.le_antisymm (maxI_ge hm) (hy _ (maxI_mem hne))
        rw [em]
        exact q _ _ _ .refl (.int _)
      · cases e
  · exact .inl (o_max I H _ z vs Q s e r q)
theorem o_sumT {K : PySem.W.Frag} : OpN K sumT (fun xs H Q => rSum K xs H Q ∨ rSumT K xs H Q) := by
  intro I H xs z vs Q s e r q
  unfold sumT at e
  split at e
  · rename_i xs
    cases r with | cons r1 rt =>
    cases rt
    cases (r1 : RD _ _ _ _) with | tup hp rp =>
    cases e1 : intsD xs with
    | none => rw [e1] at e; cases e
    | some ns =>
      rw [e1, Option.bind_some] at e
      cases e
      rw [intsD_map e1] at rp
      have e2 := rp.ints_of
      subst e2
      exact .inr ⟨_, ns, rfl, sqT_mono s hp, q _ _ _ .refl (.int _)⟩
  · exact .inl (o_sum I H _ z vs Q s e r q)
theorem maxT_ii {i j : Int} : maxT [.int i, .int j] = some (.int (max i j)) := rfl
theorem maxT_t {ns : List Int} (h : ns ≠ []) : maxT [.tup (ns.map D.int)] = some (.int (maxI ns)) := by simp [maxT, intsD_of, h]
theorem sumT_t {ns : List Int} : sumT [.tup (ns.map D.int)] = some (.int ns.sum) := by simp [sumT, intsD_of]
theorem sumT_l {ns : List Int} : sumT [.lst (ns.map D.int)] = some (.int ns.sum) := by simp [sumT, sumD, intsD_of]
/-- the deck: its cells, its number, its draws -/
def dk (cs : List Int) (m k : Int) (R : LH) : LH := .dic [(.inr "cells", .loc 1), (.inr "mixed", .d (.int m)), (.inr "draws", .d (.int k))] :: .lst (cs.map D.int) :: R
theorem keep_dk {cs cs' : List Int} {m m' k k' : Int} {R : LH} : Keep (dk cs m k R).length (dk cs m k R) (dk cs' m' k' R) := by
  refine ⟨by simp [dk], fun j hj => ?_⟩
  match j with
  | 0 =>
    right
    intro o ho
    simp only [dk, List.getElem?_cons_zero, Option.some.injEq] at ho
    subst ho
    intro y hy
    simp only [List.mem_cons, List.not_mem_nil, or_false] at hy
    rcases hy with rfl | rfl | rfl
    · show 1 < _; simp [dk]
    · trivial
    · trivial
  | 1 =>
    right
    intro o ho
    simp only [dk, List.getElem?_cons_succ, List.getElem?_cons_zero, Option.some.injEq] at ho
    subst ho
    trivial
  | j + 2 => left; rfl
theorem take_dk {cs cs' : List Int} {m m' k k' : Int} {R : LH} : (dk cs' m' k' R).take (dk cs m k R).length = dk cs' m' k' R := List.take_of_length_le (by simp [dk])
theorem str_ne {a b : String} (h : decide ((a : Str) = (b : Str)) = false) : decide ((Sum.inr (a : Str) : Key) = Sum.inr (b : Str)) = false := by
  rw [decide_eq_false_iff_not] at h ⊢
  exact fun e => h (Sum.inr.inj e)
theorem dec_inr {a b : String} : decide ((Sum.inr (a : Str) : Key) = Sum.inr (b : Str)) = decide ((a : Str) = (b : Str)) := by simp
theorem key_str {a : Str} : keyOf (.str a) = some (.inr a) := rfl
theorem ss1 : (Str.ofString "cells" = Str.ofString "mixed") = False := eq_false (by decide +kernel)
theorem ss2 : (Str.ofString "cells" = Str.ofString "draws") = False := eq_false (by decide +kernel)
theorem ss3 : (Str.ofString "mixed" = Str.ofString "draws") = False := eq_false (by decide +kernel)
theorem ss4 : (Str.ofString "mixed" = Str.ofString "cells") = False := eq_false (by decide +kernel)
theorem ss5 : (Str.ofString "draws" = Str.ofString "cells") = False := eq_false (by decide +kernel)
theorem ss6 : (Str.ofString "draws" = Str.ofString "mixed") = False := eq_false (by decide +kernel)
/-- the deck can be drawn from n times more -/
def Dk (n : Nat) (R L : LH) : Prop := ∃ (cs : List Int) (m k : Int), cs.length ≤ 63 ∧ 0 ≤ m ∧ m < 2147483587 ∧ 0 ≤ k ∧ k + n ≤ 2 ^ 60 ∧ L = dk cs m k R
theorem Dk.le {n n' : Nat} {R L : LH} (h : Dk n R L) (hn : n' ≤ n) : Dk n' R L := let ⟨cs, m, k, a, b, c, d, e, f⟩ := h; ⟨cs, m, k, a, b, c, d, by omega, f⟩
section
variable {n n' : Nat} {R R' S L L' : LH} {o o' : LO}
theorem Dk.len (h : Dk n R L) : L.length = R.length + 2 := let ⟨cs, m, k, a, b, c, d, e, g⟩ := h; by rw [g]; simp [dk]
theorem Dk.push (h : Dk n R L) (o : LO) : Dk n (R ++ [o]) (L ++ [o]) := let ⟨cs, m, k, a, b, c, d, e, g⟩ := h; ⟨cs, m, k, a, b, c, d, e, by rw [g]; simp [dk]⟩
theorem Dk.top (h : Dk n (R ++ [o]) L) : L[R.length + 2]? = some o := let ⟨cs, m, k, a, b, c, d, e, g⟩ := h; by rw [g]; simp [dk]
theorem Dk.put (h : Dk n (R ++ [o]) L) (o' : LO) : Dk n (R ++ [o']) (L.set (R.length + 2) o') := let ⟨cs, m, k, a, b, c, d, e, g⟩ := h; ⟨cs, m, k, a, b, c, d, e, by rw [g]; simp [dk]⟩
theorem Dk.fin (h : Dk n' R L) (h' : Dk n (R ++ S) L') : Keep L.length L L' ∧ Dk n R (L'.take L.length) := by
  obtain ⟨cs, m, k, a, b, c, d, e, rfl⟩ := h
  obtain ⟨cs', m', k', a', b', c', d', e', rfl⟩ := h'
  have ht : (dk cs' m' k' (R ++ S)).take (dk cs m k R).length = dk cs' m' k' R := by simp [dk]
  refine ⟨?_, cs', m', k', a', b', c', d', e', ht⟩
  have kk := keep_dk (cs := cs) (cs' := cs') (m := m) (m' := m') (k := k) (k' := k') (R := R)
  refine ⟨by simp [dk], fun j hj => ?_⟩
  have e1 : (dk cs' m' k' (R ++ S))[j]? = (dk cs' m' k' R)[j]? := by
    rw [← ht, List.getElem?_take, if_pos hj]
  rw [e1]
  exact kk.2 j hj
theorem Dk.fin0 (h : Dk n' R L) (h' : Dk n R L') : Keep L.length L L' ∧ Dk n R (L'.take L.length) := by
  have h2 : Dk n (R ++ []) L' := by rw [List.append_nil]; exact h'
  exact h.fin h2
end
theorem Dk.split {n : Nat} {R L : LH} {o : LO} (h : Dk n (R ++ [o]) L) : ∃ L2, L = L2 ++ [o] ∧ Dk n R L2 := by
  obtain ⟨cs, m, k, a, b, c, d, e, rfl⟩ := h
  exact ⟨dk cs m k R, by simp [dk], cs, m, k, a, b, c, d, e, rfl⟩
theorem Dk.fin2 {R S1 S2 : LH} {n n' : Nat} {L L' : LH} (h : Dk n' R L) (h' : Dk n (R ++ S1 ++ S2) L') : Keep L.length L L' ∧ Dk n R (L'.take L.length) := by
  rw [List.append_assoc] at h'
  exact h.fin h'
def oddA : List D := [.non, .bl true, .bl false, .int 0, .int 1, .int (-1), .int 2, .int 7, .str "", .str "0", .tup [], .tup [.tup []], .lst [], .dct [], .tup [.int 0], .tup [.int 0, .int 1], .lst [.int 0, .int 1], .tup [.int 1, .int 2], .tup [.int 1, .int 0, .int 2], .tup [.tup [.int 0, .int 0, .int 1]],
  .int 1000000000000000000000000000000, .int (-1000000000000000000000000000000), .dct [(.inr "a", .int 1)], .tup [.non], .tup [.str "a"], .tup [.int 1, .int 1], .tup [.int 2, .int 2], .tup [.int 3, .tup [.int 1, .int 2]], .tup [.tup [.int 1, .int 1], .tup []], .tup [.str "kept"], .tup [.str "in"]]
theorem sm_oddA : Sms 1500 5 oddA := ⟨by simp only [oddA, pl, pls, plk]; decide +kernel, by decide +kernel⟩
def i1 : D → Bool
  | .int i => decide (1 ≤ i)
  | _ => false
def i0 : D → Bool
  | .int i => decide (0 ≤ i)
  | _ => false
def tN (n : Nat) : D → Bool
  | .tup xs => decide (xs.length = n)
  | _ => false
theorem iN {n m : Nat} : decide ((n : Int) = (m : Int)) = decide (n = m) := decide_eq_decide.mpr (by omega)
theorem nf01 : (Str.ofString "weights" = Str.ofString "arrivals") = False := eq_false (by decide +kernel)
theorem nf02 : (Str.ofString "weights" = Str.ofString "starts") = False := eq_false (by decide +kernel)
theorem nf03 : (Str.ofString "weights" = Str.ofString "time") = False := eq_false (by decide +kernel)
theorem nf12 : (Str.ofString "arrivals" = Str.ofString "starts") = False := eq_false (by decide +kernel)
theorem nf13 : (Str.ofString "arrivals" = Str.ofString "time") = False := eq_false (by decide +kernel)
theorem nf23 : (Str.ofString "starts" = Str.ofString "time") = False := eq_false (by decide +kernel)
/-- a comprehension whose element draws from the deck -/
theorem w_lcD {im : IM} {g : GM} {te : EM} {vs : List Nat} {env : Ev} {L R : LH} {Q : W → LH → Prop} {n c : Nat} (many : Nat) (P : D → Prop) (hd : Dk (n + c * many) R L)
    (hi : Wp (im env L) fun its L1 => L1 = L ∧ its.items.length = many ∧ (∀ M, its.same M) ∧ many ≤ sizeLine)
    (hb : ∀ x acc m M, Dk (m + c) (R ++ [.lst acc]) M → WpO (g M (.d x) (wipeE env vs)) fun e => Wp (te e M) fun w M2 => ∃ z, w = .d z ∧ P z ∧ Dk m (R ++ [.lst acc]) M2)
    (hq : ∀ zs L2, zs.length = many → (∀ z ∈ zs, P z) → Dk n R L2 → Q (.d (.lst zs)) L2) : Wp (mLc im g tYesM te vs env L) Q := by
  refine wp_lc (hi.imp fun its L1 ⟨e, hl, hs, hz⟩ => ?_)
  subst e
  refine ⟨fun xs acc L' => Dk (n + c * xs.length) R L' ∧ acc.length + xs.length = many ∧ ∀ z ∈ acc, P z, ⟨by rw [hl]; exact hd, by simpa using hl, by simp⟩, ?_, ?_⟩
  · rintro x r acc L' ⟨h1, h2, h3⟩ h4
    refine ⟨hs _, ?_⟩
    have e : n + c * (x :: r).length = n + c * r.length + c := by rw [List.length_cons, Nat.mul_add, Nat.mul_one, Nat.add_assoc]
    rw [e] at h1
    have h5 := hb x acc (n + c * r.length) (L' ++ [.lst acc]) (h1.push _)
    cases q : g (L' ++ [.lst acc]) (.d x) (wipeE env vs) with
    | none => rw [q] at h5; exact h5.elim
    | some e =>
      rw [q] at h5
      dsimp only [WpO] at h5 ⊢
      rw [wp_yes, if_pos rfl]
      refine h5.imp fun w M2 ⟨z, ew, hp, hd2⟩ => ?_
      obtain ⟨L2, e2, hd3⟩ := hd2.split
      rw [List.length_cons] at h2
      refine ⟨z, L2, ew, e2, by rw [hd3.len, hd.len], by omega, hd3, by simp; omega, fun y hy => ?_⟩
      rcases List.mem_append.mp hy with hy | hy
      · exact h3 y hy
      · rw [List.mem_singleton.mp hy]; exact hp
  · rintro acc L' ⟨h1, h2, h3⟩ h4
    refine ⟨hs _, (hd.fin0 h1).1, hq acc L' (by simpa using h2) h3 (by simpa using h1)⟩
theorem wp_isN {neg : Bool} {a : EM} {env : Ev} {L : LH} {Q : W → LH → Prop} : Wp (isN neg a env L) Q = Wp (a env L) fun x L1 => match x with
  | .d y => Q (.d (.bl (if neg then !y.isNon else y.isNon))) L1
  | .loc _ => Q (.d (.bl (if neg then true else false))) L1 := by
  unfold isN
  rw [wp_bind]
  congr 1
  funext x L1
  cases x <;> rfl
theorem wps_par3 {i j l : Nat} {as : AM} {env : Ev} {L : LH} {S : Qs} : WpS (sPar3 i j l as env L) S = Wp (as env L) fun ws L1 => match ws with
  | [x, y, z] => S.nx (((env.set i (some x)).set j (some y)).set l (some z)) L1
  | _ => False := by
  simp only [sPar3, wp_ofE]
  congr 1
  funext ws L1
  rcases ws with _ | ⟨x, _ | ⟨y, _ | ⟨z, _ | ⟨a, r⟩⟩⟩⟩ <;> rfl
theorem mulT_one {i : Int} {k : Nat} {m : Int} (e : (k : Int) = m) (h0 : 1 ≤ k) (h1 : k ≤ 1000) : mulT (.tup [.int i]) (.int m) = some (.tup ((List.replicate k i).map D.int)) := by
  subst e
  have e2 : (List.replicate k [D.int i]).flatten = (List.replicate k i).map D.int := by simp
  by_cases h : k = 1
  · subst h; rfl
  · show (if ((k : Nat) : Int) = 1 then _ else mulD (.tup [.int i]) (.int (k : Nat))) = _
    rw [if_neg (by omega)]
    show (if _ then some (D.tup (List.replicate ((k : Nat) : Int).toNat [D.int i]).flatten) else none) = _
    rw [if_pos ⟨by simp, by omega, by omega, by simp⟩, Int.toNat_natCast, e2]
theorem ints_ex {p : Int → Prop} {zs : List D} (h : ∀ z ∈ zs, ∃ i, z = .int i ∧ p i) : ∃ ns : List Int, zs = ns.map D.int ∧ ∀ i ∈ ns, p i := by
  induction zs with
  | nil => exact ⟨[], rfl, by simp⟩
  | cons z r ih =>
    obtain ⟨ns, e, hn⟩ := ih fun y hy => h y (List.mem_cons_of_mem _ hy)
    obtain ⟨i, e2, hi⟩ := h z (List.mem_cons_self ..)
    exact ⟨i :: ns, by rw [e, e2]; rfl, fun j hj => (List.mem_cons.mp hj).elim (fun q => by rw [q]; exact hi) (hn j)⟩
theorem wpo_mulT {i j : Int} {Q : D → Prop} (a : -(2 ^ 250) < i) (b : i < 2 ^ 250) (c : -(2 ^ 250) < j) (d : j < 2 ^ 250) (h : Q (.int (i * j))) : WpO (mulT (.int i) (.int j)) Q := wpo_mul a b c d h
theorem mulT_ii {i j : Int} : mulT (.int i) (.int j) = mulD (.int i) (.int j) := rfl
end MP
namespace MP.Fk40
open PySem PySem.Spec PyProof.Rows L2 MP
def topS (i : Nat) : Stmt := PySem.Challenge.pw_fairqueue_k40_rows_among_any_values.main.body.getD i (.Pass ⟨0, 0, 0, 0⟩)
structure TX (K : PySem.W.Frag) (mg : Str → Option Value) (G : Cst) where
  f_is_tuple : Addr
  d_is_tuple : FuncData
  F_is_tuple : Fun K "is_tuple" "is_tuple" (topS 32) f_is_tuple d_is_tuple
  g_is_tuple : mg "is_tuple" = some (.ref f_is_tuple)
  f_is_integer : Addr
  d_is_integer : FuncData
  F_is_integer : Fun K "is_integer" "is_integer" (topS 30) f_is_integer d_is_integer
  g_is_integer : mg "is_integer" = some (.ref f_is_integer)
  f_is_from : Addr
  d_is_from : FuncData
  F_is_from : Fun K "is_from" "is_from" (topS 31) f_is_from d_is_from
  g_is_from : mg "is_from" = some (.ref f_is_from)
  f_is_weights_value : Addr
  d_is_weights_value : FuncData
  F_is_weights_value : Fun K "is_weights_value" "is_weights_value" (topS 34) f_is_weights_value d_is_weights_value
  g_is_weights_value : mg "is_weights_value" = some (.ref f_is_weights_value)
  f_is_packet : Addr
  d_is_packet : FuncData
  F_is_packet : Fun K "is_packet" "is_packet" (topS 36) f_is_packet d_is_packet
  g_is_packet : mg "is_packet" = some (.ref f_is_packet)
  f_are_arrivals : Addr
  d_are_arrivals : FuncData
  F_are_arrivals : Fun K "are_arrivals" "are_arrivals" (topS 37) f_are_arrivals d_are_arrivals
  g_are_arrivals : mg "are_arrivals" = some (.ref f_are_arrivals)
  f_is_arrivals_value : Addr
  d_is_arrivals_value : FuncData
  F_is_arrivals_value : Fun K "is_arrivals_value" "is_arrivals_value" (topS 38) f_is_arrivals_value d_is_arrivals_value
  g_is_arrivals_value : mg "is_arrivals_value" = some (.ref f_is_arrivals_value)
  f_is_line : Addr
  d_is_line : FuncData
  F_is_line : Fun K "is_line" "is_line" (topS 42) f_is_line d_is_line
  g_is_line : mg "is_line" = some (.ref f_is_line)
  f_is_row : Addr
  d_is_row : FuncData
  F_is_row : Fun K "is_row" "is_row" (topS 43) f_is_row d_is_row
  g_is_row : mg "is_row" = some (.ref f_is_row)
  f_need_weights : Addr
  d_need_weights : FuncData
  F_need_weights : Fun K "need_weights" "need_weights" (topS 35) f_need_weights d_need_weights
  g_need_weights : mg "need_weights" = some (.ref f_need_weights)
  f_Line___init__ : Addr
  d_Line___init__ : FuncData
  F_Line___init__ : Fun K "__init__" "Line.__init__" (inClass (topS 46) 0) f_Line___init__ d_Line___init__
  f__law_deck : Addr
  d__law_deck : FuncData
  F__law_deck : Fun K "_law_deck" "_law_deck" (topS 48) f__law_deck d__law_deck
  g__law_deck : mg "_law_deck" = some (.ref f__law_deck)
  f__law_draw : Addr
  d__law_draw : FuncData
  F__law_draw : Fun K "_law_draw" "_law_draw" (topS 49) f__law_draw d__law_draw
  g__law_draw : mg "_law_draw" = some (.ref f__law_draw)
  f__law_pick : Addr
  d__law_pick : FuncData
  F__law_pick : Fun K "_law_pick" "_law_pick" (topS 50) f__law_pick d__law_pick
  g__law_pick : mg "_law_pick" = some (.ref f__law_pick)
  f__law_weights : Addr
  d__law_weights : FuncData
  F__law_weights : Fun K "_law_weights" "_law_weights" (topS 52) f__law_weights d__law_weights
  g__law_weights : mg "_law_weights" = some (.ref f__law_weights)
  f__law_arrivals : Addr
  d__law_arrivals : FuncData
  F__law_arrivals : Fun K "_law_arrivals" "_law_arrivals" (topS 53) f__law_arrivals d__law_arrivals
  g__law_arrivals : mg "_law_arrivals" = some (.ref f__law_arrivals)
  f__law_row : Addr
  d__law_row : FuncData
  F__law_row : Fun K "_law_row" "_law_row" (topS 59) f__law_row d__law_row
  g__law_row : mg "_law_row" = some (.ref f__law_row)
  f__law_is_integer : Addr
  d__law_is_integer : FuncData
  F__law_is_integer : Fun K "_law_is_integer" "_law_is_integer" (topS 51) f__law_is_integer d__law_is_integer
  g__law_is_integer : mg "_law_is_integer" = some (.ref f__law_is_integer)
  f__law_are_weights : Addr
  d__law_are_weights : FuncData
  F__law_are_weights : Fun K "_law_are_weights" "_law_are_weights" (topS 54) f__law_are_weights d__law_are_weights
  g__law_are_weights : mg "_law_are_weights" = some (.ref f__law_are_weights)
  f__law_are_arrivals : Addr
  d__law_are_arrivals : FuncData
  F__law_are_arrivals : Fun K "_law_are_arrivals" "_law_are_arrivals" (topS 55) f__law_are_arrivals d__law_are_arrivals
  g__law_are_arrivals : mg "_law_are_arrivals" = some (.ref f__law_are_arrivals)
  f__law_is_row : Addr
  d__law_is_row : FuncData
  F__law_is_row : Fun K "_law_is_row" "_law_is_row" (topS 60) f__law_is_row d__law_is_row
  g__law_is_row : mg "_law_is_row" = some (.ref f__law_is_row)
  f__law_are_within : Addr
  d__law_are_within : FuncData
  F__law_are_within : Fun K "_law_are_within" "_law_are_within" (topS 56) f__law_are_within d__law_are_within
  g__law_are_within : mg "_law_are_within" = some (.ref f__law_are_within)
  f__law_is_row_within : Addr
  d__law_is_row_within : FuncData
  F__law_is_row_within : Fun K "_law_is_row_within" "_law_is_row_within" (topS 61) f__law_is_row_within d__law_is_row_within
  g__law_is_row_within : mg "_law_is_row_within" = some (.ref f__law_is_row_within)
  f__law_odd : Addr
  d__law_odd : FuncData
  F__law_odd : Fun K "_law_odd" "_law_odd" (topS 57) f__law_odd d__law_odd
  g__law_odd : mg "_law_odd" = some (.ref f__law_odd)
  f__law_bent : Addr
  d__law_bent : FuncData
  F__law_bent : Fun K "_law_bent" "_law_bent" (topS 58) f__law_bent d__law_bent
  g__law_bent : mg "_law_bent" = some (.ref f__law_bent)
  f__law_wrong_row : Addr
  d__law_wrong_row : FuncData
  F__law_wrong_row : Fun K "_law_wrong_row" "_law_wrong_row" (topS 62) f__law_wrong_row d__law_wrong_row
  g__law_wrong_row : mg "_law_wrong_row" = some (.ref f__law_wrong_row)
  f_law : Addr
  d_law : FuncData
  F_law : Fun K "law" "law" (topS 63) f_law d_law
  g_law : mg "law" = some (.ref f_law)
  z_all : mg "all" = none
  z_bool : mg "bool" = none
  z_int : mg "int" = none
  z_isinstance : mg "isinstance" = none
  z_len : mg "len" = none
  z_list : mg "list" = none
  z_max : mg "max" = none
  z_min : mg "min" = none
  z_range : mg "range" = none
  z_repr : mg "repr" = none
  z_str : mg "str" = none
  z_tuple : mg "tuple" = none
  z_zip : mg "zip" = none
  kb_is_row_thing : KB d_is_row ["thing"] ["thing"]
  mk_Line : Mk K G.cLine f_Line___init__
  gc_Line : mg "Line" = some (.ref G.cLine)
  cl_Line : Cls K G.cLine
  n_Line_arrivals : NoAttr K G.cLine "arrivals"
  n_Line_starts : NoAttr K G.cLine "starts"
  n_Line_time : NoAttr K G.cLine "time"
  n_Line_weights : NoAttr K G.cLine "weights"
  sys : SysOk K
  own : ∀ C, some G.cLine = some C → OwnC K C
/-! is_tuple -/
noncomputable def b_is_tuple (G : Cst) : SM := (sSeq (sRet (andV (mB (isiD (some G.cLine)) (aCons (mVar 0) (aCons (mD (D.ty "tuple")) aNil))) (m2 eqD (mB lenD (aCons (mVar 0) aNil)) (mVar 1)))) sNil)
noncomputable def s_is_tuple (G : Cst) : Fs := fnS 2 (b_is_tuple G)
/-! is_integer -/
noncomputable def b_is_integer (G : Cst) : SM := (sSeq (sRet (andV (mB (isiD (some G.cLine)) (aCons (mVar 0) (aCons (mD (D.ty "int")) aNil))) (notV (mB (isiD (some G.cLine)) (aCons (mVar 0) (aCons (mD (D.ty "bool")) aNil)))))) sNil)
noncomputable def s_is_integer (G : Cst) : Fs := fnS 1 (b_is_integer G)
/-! is_from -/
noncomputable def b_is_from (G : Cst) : SM := (sSeq (sRet (andV (mCall (s_is_integer G) (aCons (mVar 0) aNil)) (m2 geD (mVar 0) (mVar 1)))) sNil)
noncomputable def s_is_from (G : Cst) : Fs := fnS 2 (b_is_from G)
/-! is_weights_value -/
noncomputable def b_is_weights_value (G : Cst) : SM := (sSeq (sRet (andV (mB (isiD (some G.cLine)) (aCons (mVar 0) (aCons (mD (D.ty "tuple")) aNil))) (andV (m2 gtD (mB lenD (aCons (mVar 0) aNil)) (mD (D.int 0))) (mB allD' (aCons (mLc (iSeq (mVar 0)) (gNm 1) tYesM (mCall (s_is_from G) (aCons (mVar 1) (aCons (mD (D.int 1)) aNil))) [1]) aNil))))) sNil)
noncomputable def s_is_weights_value (G : Cst) : Fs := fnS 2 (b_is_weights_value G)
/-! is_packet -/
noncomputable def b_is_packet (G : Cst) : SM := (sSeq (sRet (andV (mCall (s_is_tuple G) (aCons (mVar 0) (aCons (mD (D.int 3)) aNil))) (andV (mCall (s_is_from G) (aCons (mIx (mVar 0) (mD (D.int 0))) (aCons (mD (D.int 0)) aNil))) (andV (mCall (s_is_from G) (aCons (mIx (mVar 0) (mD (D.int 1))) (aCons (mD (D.int 0)) aNil))) (mCall (s_is_from G) (aCons (mIx (mVar 0) (mD (D.int 2))) (aCons (mD (D.int 1)) aNil))))))) sNil)
noncomputable def s_is_packet (G : Cst) : Fs := fnS 1 (b_is_packet G)
/-! are_arrivals -/
noncomputable def b_are_arrivals (G : Cst) : SM := (sSeq (sIf (tOrM (tNotM (tst (mB (isiD (some G.cLine)) (aCons (mVar 0) (aCons (mD (D.ty "tuple")) aNil))))) (tNotM (tst (mB allD' (aCons (mLc (iSeq (mVar 0)) (gNm 1) tYesM (mCall (s_is_packet G) (aCons (mVar 1) aNil)) [1]) aNil))))) (sSeq (sRet (mD (D.bl false))) sNil) sNil) (sSeq (sRet (mB allD' (aCons (mLc (iZip (mVar 0) (mSl (mVar 0) (oSome (mD (D.int 1))) oNone)) (gTu 2 (gsCons (gNm 2) (gsCons (gNm 3) gsNil))) tYesM (m2 leD (mIx (mVar 2) (mD (D.int 0))) (mIx (mVar 3) (mD (D.int 0)))) [2, 3]) aNil))) sNil))
noncomputable def s_are_arrivals (G : Cst) : Fs := fnS 4 (b_are_arrivals G)
/-! is_arrivals_value -/
noncomputable def b_is_arrivals_value (G : Cst) : SM := (sSeq (sRet (andV (mCall (s_are_arrivals G) (aCons (mVar 1) aNil)) (mB allD' (aCons (mLc (iSeq (mVar 1)) (gNm 2) tYesM (m2 ltD (mIx (mVar 2) (mD (D.int 1))) (mB lenD (aCons (mVar 0) aNil))) [2]) aNil)))) sNil)
noncomputable def s_is_arrivals_value (G : Cst) : Fs := fnS 3 (b_is_arrivals_value G)
/-! is_line -/
noncomputable def b_is_line (G : Cst) : SM := (sSeq (sIf (tOrM (tNotM (tst (mCall (s_is_tuple G) (aCons (mVar 0) (aCons (mD (D.int 2)) aNil))))) (tOrM (tNotM (tst (mCall (s_is_weights_value G) (aCons (mIx (mVar 0) (mD (D.int 0))) aNil)))) (tNotM (tst (mCall (s_is_arrivals_value G) (aCons (mIx (mVar 0) (mD (D.int 0))) (aCons (mIx (mVar 0) (mD (D.int 1))) aNil))))))) (sSeq (sRet (mD (D.bl false))) sNil) sNil) (sSeq (sRet (mB allD' (aCons (mLc (iSeq (mIx (mVar 0) (mD (D.int 1)))) (gTu 3 (gsCons (gNm 1) (gsCons (gNm 2) (gsCons (gNm 3) gsNil)))) tYesM (m2 neD (mVar 2) (mD (D.int 0))) [1, 2, 3]) aNil))) sNil))
noncomputable def s_is_line (G : Cst) : Fs := fnS 4 (b_is_line G)
/-! is_row -/
noncomputable def b_is_row (G : Cst) : SM := (sSeq (sRet (andV (mB (isiD (some G.cLine)) (aCons (mVar 0) (aCons (mD (D.ty "tuple")) aNil))) (andV (m2 neD (mVar 0) (mTup aNil)) (mB allD' (aCons (mLc (iSeq (mVar 0)) (gNm 1) tYesM (mCall (s_is_line G) (aCons (mVar 1) aNil)) [1]) aNil))))) sNil)
noncomputable def s_is_row (G : Cst) : Fs := fnS 2 (b_is_row G)
/-! need_weights -/
noncomputable def b_need_weights (G : Cst) : SM := (sSeq (sIf (tNotM (tst (mCall (s_is_weights_value G) (aCons (mVar 0) aNil)))) (sSeq sNever sNil) sNil) sNil)
noncomputable def s_need_weights (G : Cst) : Fs := fnS 1 (b_need_weights G)
/-! Line.__init__ -/
noncomputable def b_Line___init__ (G : Cst) : SM := (sSeq (sExpr (mCall (s_need_weights G) (aCons (mVar 1) aNil))) (sSeq (sFld G.cLine "weights" (mVar 1) (mVar 0)) (sSeq (sFld G.cLine "arrivals" (mTup aNil) (mVar 0)) (sSeq (sFld G.cLine "starts" (mTup aNil) (mVar 0)) (sSeq (sFld G.cLine "time" (mD (D.int 0)) (mVar 0)) sNil)))))
noncomputable def s_Line___init__ (G : Cst) : Fs := fnK 2 (b_Line___init__ G)
/-! law_deck -/
noncomputable def b__law_deck (G : Cst) : SM := (sSeq (sAsg (mD (D.int 14410040)) (gNm 1)) (sSeq (sFor (iSeq (mSl (mVar 0) oNone (oSome (mD (D.int 63))))) (gNm 2) (sSeq (sAsg (m2 modD (mB intD (aCons (m2 addD (m2 addD (m2 mulT (mVar 1) (mD (D.int 48271))) (m2 modD (mB intD (aCons (mVar 2) aNil)) (mD (D.int 2147483629)))) (mD (D.int 103))) aNil)) (mD (D.int 2147483587))) (gNm 1)) sNil)) (sSeq (sRet (mDicM [.inr "cells", .inr "mixed", .inr "draws"] (aCons (mRevM (mB listD (aCons (mSl (mVar 0) oNone (oSome (mD (D.int 63)))) aNil))) (aCons (mVar 1) (aCons (mD (D.int 0)) aNil))))) sNil)))
noncomputable def s__law_deck (G : Cst) : Fs := fnK 3 (b__law_deck G)
/-! law_draw -/
noncomputable def b__law_draw (G : Cst) : SM := (sSeq (sDPut (m2 addD (mIx (mVar 0) (mD (D.str "draws"))) (mD (D.int 1))) (mVar 0) (mD (D.str "draws"))) (sSeq (sAsg (m2 addD (mIx (mVar 0) (mD (D.str "mixed"))) (m2 mulT (mD (D.int 69621)) (mIx (mVar 0) (mD (D.str "draws"))))) (gNm 2)) (sSeq (sIf (tst (m2 neD (mIx (mVar 0) (mD (D.str "cells"))) (mLst aNil))) (sSeq (sAsg (mM0 popF (mIx (mVar 0) (mD (D.str "cells")))) (gNm 3)) (sSeq (sIf (tst (m2 geD (mVar 3) (m2 powD (mD (D.int 10)) (mD (D.int 18))))) (sSeq (sExpr (mM1 appF (mIx (mVar 0) (mD (D.str "cells"))) (m2 fdivD (mVar 3) (mB maxT (aCons (mD (D.int 2)) (aCons (mVar 1) aNil)))))) (sSeq (sRet (m2 modD (mB intD (aCons (mVar 3) aNil)) (mVar 1))) sNil)) sNil) (sSeq (sAsg (m2 addD (mVar 2) (m2 modD (mB intD (aCons (mVar 3) aNil)) (mD (D.int 2147483629)))) (gNm 2)) sNil))) sNil) (sSeq (sAsg (m2 modD (mB intD (aCons (m2 addD (m2 mulT (mVar 2) (mD (D.int 39373))) (mD (D.int 73))) aNil)) (mD (D.int 2147483647))) (gNm 2)) (sSeq (sAsg (m2 modD (mB intD (aCons (m2 addD (m2 addD (m2 mulT (mVar 2) (mVar 2)) (m2 mulT (mD (D.int 52713)) (mIx (mVar 0) (mD (D.str "draws"))))) (mD (D.int 41))) aNil)) (mD (D.int 2147483587))) (gNm 2)) (sSeq (sAsg (m2 modD (mB intD (aCons (m2 mulT (mVar 2) (mD (D.int 40692))) aNil)) (mD (D.int 2147483563))) (gNm 2)) (sSeq (sRet (m2 modD (mB intD (aCons (m2 fdivD (mVar 2) (mD (D.int 64))) aNil)) (mVar 1))) sNil)))))))
noncomputable def s__law_draw (G : Cst) : Fs := fnS 4 (b__law_draw G)
/-! law_pick -/
noncomputable def b__law_pick (G : Cst) : SM := (sSeq (sRet (mIx (mVar 1) (mCall (s__law_draw G) (aCons (mVar 0) (aCons (mB lenD (aCons (mVar 1) aNil)) aNil))))) sNil)
noncomputable def s__law_pick (G : Cst) : Fs := fnS 2 (b__law_pick G)
/-! law_weights -/
noncomputable def b__law_weights (G : Cst) : SM := (sSeq (sAsg (mCall (s__law_draw G) (aCons (mVar 0) (aCons (mD (D.int 4)) aNil))) (gNm 2)) (sSeq (sIf (tst (m2 eqD (mVar 2) (mD (D.int 0)))) (sSeq (sRet (m2 mulT (mTup (aCons (m2 addD (mD (D.int 1)) (mCall (s__law_draw G) (aCons (mVar 0) (aCons (mD (D.int 3)) aNil)))) aNil)) (mVar 1))) sNil) sNil) (sSeq (sIf (tst (m2 eqD (mVar 2) (mD (D.int 1)))) (sSeq (sRet (mB tupD (aCons (mLc (iRng1 (mVar 1)) (gNm 3) tYesM (mCall (s__law_pick G) (aCons (mVar 0) (aCons (mLst (aCons (mD (D.int 1)) (aCons (mD (D.int 12)) (aCons (mD (D.int 1)) (aCons (mD (D.int 11)) aNil))))) aNil))) [3]) aNil))) sNil) sNil) (sSeq (sRet (mB tupD (aCons (mLc (iRng1 (mVar 1)) (gNm 3) tYesM (m2 addD (mD (D.int 1)) (mCall (s__law_draw G) (aCons (mVar 0) (aCons (mCall (s__law_pick G) (aCons (mVar 0) (aCons (mLst (aCons (mD (D.int 3)) (aCons (mD (D.int 5)) (aCons (mD (D.int 12)) aNil)))) aNil))) aNil)))) [3]) aNil))) sNil))))
noncomputable def s__law_weights (G : Cst) : Fs := fnS 4 (b__law_weights G)
/-! law_arrivals -/
noncomputable def b__law_arrivals (G : Cst) : SM := (sSeq (sPar3 3 4 5 (aCons (mLstM aNil) (aCons (mCall (s__law_pick G) (aCons (mVar 0) (aCons (mLst (aCons (mD (D.int 0)) (aCons (mD (D.int 0)) (aCons (mD (D.int 0)) (aCons (mD (D.int 3)) aNil))))) aNil))) (aCons (mCall (s__law_draw G) (aCons (mVar 0) (aCons (mD (D.int 4)) aNil))) aNil)))) (sSeq (sAsg (mCall (s__law_pick G) (aCons (mVar 0) (aCons (mLst (aCons (mD (D.int 1)) (aCons (mD (D.int 4)) (aCons (mD (D.int 9)) (aCons (mD (D.int 20)) (aCons (mD (D.int 60)) aNil)))))) aNil))) (gNm 6)) (sSeq (sFor (iRng1 (mVar 2)) (gNm 7) (sSeq (sIf (tst (m2 gtD (mVar 5) (mD (D.int 0)))) (sSeq (sAsg (mB minD (aCons (mD (D.int 2000)) (aCons (m2 addD (mVar 4) (mCall (s__law_pick G) (aCons (mVar 0) (aCons (mLst (aCons (mD (D.int 0)) (aCons (mD (D.int 0)) (aCons (mD (D.int 1)) (aCons (mCall (s__law_draw G) (aCons (mVar 0) (aCons (m2 addD (m2 mulT (mD (D.int 2)) (mVar 6)) (mD (D.int 1))) aNil))) (aCons (ifV (tst (m2 ltD (mVar 5) (mD (D.int 3)))) (mCall (s__law_draw G) (aCons (mVar 0) (aCons (mD (D.int 3)) aNil))) (mD (D.int 40))) aNil)))))) aNil)))) aNil))) (gNm 4)) sNil) sNil) (sSeq (sAsg (mCall (s__law_pick G) (aCons (mVar 0) (aCons (mVar 1) aNil))) (gNm 8)) (sSeq (sAsg (m2 addD (mD (D.int 1)) (mCall (s__law_draw G) (aCons (mVar 0) (aCons (mVar 6) aNil)))) (gNm 9)) (sSeq (sFor (iRng1 (mCall (s__law_pick G) (aCons (mVar 0) (aCons (mLst (aCons (mD (D.int 1)) (aCons (mD (D.int 1)) (aCons (mD (D.int 1)) (aCons (mD (D.int 3)) aNil))))) aNil)))) (gNm 10) (sSeq (sIf (tst (m2 ltD (mB lenD (aCons (mVar 3) aNil)) (mVar 2))) (sSeq (sExpr (mM1 appF (mVar 3) (mTup (aCons (mVar 4) (aCons (mVar 8) (aCons (mVar 9) aNil)))))) sNil) sNil) sNil)) sNil))))) (sSeq (sRet (mB tupD (aCons (mVar 3) aNil))) sNil))))
noncomputable def s__law_arrivals (G : Cst) : Fs := fnS 11 (b__law_arrivals G)
/-! law_row -/
noncomputable def b__law_row (G : Cst) : SM := (sSeq (sAsg (mLstM aNil) (gNm 3)) (sSeq (sFor (iRng1 (mVar 1)) (gNm 4) (sSeq (sAsg (mCall (s__law_weights G) (aCons (mVar 0) (aCons (m2 addD (mD (D.int 1)) (mCall (s__law_draw G) (aCons (mVar 0) (aCons (mCall (s__law_pick G) (aCons (mVar 0) (aCons (mLst (aCons (mD (D.int 4)) (aCons (mD (D.int 4)) (aCons (mD (D.int 8)) aNil)))) aNil))) aNil)))) aNil))) (gNm 5)) (sSeq (sPar2 6 7 (aCons (mLRng (aCons (mD (D.int 1)) (aCons (mB lenD (aCons (mVar 5) aNil)) aNil))) (aCons (mTup aNil) aNil))) (sSeq (sIf (tst (m2 neD (mVar 6) (mLst aNil))) (sSeq (sAsg (mCall (s__law_arrivals G) (aCons (mVar 0) (aCons (mVar 6) (aCons (mCall (s__law_draw G) (aCons (mVar 0) (aCons (m2 addD (mVar 2) (mD (D.int 1))) aNil))) aNil)))) (gNm 7)) sNil) sNil) (sSeq (sExpr (mM1 appF (mVar 3) (mTup (aCons (mVar 5) (aCons (mVar 7) aNil))))) sNil))))) (sSeq (sRet (mB tupD (aCons (mVar 3) aNil))) sNil)))
noncomputable def s__law_row (G : Cst) : Fs := fnS 8 (b__law_row G)
/-! law_is_integer -/
noncomputable def b__law_is_integer (G : Cst) : SM := (sSeq (sRet (andV (mB (isiD (some G.cLine)) (aCons (mVar 0) (aCons (mD (D.ty "int")) aNil))) (notV (mB (isiD (some G.cLine)) (aCons (mVar 0) (aCons (mD (D.ty "bool")) aNil)))))) sNil)
noncomputable def s__law_is_integer (G : Cst) : Fs := fnS 1 (b__law_is_integer G)
/-! law_are_weights -/
noncomputable def b__law_are_weights (G : Cst) : SM := (sSeq (sIf (tOrM (tNotM (tst (mB (isiD (some G.cLine)) (aCons (mVar 0) (aCons (mD (D.ty "tuple")) aNil))))) (tst (m2 eqD (mVar 0) (mTup aNil)))) (sSeq (sRet (mD (D.bl false))) sNil) sNil) (sSeq (sRet (m2 eqD (mLc (iSeq (mVar 0)) (gNm 1) (tOrM (tNotM (tst (mCall (s__law_is_integer G) (aCons (mVar 1) aNil)))) (tst (m2 ltD (mVar 1) (mD (D.int 1))))) (mVar 1) [1]) (mLst aNil))) sNil))
noncomputable def s__law_are_weights (G : Cst) : Fs := fnS 2 (b__law_are_weights G)
/-! law_are_arrivals -/
noncomputable def b__law_are_arrivals (G : Cst) : SM := (sSeq (sIf (tNotM (tst (mB (isiD (some G.cLine)) (aCons (mVar 1) (aCons (mD (D.ty "tuple")) aNil))))) (sSeq (sRet (mD (D.bl false))) sNil) sNil) (sSeq (sAsg (mD (D.int 0)) (gNm 2)) (sSeq (sFor (iSeq (mVar 1)) (gNm 3) (sSeq (sIf (tOrM (tNotM (tst (mB (isiD (some G.cLine)) (aCons (mVar 3) (aCons (mD (D.ty "tuple")) aNil))))) (tOrM (tst (m2 neD (mB lenD (aCons (mVar 3) aNil)) (mD (D.int 3)))) (tst (m2 neD (mLc (iSeq (mVar 3)) (gNm 4) (tNotM (tst (mCall (s__law_is_integer G) (aCons (mVar 4) aNil)))) (mVar 4) [4]) (mLst aNil))))) (sSeq (sRet (mD (D.bl false))) sNil) sNil) (sSeq (sIf (tOrM (tst (m2 ltD (mIx (mVar 3) (mD (D.int 0))) (mVar 2))) (tOrM (tst (m2 ltD (mIx (mVar 3) (mD (D.int 1))) (mD (D.int 0)))) (tOrM (tst (m2 ltD (mIx (mVar 3) (mD (D.int 2))) (mD (D.int 1)))) (tAndM (tst (isN true (mVar 0))) (tst (m2 geD (mIx (mVar 3) (mD (D.int 1))) (mVar 0))))))) (sSeq (sRet (mD (D.bl false))) sNil) sNil) (sSeq (sAsg (mIx (mVar 3) (mD (D.int 0))) (gNm 2)) sNil)))) (sSeq (sRet (mD (D.bl true))) sNil))))
noncomputable def s__law_are_arrivals (G : Cst) : Fs := fnS 5 (b__law_are_arrivals G)
/-! law_is_row -/
noncomputable def b__law_is_row (G : Cst) : SM := (sSeq (sIf (tOrM (tNotM (tst (mB (isiD (some G.cLine)) (aCons (mVar 0) (aCons (mD (D.ty "tuple")) aNil))))) (tst (m2 eqD (mVar 0) (mTup aNil)))) (sSeq (sRet (mD (D.bl false))) sNil) sNil) (sSeq (sFor (iSeq (mVar 0)) (gNm 1) (sSeq (sIf (tOrM (tNotM (tst (mB (isiD (some G.cLine)) (aCons (mVar 1) (aCons (mD (D.ty "tuple")) aNil))))) (tOrM (tst (m2 neD (mB lenD (aCons (mVar 1) aNil)) (mD (D.int 2)))) (tNotM (tst (mCall (s__law_are_weights G) (aCons (mIx (mVar 1) (mD (D.int 0))) aNil)))))) (sSeq (sRet (mD (D.bl false))) sNil) sNil) (sSeq (sIf (tOrM (tNotM (tst (mCall (s__law_are_arrivals G) (aCons (mB lenD (aCons (mIx (mVar 1) (mD (D.int 0))) aNil)) (aCons (mIx (mVar 1) (mD (D.int 1))) aNil))))) (tst (m2 neD (mLc (iSeq (mIx (mVar 1) (mD (D.int 1)))) (gNm 2) (tst (m2 eqD (mIx (mVar 2) (mD (D.int 1))) (mD (D.int 0)))) (mVar 2) [2]) (mLst aNil)))) (sSeq (sRet (mD (D.bl false))) sNil) sNil) sNil))) (sSeq (sRet (mD (D.bl true))) sNil)))
noncomputable def s__law_is_row (G : Cst) : Fs := fnS 3 (b__law_is_row G)
/-! law_are_within -/
noncomputable def b__law_are_within (G : Cst) : SM := (sSeq (sIf (tAndM (tst (isN true (mVar 0))) (tOrM (tst (m2 gtD (mB lenD (aCons (mVar 0) aNil)) (mD (D.int 8)))) (tst (m2 gtD (mB maxT (aCons (mVar 0) aNil)) (mD (D.int 12)))))) (sSeq (sRet (mD (D.bl false))) sNil) sNil) (sSeq (sIf (tOrM (tst (m2 gtD (mB lenD (aCons (mVar 1) aNil)) (mD (D.int 30)))) (tst (m2 neD (mLc (iSeq (mVar 1)) (gNm 2) (tOrM (tst (m2 gtD (mIx (mVar 2) (mD (D.int 0))) (mD (D.int 2000)))) (tOrM (tst (m2 gtD (mIx (mVar 2) (mD (D.int 1))) (mD (D.int 7)))) (tst (m2 gtD (mIx (mVar 2) (mD (D.int 2))) (mD (D.int 60)))))) (mVar 2) [2]) (mLst aNil)))) (sSeq (sRet (mD (D.bl false))) sNil) sNil) (sSeq (sRet (mD (D.bl true))) sNil)))
noncomputable def s__law_are_within (G : Cst) : Fs := fnS 3 (b__law_are_within G)
/-! law_is_row_within -/
noncomputable def b__law_is_row_within (G : Cst) : SM := (sSeq (sIf (tst (m2 gtD (mB lenD (aCons (mVar 0) aNil)) (mD (D.int 4)))) (sSeq (sRet (mD (D.bl false))) sNil) sNil) (sSeq (sRet (m2 eqD (mLc (iSeq (mVar 0)) (gTu 2 (gsCons (gNm 2) (gsCons (gNm 3) gsNil))) (tOrM (tNotM (tst (mCall (s__law_are_within G) (aCons (mVar 2) (aCons (mVar 3) aNil))))) (tst (m2 gtD (m2 addD (mB lenD (aCons (mVar 3) aNil)) (mVar 1)) (mD (D.int 30))))) (mD (D.int 1)) [2, 3]) (mLst aNil))) sNil))
noncomputable def s__law_is_row_within (G : Cst) : Fs := fnS 4 (b__law_is_row_within G)
/-! law_odd -/
noncomputable def b__law_odd (G : Cst) : SM := (sSeq (sAsg (mLst (aCons (mD D.non) (aCons (mD (D.bl true)) (aCons (mD (D.bl false)) (aCons (mD (D.int 0)) (aCons (mD (D.int 1)) (aCons (m1 negD (mD (D.int 1))) (aCons (mD (D.int 2)) (aCons (mD (D.int 7)) (aCons (mD (D.str "")) (aCons (mD (D.str "0")) (aCons (mTup aNil) (aCons (mTup (aCons (mTup aNil) aNil)) (aCons (mLst aNil) (aCons (mFrz (mDicM [] aNil)) (aCons (mTup (aCons (mD (D.int 0)) aNil)) (aCons (mTup (aCons (mD (D.int 0)) (aCons (mD (D.int 1)) aNil))) (aCons (mLst (aCons (mD (D.int 0)) (aCons (mD (D.int 1)) aNil))) (aCons (mTup (aCons (mD (D.int 1)) (aCons (mD (D.int 2)) aNil))) (aCons (mTup (aCons (mD (D.int 1)) (aCons (mD (D.int 0)) (aCons (mD (D.int 2)) aNil)))) (aCons (mTup (aCons (mTup (aCons (mD (D.int 0)) (aCons (mD (D.int 0)) (aCons (mD (D.int 1)) aNil)))) aNil)) aNil))))))))))))))))))))) (gNm 2)) (sSeq (sAsg (m2 addD (mVar 2) (mLst (aCons (m2 powD (mD (D.int 10)) (mD (D.int 30))) (aCons (m1 negD (m2 powD (mD (D.int 10)) (mD (D.int 30)))) (aCons (mFrz (mDicM [.inr "a"] (aCons (mD (D.int 1)) aNil))) (aCons (mTup (aCons (mD D.non) aNil)) (aCons (mTup (aCons (mD (D.str "a")) aNil)) (aCons (mTup (aCons (mD (D.int 1)) (aCons (mD (D.int 1)) aNil))) (aCons (mTup (aCons (mD (D.int 2)) (aCons (mD (D.int 2)) aNil))) (aCons (mTup (aCons (mD (D.int 3)) (aCons (mTup (aCons (mD (D.int 1)) (aCons (mD (D.int 2)) aNil))) aNil))) (aCons (mTup (aCons (mTup (aCons (mD (D.int 1)) (aCons (mD (D.int 1)) aNil))) (aCons (mTup aNil) aNil))) (aCons (mTup (aCons (mD (D.str "kept")) aNil)) (aCons (mTup (aCons (mD (D.str "in")) aNil)) aNil))))))))))))) (gNm 2)) (sSeq (sIf (tst (mB (isiD (some G.cLine)) (aCons (mVar 1) (aCons (mD (D.ty "tuple")) aNil)))) (sSeq (sAsg (m2 addD (mVar 2) (m2 mulT (mLst (aCons (mB listD (aCons (mVar 1) aNil)) (aCons (m2 addD (mVar 1) (mTup (aCons (mD (D.int 0)) aNil))) (aCons (mSl (mVar 1) (oSome (mD (D.int 1))) oNone) (aCons (mSl (mVar 1) oNone (oSome (m1 negD (mD (D.int 1))))) (aCons (m1 revD2 (mVar 1)) (aCons (m2 addD (mVar 1) (mSl (mVar 1) oNone (oSome (mD (D.int 1))))) (aCons (mTup (aCons (mVar 1) aNil)) (aCons (m2 addD (mSl (mVar 1) oNone (oSome (mD (D.int 1)))) (mVar 1)) (aCons (m2 addD (mVar 1) (mTup (aCons (mTup aNil) aNil))) aNil)))))))))) (mD (D.int 3)))) (gNm 2)) sNil) (sSeq (sIf (tst (mCall (s__law_is_integer G) (aCons (mVar 1) aNil))) (sSeq (sAsg (m2 addD (mVar 2) (m2 mulT (mLst (aCons (m2 addD (mVar 1) (mD (D.int 1))) (aCons (m2 subD (mVar 1) (mD (D.int 1))) (aCons (m1 negD (mVar 1)) (aCons (m2 eqD (mVar 1) (mD (D.int 1))) (aCons (mLst (aCons (mVar 1) aNil)) (aCons (mTup (aCons (mVar 1) aNil)) (aCons (mB strID (aCons (mVar 1) aNil)) (aCons (mD (D.int 0)) (aCons (m2 mulT (mD (D.int 2)) (mVar 1)) aNil)))))))))) (mD (D.int 4)))) (gNm 2)) sNil) sNil) sNil)) (sSeq (sRet (mCall (s__law_pick G) (aCons (mVar 0) (aCons (mVar 2) aNil)))) sNil))))
noncomputable def s__law_odd (G : Cst) : Fs := fnS 3 (b__law_odd G)
/-! law_bent -/
noncomputable def b__law_bent (G : Cst) (s : Fs) : SM := (sSeq (sIf (tOrM (tst (m2 eqD (mVar 2) (mD (D.int 0)))) (tOrM (tNotM (tst (mB (isiD (some G.cLine)) (aCons (mVar 1) (aCons (mD (D.ty "tuple")) aNil))))) (tOrM (tst (m2 eqD (mVar 1) (mTup aNil))) (tst (m2 eqD (mCall (s__law_draw G) (aCons (mVar 0) (aCons (mD (D.int 5)) aNil))) (mD (D.int 0))))))) (sSeq (sRet (mCall (s__law_odd G) (aCons (mVar 0) (aCons (mVar 1) aNil)))) sNil) sNil) (sSeq (sAsg (mCall (s__law_draw G) (aCons (mVar 0) (aCons (mB lenD (aCons (mVar 1) aNil)) aNil))) (gNm 3)) (sSeq (sRet (m2 addD (m2 addD (mSl (mVar 1) oNone (oSome (mVar 3))) (mTup (aCons (mCall s (aCons (mVar 0) (aCons (mIx (mVar 1) (mVar 3)) (aCons (m2 subD (mVar 2) (mD (D.int 1))) aNil)))) aNil))) (mSl (mVar 1) (oSome (m2 addD (mVar 3) (mD (D.int 1)))) oNone))) sNil)))
noncomputable def s__law_bent (G : Cst) : Nat → Fs
  | 0 => fun _ _ => .bad
  | n + 1 => fnS 4 (b__law_bent G (s__law_bent G n))
/-! law_wrong_row -/
noncomputable def b__law_wrong_row (G : Cst) : SM := (sSeq (sAsg (mIx (mVar 1) (mD (D.int 0))) (gTu 2 (gsCons (gNm 2) (gsCons (gNm 3) gsNil)))) (sSeq (sAsg (mLst (aCons (mTup aNil) (aCons (m2 addD (mVar 1) (mTup (aCons (mTup (aCons (mVar 2) (aCons (mTup (aCons (mTup (aCons (mD (D.int 0)) (aCons (mD (D.int 0)) (aCons (mD (D.int 1)) aNil)))) aNil)) aNil))) aNil))) (aCons (m2 addD (mVar 1) (mTup (aCons (mTup (aCons (mVar 2) (aCons (mTup (aCons (mTup (aCons (mD (D.int 0)) (aCons (mB lenD (aCons (mVar 2) aNil)) (aCons (mD (D.int 1)) aNil)))) aNil)) aNil))) aNil))) (aCons (m2 addD (mVar 1) (mTup (aCons (mTup (aCons (mTup aNil) (aCons (mTup aNil) aNil))) aNil))) (aCons (mB listD (aCons (mVar 1) aNil)) aNil)))))) (gNm 4)) (sSeq (sAsg (m2 addD (mVar 4) (mLst (aCons (m2 addD (mSl (mVar 1) oNone (oSome (mD (D.int 1)))) (mTup (aCons (mLst (aCons (mVar 2) (aCons (mVar 3) aNil))) aNil))) (aCons (m2 addD (mTup (aCons (mTup (aCons (mVar 2) aNil)) aNil)) (mSl (mVar 1) (oSome (mD (D.int 1))) oNone)) (aCons (mTup (aCons (mVar 2) (aCons (mVar 3) aNil))) (aCons (m2 addD (mSl (mVar 1) (oSome (mD (D.int 1))) oNone) (mTup (aCons (mTup (aCons (mVar 2) (aCons (mB listD (aCons (mVar 3) aNil)) aNil))) aNil))) aNil)))))) (gNm 4)) (sSeq (sAsg (m2 addD (mVar 4) (mLst (aCons (mTup (aCons (mTup (aCons (mTup (aCons (mD (D.int 1)) (aCons (mD (D.int 1)) aNil))) (aCons (mTup (aCons (mTup (aCons (mD (D.int 0)) (aCons (mD (D.int 1)) (aCons (mD (D.bl true)) aNil)))) aNil)) aNil))) aNil)) (aCons (mTup (aCons (mTup (aCons (mTup (aCons (mD (D.int 1)) (aCons (mD (D.int 1)) aNil))) (aCons (mTup (aCons (mTup (aCons (mD (D.int 0)) (aCons (mD (D.bl true)) (aCons (mD (D.int 1)) aNil)))) aNil)) aNil))) aNil)) (aCons (m2 addD (mTup (aCons (mTup (aCons (mTup (aCons (mD (D.int 1)) (aCons (mD (D.int 1)) aNil))) (aCons (mTup (aCons (mTup (aCons (mD (D.bl true)) (aCons (mD (D.int 1)) (aCons (mD (D.int 1)) aNil)))) aNil)) aNil))) aNil)) (mVar 1)) aNil))))) (gNm 4)) (sSeq (sAsg (m2 addD (mVar 4) (mLst (aCons (mTup (aCons (mTup (aCons (mVar 2) (aCons (m1 revD2 (mVar 3)) aNil))) aNil)) (aCons (mCall (s__law_bent G 5) (aCons (mVar 0) (aCons (mVar 1) (aCons (mD (D.int 4)) aNil)))) (aCons (mCall (s__law_bent G 5) (aCons (mVar 0) (aCons (mVar 1) (aCons (mD (D.int 4)) aNil)))) (aCons (mCall (s__law_odd G) (aCons (mVar 0) (aCons (mVar 1) aNil))) aNil)))))) (gNm 4)) (sSeq (sRet (mCall (s__law_pick G) (aCons (mVar 0) (aCons (mVar 4) aNil)))) sNil))))))
noncomputable def s__law_wrong_row (G : Cst) : Fs := fnS 5 (b__law_wrong_row G)
/-! law -/
noncomputable def b_law (G : Cst) : SM := (sSeq (sAsg (mCall (s__law_deck G) (aCons (mVar 0) aNil)) (gNm 1)) (sSeq (sFor (iRng1 (mD (D.int 16))) (gNm 2) (sSeq (sAsg (mCall (s__law_row G) (aCons (mVar 1) (aCons (m2 addD (mD (D.int 1)) (mCall (s__law_draw G) (aCons (mVar 1) (aCons (mD (D.int 4)) aNil)))) (aCons (ifV (tst (m2 eqD (mVar 2) (mD (D.int 0)))) (mD (D.int 12)) (mD (D.int 4))) aNil)))) (gNm 3)) (sSeq (sAsg (ifV (tst (m2 eqD (m2 modD (mB intD (aCons (mVar 2) aNil)) (mD (D.int 4))) (mD (D.int 0)))) (mVar 3) (mCall (s__law_wrong_row G) (aCons (mVar 1) (aCons (mVar 3) aNil)))) (gNm 4)) (sSeq (sPar2 6 7 (aCons (mCall (s__law_is_row G) (aCons (mVar 4) aNil)) (aCons (mB reprD (aCons (mVar 4) aNil)) aNil))) (sSeq (sIf (tAndM (tst (mVar 6)) (tNotM (tst (mCall (s__law_is_row_within G) (aCons (mVar 4) (aCons (mD (D.int 0)) aNil)))))) (sSeq sCont sNil) sNil) (sSeq (sAsg (mTup (aCons (mCall (s_is_row G) (aCons (mVar 4) aNil)) (aCons (mCallK (s_is_row G) ["thing"] ["thing"] (aCons (mVar 4) aNil)) aNil))) (gNm 5)) (sSeq (sIf (tOrM (tst (m2 neD (mB reprD (aCons (mVar 5) aNil)) (mB reprD (aCons (mTup (aCons (mVar 6) (aCons (mVar 6) aNil))) aNil)))) (tst (m2 neD (mB reprD (aCons (mVar 4) aNil)) (mVar 7)))) (sSeq (sRet (mD (D.bl false))) sNil) sNil) sNil))))))) (sSeq (sAsg (mFrz (mMake G.cLine (s_Line___init__ G) (aCons (mTup (aCons (mD (D.int 1)) aNil)) aNil))) (gNm 8)) (sSeq (sRet (m2 eqD (mLst (aCons (mCall (s_is_row G) (aCons (mVar 8) aNil)) (aCons (mCallK (s_is_row G) ["thing"] ["thing"] (aCons (mTup (aCons (mVar 8) aNil)) aNil)) (aCons (mCall (s_is_row G) (aCons (mTup (aCons (mTup (aCons (mVar 8) (aCons (mTup aNil) aNil))) aNil)) aNil)) (aCons (mCall (s_is_row G) (aCons (mTup (aCons (mTup (aCons (mTup (aCons (mD (D.int 1)) aNil)) (aCons (mVar 8) aNil))) aNil)) aNil)) aNil))))) (m2 mulT (mLst (aCons (mD (D.bl false)) aNil)) (mD (D.int 4))))) sNil))))
noncomputable def s_law (G : Cst) : Fs := fnS 9 (b_law G)
section
variable {P : Program} {w : World} {K : PySem.W.Frag} {mg : Str → Option Value} {base : Heap} {G : Cst}
abbrev st_is_tuple : Stmt := topS 32
theorem sc_is_tuple : FnScope ["thing", "length"] ["thing", "length"] (defScope st_is_tuple) := ⟨rfl, rfl, rfl, by decide +kernel, rfl, by decide +kernel, by decide +kernel⟩
theorem fx_is_tuple (t : TX K mg G) : Fx P w K mg base 1 t.f_is_tuple t.d_is_tuple ["thing", "length"] (s_is_tuple G) :=
  fx_mk (k := 0) t.F_is_tuple sc_is_tuple (fun _ _ _ _ _ _ us hl => match us, hl with | [_, _], _ => rfl) fun cdv A outer s1 H E hr Wx tk hp => (rs_cons (rs_ret (re_and (re_bB (call_isi) (o_isi t.own) (by rfl) t.z_isinstance (by decide +kernel) (ra_cons (re_var 0) (ra_cons (re_ty (by rfl) t.z_tuple (by decide +kernel)) ra_nil))) (re_one (re_eq hr.u64 (re_bB (c_len) o_len (by rfl) t.z_len PySem.boot_len (ra_cons (re_var 0) ra_nil)) (re_var 1))))) rs_nil)
abbrev st_is_integer : Stmt := topS 30
theorem sc_is_integer : FnScope ["thing"] ["thing"] (defScope st_is_integer) := ⟨rfl, rfl, rfl, by decide +kernel, rfl, by decide +kernel, by decide +kernel⟩
theorem fx_is_integer (t : TX K mg G) : Fx P w K mg base 1 t.f_is_integer t.d_is_integer ["thing"] (s_is_integer G) :=
  fx_mk (k := 0) t.F_is_integer sc_is_integer (fun _ _ _ _ _ _ us hl => match us, hl with | [_], _ => rfl) fun cdv A outer s1 H E hr Wx tk hp => (rs_cons (rs_ret (re_and (re_bB (call_isi) (o_isi t.own) (by rfl) t.z_isinstance (by decide +kernel) (ra_cons (re_var 0) (ra_cons (re_ty (by rfl) t.z_int (by decide +kernel)) ra_nil))) (re_one (re_not (re_bB (call_isi) (o_isi t.own) (by rfl) t.z_isinstance (by decide +kernel) (ra_cons (re_var 0) (ra_cons (re_ty (by rfl) t.z_bool (by decide +kernel)) ra_nil))))))) rs_nil)
abbrev st_is_from : Stmt := topS 31
theorem sc_is_from : FnScope ["thing", "least"] ["thing", "least"] (defScope st_is_from) := ⟨rfl, rfl, rfl, by decide +kernel, rfl, by decide +kernel, by decide +kernel⟩
theorem fx_is_from (t : TX K mg G) : Fx P w K mg base 2 t.f_is_from t.d_is_from ["thing", "least"] (s_is_from G) :=
  fx_mk (k := 1) t.F_is_from sc_is_from (fun _ _ _ _ _ _ us hl => match us, hl with | [_, _], _ => rfl) fun cdv A outer s1 H E hr Wx tk hp => (rs_cons (rs_ret (re_and (re_call tk (Fx.mono (fx_is_integer t) (by decide)) hr (by rfl) t.g_is_integer (ra_cons (re_var 0) ra_nil) (len_cons len_nil)) (re_one (re_ge (re_var 0) (re_var 1))))) rs_nil)
abbrev st_is_weights_value : Stmt := topS 34
theorem sc_is_weights_value : FnScope ["thing", "weight"] ["thing"] (defScope st_is_weights_value) := ⟨rfl, rfl, rfl, by decide +kernel, rfl, by decide +kernel, by decide +kernel⟩
theorem fx_is_weights_value (t : TX K mg G) : Fx P w K mg base 3 t.f_is_weights_value t.d_is_weights_value ["thing"] (s_is_weights_value G) :=
  fx_mk (k := 2) t.F_is_weights_value sc_is_weights_value (fun _ _ _ _ _ _ us hl => match us, hl with | [_], _ => rfl) fun cdv A outer s1 H E hr Wx tk hp => (rs_cons (rs_ret (re_and (re_bB (call_isi) (o_isi t.own) (by rfl) t.z_isinstance (by decide +kernel) (ra_cons (re_var 0) (ra_cons (re_ty (by rfl) t.z_tuple (by decide +kernel)) ra_nil))) (re_and (re_gt (re_bB (c_len) o_len (by rfl) t.z_len PySem.boot_len (ra_cons (re_var 0) ra_nil)) re_int) (re_one (re_bB (cr_all rfl) o_all (by rfl) t.z_all (by decide +kernel) (ra_cons (re_lc rfl sc_is_weights_value.nd (blkOk_by (own := [("weight", 1)]) (by kernel_rfl)) (by decide) (ri_seq (re_var 0)) (fun _ _ _ _ _ => (rg_name sc_is_weights_value.nd (i := 1))) (fun _ _ _ _ _ => rts_nil) (fun _ _ _ _ _ => (re_call takes0 (Fx.mono (fx_is_from t) (by decide)) hr (by rfl) t.g_is_from (ra_cons (re_var 1) (ra_cons re_int ra_nil)) (len_cons (len_cons len_nil))))) ra_nil)))))) rs_nil)
abbrev st_is_packet : Stmt := topS 36
theorem sc_is_packet : FnScope ["thing"] ["thing"] (defScope st_is_packet) := ⟨rfl, rfl, rfl, by decide +kernel, rfl, by decide +kernel, by decide +kernel⟩
theorem fx_is_packet (t : TX K mg G) : Fx P w K mg base 3 t.f_is_packet t.d_is_packet ["thing"] (s_is_packet G) :=
  fx_mk (k := 2) t.F_is_packet sc_is_packet (fun _ _ _ _ _ _ us hl => match us, hl with | [_], _ => rfl) fun cdv A outer s1 H E hr Wx tk hp => (rs_cons (rs_ret (re_and (re_call tk (Fx.mono (fx_is_tuple t) (by decide)) hr (by rfl) t.g_is_tuple (ra_cons (re_var 0) (ra_cons re_int ra_nil)) (len_cons (len_cons len_nil))) (re_and (re_call tk (Fx.mono (fx_is_from t) (by decide)) hr (by rfl) t.g_is_from (ra_cons (re_ix hr.u1 (re_var 0) re_int (fun _ _ => rfl)) (ra_cons re_int ra_nil)) (len_cons (len_cons len_nil))) (re_and (re_call tk (Fx.mono (fx_is_from t) (by decide)) hr (by rfl) t.g_is_from (ra_cons (re_ix hr.u1 (re_var 0) re_int (fun _ _ => rfl)) (ra_cons re_int ra_nil)) (len_cons (len_cons len_nil))) (re_one (re_call tk (Fx.mono (fx_is_from t) (by decide)) hr (by rfl) t.g_is_from (ra_cons (re_ix hr.u1 (re_var 0) re_int (fun _ _ => rfl)) (ra_cons re_int ra_nil)) (len_cons (len_cons len_nil)))))))) rs_nil)
abbrev st_are_arrivals : Stmt := topS 37
theorem sc_are_arrivals : FnScope ["thing", "packet", "one", "other"] ["thing"] (defScope st_are_arrivals) := ⟨rfl, rfl, rfl, by decide +kernel, rfl, by decide +kernel, by decide +kernel⟩
theorem fx_are_arrivals (t : TX K mg G) : Fx P w K mg base 4 t.f_are_arrivals t.d_are_arrivals ["thing"] (s_are_arrivals G) :=
  fx_mk (k := 3) t.F_are_arrivals sc_are_arrivals (fun _ _ _ _ _ _ us hl => match us, hl with | [_], _ => rfl) fun cdv A outer s1 H E hr Wx tk hp => (rs_cons (rs_if (rt_w (rw_or (rt_not (rt_val (re_bB (call_isi) (o_isi t.own) (by rfl) t.z_isinstance (by decide +kernel) (ra_cons (re_var 0) (ra_cons (re_ty (by rfl) t.z_tuple (by decide +kernel)) ra_nil))))) (rw_or1 (rt_not (rt_val (re_bB (cr_all rfl) o_all (by rfl) t.z_all (by decide +kernel) (ra_cons (re_lc rfl sc_are_arrivals.nd (blkOk_by (own := [("packet", 1)]) (by kernel_rfl)) (by decide) (ri_seq (re_var 0)) (fun _ _ _ _ _ => (rg_name sc_are_arrivals.nd (i := 1))) (fun _ _ _ _ _ => rts_nil) (fun _ _ _ _ _ => (re_call takes0 (Fx.mono (fx_is_packet t) (by decide)) hr (by rfl) t.g_is_packet (ra_cons (re_var 1) ra_nil) (len_cons len_nil)))) ra_nil))))))) (rs_cons (rs_ret re_bl) rs_nil) rs_nil) (rs_cons (rs_ret (re_bB (cr_all rfl) o_all (by rfl) t.z_all (by decide +kernel) (ra_cons (re_lc rfl sc_are_arrivals.nd (blkOk_by (own := [("one", 2), ("other", 3)]) (by kernel_rfl)) (by decide) (ri_zip (by rfl) t.z_zip (re_var 0) (re_sl (re_var 0) (ro_some re_int) ro_none)) (fun _ _ _ _ _ => (rg_tup rfl (rgs_cons (rg_name sc_are_arrivals.nd (i := 2)) (rgs_cons (rg_name sc_are_arrivals.nd (i := 3)) rgs_nil)))) (fun _ _ _ _ _ => rts_nil) (fun _ _ _ _ _ => (re_le (re_ix hr.u1 (re_var 2) re_int (fun _ _ => rfl)) (re_ix hr.u1 (re_var 3) re_int (fun _ _ => rfl))))) ra_nil))) rs_nil))
abbrev st_is_arrivals_value : Stmt := topS 38
theorem sc_is_arrivals_value : FnScope ["weights", "thing", "packet"] ["weights", "thing"] (defScope st_is_arrivals_value) := ⟨rfl, rfl, rfl, by decide +kernel, rfl, by decide +kernel, by decide +kernel⟩
theorem fx_is_arrivals_value (t : TX K mg G) : Fx P w K mg base 5 t.f_is_arrivals_value t.d_is_arrivals_value ["weights", "thing"] (s_is_arrivals_value G) :=
  fx_mk (k := 4) t.F_is_arrivals_value sc_is_arrivals_value (fun _ _ _ _ _ _ us hl => match us, hl with | [_, _], _ => rfl) fun cdv A outer s1 H E hr Wx tk hp => (rs_cons (rs_ret (re_and (re_call tk (Fx.mono (fx_are_arrivals t) (by decide)) hr (by rfl) t.g_are_arrivals (ra_cons (re_var 1) ra_nil) (len_cons len_nil)) (re_one (re_bB (cr_all rfl) o_all (by rfl) t.z_all (by decide +kernel) (ra_cons (re_lc rfl sc_is_arrivals_value.nd (blkOk_by (own := [("packet", 2)]) (by kernel_rfl)) (by decide) (ri_seq (re_var 1)) (fun _ _ _ _ _ => (rg_name sc_is_arrivals_value.nd (i := 2))) (fun _ _ _ _ _ => rts_nil) (fun _ _ _ _ _ => (re_lt hr.u0 (re_ix hr.u1 (re_var 2) re_int (fun _ _ => rfl)) (re_bB (c_len) o_len (by rfl) t.z_len PySem.boot_len (ra_cons (re_var 0) ra_nil))))) ra_nil))))) rs_nil)
abbrev st_is_line : Stmt := topS 42
theorem sc_is_line : FnScope ["thing", "moment", "flow", "length"] ["thing"] (defScope st_is_line) := ⟨rfl, rfl, rfl, by decide +kernel, rfl, by decide +kernel, by decide +kernel⟩
theorem fx_is_line (t : TX K mg G) : Fx P w K mg base 6 t.f_is_line t.d_is_line ["thing"] (s_is_line G) :=
  fx_mk (k := 5) t.F_is_line sc_is_line (fun _ _ _ _ _ _ us hl => match us, hl with | [_], _ => rfl) fun cdv A outer s1 H E hr Wx tk hp => (rs_cons (rs_if (rt_w (rw_or (rt_not (rt_val (re_call tk (Fx.mono (fx_is_tuple t) (by decide)) hr (by rfl) t.g_is_tuple (ra_cons (re_var 0) (ra_cons re_int ra_nil)) (len_cons (len_cons len_nil))))) (rw_or (rt_not (rt_val (re_call tk (Fx.mono (fx_is_weights_value t) (by decide)) hr (by rfl) t.g_is_weights_value (ra_cons (re_ix hr.u1 (re_var 0) re_int (fun _ _ => rfl)) ra_nil) (len_cons len_nil)))) (rw_or1 (rt_not (rt_val (re_call tk (Fx.mono (fx_is_arrivals_value t) (by decide)) hr (by rfl) t.g_is_arrivals_value (ra_cons (re_ix hr.u1 (re_var 0) re_int (fun _ _ => rfl)) (ra_cons (re_ix hr.u1 (re_var 0) re_int (fun _ _ => rfl)) ra_nil)) (len_cons (len_cons len_nil))))))))) (rs_cons (rs_ret re_bl) rs_nil) rs_nil) (rs_cons (rs_ret (re_bB (cr_all rfl) o_all (by rfl) t.z_all (by decide +kernel) (ra_cons (re_lc rfl sc_is_line.nd (blkOk_by (own := [("moment", 1), ("flow", 2), ("length", 3)]) (by kernel_rfl)) (by decide) (ri_seq (re_ix hr.u1 (re_var 0) re_int (fun _ _ => rfl))) (fun _ _ _ _ _ => (rg_tup rfl (rgs_cons (rg_name sc_is_line.nd (i := 1)) (rgs_cons (rg_name sc_is_line.nd (i := 2)) (rgs_cons (rg_name sc_is_line.nd (i := 3)) rgs_nil))))) (fun _ _ _ _ _ => rts_nil) (fun _ _ _ _ _ => (re_ne hr.u64 (re_var 2) re_int))) ra_nil))) rs_nil))
abbrev st_is_row : Stmt := topS 43
theorem sc_is_row : FnScope ["thing", "line"] ["thing"] (defScope st_is_row) := ⟨rfl, rfl, rfl, by decide +kernel, rfl, by decide +kernel, by decide +kernel⟩
theorem fx_is_row (t : TX K mg G) : Fx P w K mg base 7 t.f_is_row t.d_is_row ["thing"] (s_is_row G) :=
  fx_mk (k := 6) t.F_is_row sc_is_row (fun _ _ _ _ _ _ us hl => match us, hl with | [_], _ => rfl) fun cdv A outer s1 H E hr Wx tk hp => (rs_cons (rs_ret (re_and (re_bB (call_isi) (o_isi t.own) (by rfl) t.z_isinstance (by decide +kernel) (ra_cons (re_var 0) (ra_cons (re_ty (by rfl) t.z_tuple (by decide +kernel)) ra_nil))) (re_and (re_ne hr.u64 (re_var 0) (re_tup ra_nil)) (re_one (re_bB (cr_all rfl) o_all (by rfl) t.z_all (by decide +kernel) (ra_cons (re_lc rfl sc_is_row.nd (blkOk_by (own := [("line", 1)]) (by kernel_rfl)) (by decide) (ri_seq (re_var 0)) (fun _ _ _ _ _ => (rg_name sc_is_row.nd (i := 1))) (fun _ _ _ _ _ => rts_nil) (fun _ _ _ _ _ => (re_call takes0 (Fx.mono (fx_is_line t) (by decide)) hr (by rfl) t.g_is_line (ra_cons (re_var 1) ra_nil) (len_cons len_nil)))) ra_nil)))))) rs_nil)
abbrev st_need_weights : Stmt := topS 35
theorem sc_need_weights : FnScope ["weights"] ["weights"] (defScope st_need_weights) := ⟨rfl, rfl, rfl, by decide +kernel, rfl, by decide +kernel, by decide +kernel⟩
theorem fx_need_weights (t : TX K mg G) : Fx P w K mg base 4 t.f_need_weights t.d_need_weights ["weights"] (s_need_weights G) :=
  fx_mk (k := 3) t.F_need_weights sc_need_weights (fun _ _ _ _ _ _ us hl => match us, hl with | [_], _ => rfl) fun cdv A outer s1 H E hr Wx tk hp => (rs_cons (rs_if (rt_not (rt_val (re_call tk (Fx.mono (fx_is_weights_value t) (by decide)) hr (by rfl) t.g_is_weights_value (ra_cons (re_var 0) ra_nil) (len_cons len_nil)))) (rs_cons rs_never rs_nil) rs_nil) rs_nil)
abbrev st_Line___init__ : Stmt := inClass (topS 46) 0
theorem sc_Line___init__ : FnScope ["self", "weights"] ["self", "weights"] (defScope st_Line___init__) := ⟨rfl, rfl, rfl, by decide +kernel, rfl, by decide +kernel, by decide +kernel⟩
theorem fx_Line___init__ (t : TX K mg G) : Fx P w K mg base 5 t.f_Line___init__ t.d_Line___init__ ["self", "weights"] (s_Line___init__ G) :=
  fx_mkK (k := 4) t.F_Line___init__ sc_Line___init__ (fun _ _ _ _ _ _ us hl => match us, hl with | [_, _], _ => rfl) fun cdv A outer s1 H E hr Wx tk hp => (rs_cons (rs_expr (re_call tk (Fx.mono (fx_need_weights t) (by decide)) hr (by rfl) t.g_need_weights (ra_cons (re_var 1) ra_nil) (len_cons len_nil))) (rs_cons (rs_fld t.cl_Line t.n_Line_weights (re_var 1) (re_var 0)) (rs_cons (rs_fld t.cl_Line t.n_Line_arrivals (re_tup ra_nil) (re_var 0)) (rs_cons (rs_fld t.cl_Line t.n_Line_starts (re_tup ra_nil) (re_var 0)) (rs_cons (rs_fld t.cl_Line t.n_Line_time re_int (re_var 0)) rs_nil)))))
abbrev st__law_deck : Stmt := topS 48
theorem sc__law_deck : FnScope ["script", "number", "cell"] ["script"] (defScope st__law_deck) := ⟨rfl, rfl, rfl, by decide +kernel, rfl, by decide +kernel, by decide +kernel⟩
theorem fx__law_deck (t : TX K mg G) : Fx P w K mg base 1 t.f__law_deck t.d__law_deck ["script"] (s__law_deck G) :=
  fx_mkK (k := 0) t.F__law_deck sc__law_deck (fun _ _ _ _ _ _ us hl => match us, hl with | [_], _ => rfl) fun cdv A outer s1 H E hr Wx tk hp => (rs_cons (rs_set re_int sc__law_deck.nd) (rs_cons (rs_for hp rfl (ri_seq (re_sl (re_var 0) ro_none (ro_some re_int))) (rg_name sc__law_deck.nd (i := 2)) (rs_cons (rs_set (re_mod (re_bT (call_int1) o_int (by rfl) t.z_int (by decide +kernel) (ra_cons (re_add (re_add (re_mulT (re_var 1) re_int) (re_mod (re_bT (call_int1) o_int (by rfl) t.z_int (by decide +kernel) (ra_cons (re_var 2) ra_nil)) re_int)) re_int) ra_nil)) re_int) sc__law_deck.nd) rs_nil)) (rs_cons (rs_ret (re_dicM (rps_str (re_revM (re_bT (call_list_of) o_list (by rfl) t.z_list (by decide +kernel) (ra_cons (re_sl (re_var 0) ro_none (ro_some re_int)) ra_nil))) (rps_str (re_var 1) (rps_str re_int rps_nil))) (by decide +kernel) (by decide) rfl rfl (by simp) (by decide))) rs_nil)))
abbrev st__law_draw : Stmt := topS 49
theorem sc__law_draw : FnScope ["deck", "many", "number", "cell"] ["deck", "many"] (defScope st__law_draw) := ⟨rfl, rfl, rfl, by decide +kernel, rfl, by decide +kernel, by decide +kernel⟩
theorem fx__law_draw (t : TX K mg G) : Fx P w K mg base 1 t.f__law_draw t.d__law_draw ["deck", "many"] (s__law_draw G) :=
  fx_mk (k := 0) t.F__law_draw sc__law_draw (fun _ _ _ _ _ _ us hl => match us, hl with | [_, _], _ => rfl) fun cdv A outer s1 H E hr Wx tk hp => (rs_cons (rs_dput hr.u1 (re_add (re_ix hr.u1 (re_var 0) re_str (fun _ _ => rfl)) re_int) (re_var 0) re_str) (rs_cons (rs_set (re_add (re_ix hr.u1 (re_var 0) re_str (fun _ _ => rfl)) (re_mulT re_int (re_ix hr.u1 (re_var 0) re_str (fun _ _ => rfl)))) sc__law_draw.nd) (rs_cons (rs_if (rt_ne hr.u64 (re_ix hr.u1 (re_var 0) re_str (fun _ _ => rfl)) (re_lst ra_nil)) (rs_cons (rs_set (re_pop (re_ix hr.u1 (re_var 0) re_str (fun _ _ => rfl))) sc__law_draw.nd) (rs_cons (rs_if (rt_ge (re_var 3) (re_pow re_int re_int)) (rs_cons (rs_expr (re_app (re_ix hr.u1 (re_var 0) re_str (fun _ _ => rfl)) (re_fdiv (re_var 3) (re_bB (c_maxT rfl) o_maxT (by rfl) t.z_max (by decide +kernel) (ra_cons re_int (ra_cons (re_var 1) ra_nil)))))) (rs_cons (rs_ret (re_mod (re_bT (call_int1) o_int (by rfl) t.z_int (by decide +kernel) (ra_cons (re_var 3) ra_nil)) (re_var 1))) rs_nil)) rs_nil) (rs_cons (rs_set (re_add (re_var 2) (re_mod (re_bT (call_int1) o_int (by rfl) t.z_int (by decide +kernel) (ra_cons (re_var 3) ra_nil)) re_int)) sc__law_draw.nd) rs_nil))) rs_nil) (rs_cons (rs_set (re_mod (re_bT (call_int1) o_int (by rfl) t.z_int (by decide +kernel) (ra_cons (re_add (re_mulT (re_var 2) re_int) re_int) ra_nil)) re_int) sc__law_draw.nd) (rs_cons (rs_set (re_mod (re_bT (call_int1) o_int (by rfl) t.z_int (by decide +kernel) (ra_cons (re_add (re_add (re_mulT (re_var 2) (re_var 2)) (re_mulT re_int (re_ix hr.u1 (re_var 0) re_str (fun _ _ => rfl)))) re_int) ra_nil)) re_int) sc__law_draw.nd) (rs_cons (rs_set (re_mod (re_bT (call_int1) o_int (by rfl) t.z_int (by decide +kernel) (ra_cons (re_mulT (re_var 2) re_int) ra_nil)) re_int) sc__law_draw.nd) (rs_cons (rs_ret (re_mod (re_bT (call_int1) o_int (by rfl) t.z_int (by decide +kernel) (ra_cons (re_fdiv (re_var 2) re_int) ra_nil)) (re_var 1))) rs_nil)))))))
abbrev st__law_pick : Stmt := topS 50
theorem sc__law_pick : FnScope ["deck", "some"] ["deck", "some"] (defScope st__law_pick) := ⟨rfl, rfl, rfl, by decide +kernel, rfl, by decide +kernel, by decide +kernel⟩
theorem fx__law_pick (t : TX K mg G) : Fx P w K mg base 2 t.f__law_pick t.d__law_pick ["deck", "some"] (s__law_pick G) :=
  fx_mk (k := 1) t.F__law_pick sc__law_pick (fun _ _ _ _ _ _ us hl => match us, hl with | [_, _], _ => rfl) fun cdv A outer s1 H E hr Wx tk hp => (rs_cons (rs_ret (re_ix hr.u1 (re_var 1) (re_call tk (Fx.mono (fx__law_draw t) (by decide)) hr (by rfl) t.g__law_draw (ra_cons (re_var 0) (ra_cons (re_bB (c_len) o_len (by rfl) t.z_len PySem.boot_len (ra_cons (re_var 1) ra_nil)) ra_nil)) (len_cons (len_cons len_nil))) (fun _ _ => rfl))) rs_nil)
abbrev st__law_weights : Stmt := topS 52
theorem sc__law_weights : FnScope ["deck", "many", "way", "i"] ["deck", "many"] (defScope st__law_weights) := ⟨rfl, rfl, rfl, by decide +kernel, rfl, by decide +kernel, by decide +kernel⟩
theorem fx__law_weights (t : TX K mg G) : Fx P w K mg base 3 t.f__law_weights t.d__law_weights ["deck", "many"] (s__law_weights G) :=
  fx_mk (k := 2) t.F__law_weights sc__law_weights (fun _ _ _ _ _ _ us hl => match us, hl with | [_, _], _ => rfl) fun cdv A outer s1 H E hr Wx tk hp => (rs_cons (rs_set (re_call tk (Fx.mono (fx__law_draw t) (by decide)) hr (by rfl) t.g__law_draw (ra_cons (re_var 0) (ra_cons re_int ra_nil)) (len_cons (len_cons len_nil))) sc__law_weights.nd) (rs_cons (rs_if (rt_eq hr.u64 (re_var 2) re_int) (rs_cons (rs_ret (re_mulT (re_tup (ra_cons (re_add re_int (re_call tk (Fx.mono (fx__law_draw t) (by decide)) hr (by rfl) t.g__law_draw (ra_cons (re_var 0) (ra_cons re_int ra_nil)) (len_cons (len_cons len_nil)))) ra_nil)) (re_var 1))) rs_nil) rs_nil) (rs_cons (rs_if (rt_eq hr.u64 (re_var 2) re_int) (rs_cons (rs_ret (re_bT (call_tuple_of) o_tup (by rfl) t.z_tuple (by decide +kernel) (ra_cons (re_lc rfl sc__law_weights.nd (blkOk_by (own := [("i", 3)]) (by kernel_rfl)) (by decide) (ri_rng1 (by rfl) t.z_range (re_var 1)) (fun _ _ _ _ _ => (rg_name sc__law_weights.nd (i := 3))) (fun _ _ _ _ _ => rts_nil) (fun _ _ _ _ _ => (re_call takes0 (Fx.mono (fx__law_pick t) (by decide)) hr (by rfl) t.g__law_pick (ra_cons (re_var 0) (ra_cons (re_lst (ra_cons re_int (ra_cons re_int (ra_cons re_int (ra_cons re_int ra_nil))))) ra_nil)) (len_cons (len_cons len_nil))))) ra_nil))) rs_nil) rs_nil) (rs_cons (rs_ret (re_bT (call_tuple_of) o_tup (by rfl) t.z_tuple (by decide +kernel) (ra_cons (re_lc rfl sc__law_weights.nd (blkOk_by (own := [("i", 3)]) (by kernel_rfl)) (by decide) (ri_rng1 (by rfl) t.z_range (re_var 1)) (fun _ _ _ _ _ => (rg_name sc__law_weights.nd (i := 3))) (fun _ _ _ _ _ => rts_nil) (fun _ _ _ _ _ => (re_add re_int (re_call takes0 (Fx.mono (fx__law_draw t) (by decide)) hr (by rfl) t.g__law_draw (ra_cons (re_var 0) (ra_cons (re_call takes0 (Fx.mono (fx__law_pick t) (by decide)) hr (by rfl) t.g__law_pick (ra_cons (re_var 0) (ra_cons (re_lst (ra_cons re_int (ra_cons re_int (ra_cons re_int ra_nil)))) ra_nil)) (len_cons (len_cons len_nil))) ra_nil)) (len_cons (len_cons len_nil)))))) ra_nil))) rs_nil))))
abbrev st__law_arrivals : Stmt := topS 53
theorem sc__law_arrivals : FnScope ["deck", "flows", "many", "found", "now", "way", "most", "go", "flow", "length", "turn"] ["deck", "flows", "many"] (defScope st__law_arrivals) := ⟨rfl, rfl, rfl, by decide +kernel, rfl, by decide +kernel, by decide +kernel⟩
theorem fx__law_arrivals (t : TX K mg G) : Fx P w K mg base 3 t.f__law_arrivals t.d__law_arrivals ["deck", "flows", "many"] (s__law_arrivals G) :=
  fx_mk (k := 2) t.F__law_arrivals sc__law_arrivals (fun _ _ _ _ _ _ us hl => match us, hl with | [_, _, _], _ => rfl) fun cdv A outer s1 H E hr Wx tk hp => (rs_cons (rs_par3 (ra_cons (re_lstM ra_nil) (ra_cons (re_call tk (Fx.mono (fx__law_pick t) (by decide)) hr (by rfl) t.g__law_pick (ra_cons (re_var 0) (ra_cons (re_lst (ra_cons re_int (ra_cons re_int (ra_cons re_int (ra_cons re_int ra_nil))))) ra_nil)) (len_cons (len_cons len_nil))) (ra_cons (re_call tk (Fx.mono (fx__law_draw t) (by decide)) hr (by rfl) t.g__law_draw (ra_cons (re_var 0) (ra_cons re_int ra_nil)) (len_cons (len_cons len_nil))) ra_nil))) rfl sc__law_arrivals.nd) (rs_cons (rs_set (re_call tk (Fx.mono (fx__law_pick t) (by decide)) hr (by rfl) t.g__law_pick (ra_cons (re_var 0) (ra_cons (re_lst (ra_cons re_int (ra_cons re_int (ra_cons re_int (ra_cons re_int (ra_cons re_int ra_nil)))))) ra_nil)) (len_cons (len_cons len_nil))) sc__law_arrivals.nd) (rs_cons (rs_for hp rfl (ri_rng1 (by rfl) t.z_range (re_var 2)) (rg_name sc__law_arrivals.nd (i := 7)) (rs_cons (rs_if (rt_gt (re_var 5) re_int) (rs_cons (rs_set (re_bB (c_min rfl) o_min (by rfl) t.z_min (by decide +kernel) (ra_cons re_int (ra_cons (re_add (re_var 4) (re_call tk (Fx.mono (fx__law_pick t) (by decide)) hr (by rfl) t.g__law_pick (ra_cons (re_var 0) (ra_cons (re_lst (ra_cons re_int (ra_cons re_int (ra_cons re_int (ra_cons (re_call tk (Fx.mono (fx__law_draw t) (by decide)) hr (by rfl) t.g__law_draw (ra_cons (re_var 0) (ra_cons (re_add (re_mulT re_int (re_var 6)) re_int) ra_nil)) (len_cons (len_cons len_nil))) (ra_cons (re_if (rt_lt hr.u0 (re_var 5) re_int) (re_call tk (Fx.mono (fx__law_draw t) (by decide)) hr (by rfl) t.g__law_draw (ra_cons (re_var 0) (ra_cons re_int ra_nil)) (len_cons (len_cons len_nil))) re_int) ra_nil)))))) ra_nil)) (len_cons (len_cons len_nil)))) ra_nil))) sc__law_arrivals.nd) rs_nil) rs_nil) (rs_cons (rs_set (re_call tk (Fx.mono (fx__law_pick t) (by decide)) hr (by rfl) t.g__law_pick (ra_cons (re_var 0) (ra_cons (re_var 1) ra_nil)) (len_cons (len_cons len_nil))) sc__law_arrivals.nd) (rs_cons (rs_set (re_add re_int (re_call tk (Fx.mono (fx__law_draw t) (by decide)) hr (by rfl) t.g__law_draw (ra_cons (re_var 0) (ra_cons (re_var 6) ra_nil)) (len_cons (len_cons len_nil)))) sc__law_arrivals.nd) (rs_cons (rs_for hp rfl (ri_rng1 (by rfl) t.z_range (re_call tk (Fx.mono (fx__law_pick t) (by decide)) hr (by rfl) t.g__law_pick (ra_cons (re_var 0) (ra_cons (re_lst (ra_cons re_int (ra_cons re_int (ra_cons re_int (ra_cons re_int ra_nil))))) ra_nil)) (len_cons (len_cons len_nil)))) (rg_name sc__law_arrivals.nd (i := 10)) (rs_cons (rs_if (rt_lt hr.u0 (re_bB (c_len) o_len (by rfl) t.z_len PySem.boot_len (ra_cons (re_var 3) ra_nil)) (re_var 2)) (rs_cons (rs_expr (re_app (re_var 3) (re_tup (ra_cons (re_var 4) (ra_cons (re_var 8) (ra_cons (re_var 9) ra_nil)))))) rs_nil) rs_nil) rs_nil)) rs_nil))))) (rs_cons (rs_ret (re_bT (call_tuple_of) o_tup (by rfl) t.z_tuple (by decide +kernel) (ra_cons (re_var 3) ra_nil))) rs_nil))))
abbrev st__law_row : Stmt := topS 59
theorem sc__law_row : FnScope ["deck", "lines", "many", "found", "line", "weights", "flows", "cross"] ["deck", "lines", "many"] (defScope st__law_row) := ⟨rfl, rfl, rfl, by decide +kernel, rfl, by decide +kernel, by decide +kernel⟩
theorem fx__law_row (t : TX K mg G) : Fx P w K mg base 4 t.f__law_row t.d__law_row ["deck", "lines", "many"] (s__law_row G) :=
  fx_mk (k := 3) t.F__law_row sc__law_row (fun _ _ _ _ _ _ us hl => match us, hl with | [_, _, _], _ => rfl) fun cdv A outer s1 H E hr Wx tk hp => (rs_cons (rs_set (re_lstM ra_nil) sc__law_row.nd) (rs_cons (rs_for hp rfl (ri_rng1 (by rfl) t.z_range (re_var 1)) (rg_name sc__law_row.nd (i := 4)) (rs_cons (rs_set (re_call tk (Fx.mono (fx__law_weights t) (by decide)) hr (by rfl) t.g__law_weights (ra_cons (re_var 0) (ra_cons (re_add re_int (re_call tk (Fx.mono (fx__law_draw t) (by decide)) hr (by rfl) t.g__law_draw (ra_cons (re_var 0) (ra_cons (re_call tk (Fx.mono (fx__law_pick t) (by decide)) hr (by rfl) t.g__law_pick (ra_cons (re_var 0) (ra_cons (re_lst (ra_cons re_int (ra_cons re_int (ra_cons re_int ra_nil)))) ra_nil)) (len_cons (len_cons len_nil))) ra_nil)) (len_cons (len_cons len_nil)))) ra_nil)) (len_cons (len_cons len_nil))) sc__law_row.nd) (rs_cons (rs_par2 (ra_cons (re_lrng rfl (by rfl) t.z_list (by rfl) t.z_range (ra_cons re_int (ra_cons (re_bB (c_len) o_len (by rfl) t.z_len PySem.boot_len (ra_cons (re_var 5) ra_nil)) ra_nil))) (ra_cons (re_tup ra_nil) ra_nil)) rfl sc__law_row.nd) (rs_cons (rs_if (rt_ne hr.u64 (re_var 6) (re_lst ra_nil)) (rs_cons (rs_set (re_call tk (Fx.mono (fx__law_arrivals t) (by decide)) hr (by rfl) t.g__law_arrivals (ra_cons (re_var 0) (ra_cons (re_var 6) (ra_cons (re_call tk (Fx.mono (fx__law_draw t) (by decide)) hr (by rfl) t.g__law_draw (ra_cons (re_var 0) (ra_cons (re_add (re_var 2) re_int) ra_nil)) (len_cons (len_cons len_nil))) ra_nil))) (len_cons (len_cons (len_cons len_nil)))) sc__law_row.nd) rs_nil) rs_nil) (rs_cons (rs_expr (re_app (re_var 3) (re_tup (ra_cons (re_var 5) (ra_cons (re_var 7) ra_nil))))) rs_nil))))) (rs_cons (rs_ret (re_bT (call_tuple_of) o_tup (by rfl) t.z_tuple (by decide +kernel) (ra_cons (re_var 3) ra_nil))) rs_nil)))
abbrev st__law_is_integer : Stmt := topS 51
theorem sc__law_is_integer : FnScope ["thing"] ["thing"] (defScope st__law_is_integer) := ⟨rfl, rfl, rfl, by decide +kernel, rfl, by decide +kernel, by decide +kernel⟩
theorem fx__law_is_integer (t : TX K mg G) : Fx P w K mg base 1 t.f__law_is_integer t.d__law_is_integer ["thing"] (s__law_is_integer G) :=
  fx_mk (k := 0) t.F__law_is_integer sc__law_is_integer (fun _ _ _ _ _ _ us hl => match us, hl with | [_], _ => rfl) fun cdv A outer s1 H E hr Wx tk hp => (rs_cons (rs_ret (re_and (re_bB (call_isi) (o_isi t.own) (by rfl) t.z_isinstance (by decide +kernel) (ra_cons (re_var 0) (ra_cons (re_ty (by rfl) t.z_int (by decide +kernel)) ra_nil))) (re_one (re_not (re_bB (call_isi) (o_isi t.own) (by rfl) t.z_isinstance (by decide +kernel) (ra_cons (re_var 0) (ra_cons (re_ty (by rfl) t.z_bool (by decide +kernel)) ra_nil))))))) rs_nil)
abbrev st__law_are_weights : Stmt := topS 54
theorem sc__law_are_weights : FnScope ["thing", "x"] ["thing"] (defScope st__law_are_weights) := ⟨rfl, rfl, rfl, by decide +kernel, rfl, by decide +kernel, by decide +kernel⟩
theorem fx__law_are_weights (t : TX K mg G) : Fx P w K mg base 2 t.f__law_are_weights t.d__law_are_weights ["thing"] (s__law_are_weights G) :=
  fx_mk (k := 1) t.F__law_are_weights sc__law_are_weights (fun _ _ _ _ _ _ us hl => match us, hl with | [_], _ => rfl) fun cdv A outer s1 H E hr Wx tk hp => (rs_cons (rs_if (rt_w (rw_or (rt_not (rt_val (re_bB (call_isi) (o_isi t.own) (by rfl) t.z_isinstance (by decide +kernel) (ra_cons (re_var 0) (ra_cons (re_ty (by rfl) t.z_tuple (by decide +kernel)) ra_nil))))) (rw_or1 (rt_eq hr.u64 (re_var 0) (re_tup ra_nil))))) (rs_cons (rs_ret re_bl) rs_nil) rs_nil) (rs_cons (rs_ret (re_eq hr.u64 (re_lc rfl sc__law_are_weights.nd (blkOk_by (own := [("x", 1)]) (by kernel_rfl)) (by decide) (ri_seq (re_var 0)) (fun _ _ _ _ _ => (rg_name sc__law_are_weights.nd (i := 1))) (fun _ _ _ _ _ => (rts_one (rt_w (rw_or (rt_not (rt_val (re_call takes0 (Fx.mono (fx__law_is_integer t) (by decide)) hr (by rfl) t.g__law_is_integer (ra_cons (re_var 1) ra_nil) (len_cons len_nil)))) (rw_or1 (rt_lt hr.u0 (re_var 1) re_int)))))) (fun _ _ _ _ _ => (re_var 1))) (re_lst ra_nil))) rs_nil))
abbrev st__law_are_arrivals : Stmt := topS 55
theorem sc__law_are_arrivals : FnScope ["flows", "thing", "last", "packet", "x"] ["flows", "thing"] (defScope st__law_are_arrivals) := ⟨rfl, rfl, rfl, by decide +kernel, rfl, by decide +kernel, by decide +kernel⟩
theorem fx__law_are_arrivals (t : TX K mg G) : Fx P w K mg base 2 t.f__law_are_arrivals t.d__law_are_arrivals ["flows", "thing"] (s__law_are_arrivals G) :=
  fx_mk (k := 1) t.F__law_are_arrivals sc__law_are_arrivals (fun _ _ _ _ _ _ us hl => match us, hl with | [_, _], _ => rfl) fun cdv A outer s1 H E hr Wx tk hp => (rs_cons (rs_if (rt_not (rt_val (re_bB (call_isi) (o_isi t.own) (by rfl) t.z_isinstance (by decide +kernel) (ra_cons (re_var 1) (ra_cons (re_ty (by rfl) t.z_tuple (by decide +kernel)) ra_nil))))) (rs_cons (rs_ret re_bl) rs_nil) rs_nil) (rs_cons (rs_set re_int sc__law_are_arrivals.nd) (rs_cons (rs_for hp rfl (ri_seq (re_var 1)) (rg_name sc__law_are_arrivals.nd (i := 3)) (rs_cons (rs_if (rt_w (rw_or (rt_not (rt_val (re_bB (call_isi) (o_isi t.own) (by rfl) t.z_isinstance (by decide +kernel) (ra_cons (re_var 3) (ra_cons (re_ty (by rfl) t.z_tuple (by decide +kernel)) ra_nil))))) (rw_or (rt_ne hr.u64 (re_bB (c_len) o_len (by rfl) t.z_len PySem.boot_len (ra_cons (re_var 3) ra_nil)) re_int) (rw_or1 (rt_ne hr.u64 (re_lc rfl sc__law_are_arrivals.nd (blkOk_by (own := [("x", 4)]) (by kernel_rfl)) (by decide) (ri_seq (re_var 3)) (fun _ _ _ _ _ => (rg_name sc__law_are_arrivals.nd (i := 4))) (fun _ _ _ _ _ => (rts_one (rt_not (rt_val (re_call takes0 (Fx.mono (fx__law_is_integer t) (by decide)) hr (by rfl) t.g__law_is_integer (ra_cons (re_var 4) ra_nil) (len_cons len_nil)))))) (fun _ _ _ _ _ => (re_var 4))) (re_lst ra_nil)))))) (rs_cons (rs_ret re_bl) rs_nil) rs_nil) (rs_cons (rs_if (rt_w (rw_or (rt_lt hr.u0 (re_ix hr.u1 (re_var 3) re_int (fun _ _ => rfl)) (re_var 2)) (rw_or (rt_lt hr.u0 (re_ix hr.u1 (re_var 3) re_int (fun _ _ => rfl)) re_int) (rw_or (rt_lt hr.u0 (re_ix hr.u1 (re_var 3) re_int (fun _ _ => rfl)) re_int) (rw_or1 (rt_w (rw_and (rt_notN (re_var 0)) (rw_and1 (rt_ge (re_ix hr.u1 (re_var 3) re_int (fun _ _ => rfl)) (re_var 0)))))))))) (rs_cons (rs_ret re_bl) rs_nil) rs_nil) (rs_cons (rs_set (re_ix hr.u1 (re_var 3) re_int (fun _ _ => rfl)) sc__law_are_arrivals.nd) rs_nil)))) (rs_cons (rs_ret re_bl) rs_nil))))
abbrev st__law_is_row : Stmt := topS 60
theorem sc__law_is_row : FnScope ["thing", "line", "packet"] ["thing"] (defScope st__law_is_row) := ⟨rfl, rfl, rfl, by decide +kernel, rfl, by decide +kernel, by decide +kernel⟩
theorem fx__law_is_row (t : TX K mg G) : Fx P w K mg base 3 t.f__law_is_row t.d__law_is_row ["thing"] (s__law_is_row G) :=
  fx_mk (k := 2) t.F__law_is_row sc__law_is_row (fun _ _ _ _ _ _ us hl => match us, hl with | [_], _ => rfl) fun cdv A outer s1 H E hr Wx tk hp => (rs_cons (rs_if (rt_w (rw_or (rt_not (rt_val (re_bB (call_isi) (o_isi t.own) (by rfl) t.z_isinstance (by decide +kernel) (ra_cons (re_var 0) (ra_cons (re_ty (by rfl) t.z_tuple (by decide +kernel)) ra_nil))))) (rw_or1 (rt_eq hr.u64 (re_var 0) (re_tup ra_nil))))) (rs_cons (rs_ret re_bl) rs_nil) rs_nil) (rs_cons (rs_for hp rfl (ri_seq (re_var 0)) (rg_name sc__law_is_row.nd (i := 1)) (rs_cons (rs_if (rt_w (rw_or (rt_not (rt_val (re_bB (call_isi) (o_isi t.own) (by rfl) t.z_isinstance (by decide +kernel) (ra_cons (re_var 1) (ra_cons (re_ty (by rfl) t.z_tuple (by decide +kernel)) ra_nil))))) (rw_or (rt_ne hr.u64 (re_bB (c_len) o_len (by rfl) t.z_len PySem.boot_len (ra_cons (re_var 1) ra_nil)) re_int) (rw_or1 (rt_not (rt_val (re_call tk (Fx.mono (fx__law_are_weights t) (by decide)) hr (by rfl) t.g__law_are_weights (ra_cons (re_ix hr.u1 (re_var 1) re_int (fun _ _ => rfl)) ra_nil) (len_cons len_nil)))))))) (rs_cons (rs_ret re_bl) rs_nil) rs_nil) (rs_cons (rs_if (rt_w (rw_or (rt_not (rt_val (re_call tk (Fx.mono (fx__law_are_arrivals t) (by decide)) hr (by rfl) t.g__law_are_arrivals (ra_cons (re_bB (c_len) o_len (by rfl) t.z_len PySem.boot_len (ra_cons (re_ix hr.u1 (re_var 1) re_int (fun _ _ => rfl)) ra_nil)) (ra_cons (re_ix hr.u1 (re_var 1) re_int (fun _ _ => rfl)) ra_nil)) (len_cons (len_cons len_nil))))) (rw_or1 (rt_ne hr.u64 (re_lc rfl sc__law_is_row.nd (blkOk_by (own := [("packet", 2)]) (by kernel_rfl)) (by decide) (ri_seq (re_ix hr.u1 (re_var 1) re_int (fun _ _ => rfl))) (fun _ _ _ _ _ => (rg_name sc__law_is_row.nd (i := 2))) (fun _ _ _ _ _ => (rts_one (rt_eq hr.u64 (re_ix hr.u1 (re_var 2) re_int (fun _ _ => rfl)) re_int))) (fun _ _ _ _ _ => (re_var 2))) (re_lst ra_nil))))) (rs_cons (rs_ret re_bl) rs_nil) rs_nil) rs_nil))) (rs_cons (rs_ret re_bl) rs_nil)))
abbrev st__law_are_within : Stmt := topS 56
theorem sc__law_are_within : FnScope ["weights", "arrivals", "packet"] ["weights", "arrivals"] (defScope st__law_are_within) := ⟨rfl, rfl, rfl, by decide +kernel, rfl, by decide +kernel, by decide +kernel⟩
theorem fx__law_are_within (t : TX K mg G) : Fx P w K mg base 1 t.f__law_are_within t.d__law_are_within ["weights", "arrivals"] (s__law_are_within G) :=
  fx_mk (k := 0) t.F__law_are_within sc__law_are_within (fun _ _ _ _ _ _ us hl => match us, hl with | [_, _], _ => rfl) fun cdv A outer s1 H E hr Wx tk hp => (rs_cons (rs_if (rt_w (rw_and (rt_notN (re_var 0)) (rw_and1 (rt_w (rw_or (rt_gt (re_bB (c_len) o_len (by rfl) t.z_len PySem.boot_len (ra_cons (re_var 0) ra_nil)) re_int) (rw_or1 (rt_gt (re_bB (c_maxT rfl) o_maxT (by rfl) t.z_max (by decide +kernel) (ra_cons (re_var 0) ra_nil)) re_int))))))) (rs_cons (rs_ret re_bl) rs_nil) rs_nil) (rs_cons (rs_if (rt_w (rw_or (rt_gt (re_bB (c_len) o_len (by rfl) t.z_len PySem.boot_len (ra_cons (re_var 1) ra_nil)) re_int) (rw_or1 (rt_ne hr.u64 (re_lc rfl sc__law_are_within.nd (blkOk_by (own := [("packet", 2)]) (by kernel_rfl)) (by decide) (ri_seq (re_var 1)) (fun _ _ _ _ _ => (rg_name sc__law_are_within.nd (i := 2))) (fun _ _ _ _ _ => (rts_one (rt_w (rw_or (rt_gt (re_ix hr.u1 (re_var 2) re_int (fun _ _ => rfl)) re_int) (rw_or (rt_gt (re_ix hr.u1 (re_var 2) re_int (fun _ _ => rfl)) re_int) (rw_or1 (rt_gt (re_ix hr.u1 (re_var 2) re_int (fun _ _ => rfl)) re_int))))))) (fun _ _ _ _ _ => (re_var 2))) (re_lst ra_nil))))) (rs_cons (rs_ret re_bl) rs_nil) rs_nil) (rs_cons (rs_ret re_bl) rs_nil)))
abbrev st__law_is_row_within : Stmt := topS 61
theorem sc__law_is_row_within : FnScope ["row", "many", "weights", "cross"] ["row", "many"] (defScope st__law_is_row_within) := ⟨rfl, rfl, rfl, by decide +kernel, rfl, by decide +kernel, by decide +kernel⟩
theorem fx__law_is_row_within (t : TX K mg G) : Fx P w K mg base 2 t.f__law_is_row_within t.d__law_is_row_within ["row", "many"] (s__law_is_row_within G) :=
  fx_mk (k := 1) t.F__law_is_row_within sc__law_is_row_within (fun _ _ _ _ _ _ us hl => match us, hl with | [_, _], _ => rfl) fun cdv A outer s1 H E hr Wx tk hp => (rs_cons (rs_if (rt_gt (re_bB (c_len) o_len (by rfl) t.z_len PySem.boot_len (ra_cons (re_var 0) ra_nil)) re_int) (rs_cons (rs_ret re_bl) rs_nil) rs_nil) (rs_cons (rs_ret (re_eq hr.u64 (re_lc rfl sc__law_is_row_within.nd (blkOk_by (own := [("weights", 2), ("cross", 3)]) (by kernel_rfl)) (by decide) (ri_seq (re_var 0)) (fun _ _ _ _ _ => (rg_tup rfl (rgs_cons (rg_name sc__law_is_row_within.nd (i := 2)) (rgs_cons (rg_name sc__law_is_row_within.nd (i := 3)) rgs_nil)))) (fun _ _ _ _ _ => (rts_one (rt_w (rw_or (rt_not (rt_val (re_call takes0 (Fx.mono (fx__law_are_within t) (by decide)) hr (by rfl) t.g__law_are_within (ra_cons (re_var 2) (ra_cons (re_var 3) ra_nil)) (len_cons (len_cons len_nil))))) (rw_or1 (rt_gt (re_add (re_bB (c_len) o_len (by rfl) t.z_len PySem.boot_len (ra_cons (re_var 3) ra_nil)) (re_var 1)) re_int)))))) (fun _ _ _ _ _ => re_int)) (re_lst ra_nil))) rs_nil))
abbrev st__law_odd : Stmt := topS 57
theorem sc__law_odd : FnScope ["deck", "it", "some"] ["deck", "it"] (defScope st__law_odd) := ⟨rfl, rfl, rfl, by decide +kernel, rfl, by decide +kernel, by decide +kernel⟩
theorem fx__law_odd (t : TX K mg G) : Fx P w K mg base 3 t.f__law_odd t.d__law_odd ["deck", "it"] (s__law_odd G) :=
  fx_mk (k := 2) t.F__law_odd sc__law_odd (fun _ _ _ _ _ _ us hl => match us, hl with | [_, _], _ => rfl) fun cdv A outer s1 H E hr Wx tk hp => (rs_cons (rs_set (re_lst (ra_cons re_non (ra_cons re_bl (ra_cons re_bl (ra_cons re_int (ra_cons re_int (ra_cons (re_neg re_int) (ra_cons re_int (ra_cons re_int (ra_cons re_str (ra_cons re_str (ra_cons (re_tup ra_nil) (ra_cons (re_tup (ra_cons (re_tup ra_nil) ra_nil)) (ra_cons (re_lst ra_nil) (ra_cons (re_frz re_dic0) (ra_cons (re_tup (ra_cons re_int ra_nil)) (ra_cons (re_tup (ra_cons re_int (ra_cons re_int ra_nil))) (ra_cons (re_lst (ra_cons re_int (ra_cons re_int ra_nil))) (ra_cons (re_tup (ra_cons re_int (ra_cons re_int ra_nil))) (ra_cons (re_tup (ra_cons re_int (ra_cons re_int (ra_cons re_int ra_nil)))) (ra_cons (re_tup (ra_cons (re_tup (ra_cons re_int (ra_cons re_int (ra_cons re_int ra_nil)))) ra_nil)) ra_nil))))))))))))))))))))) sc__law_odd.nd) (rs_cons (rs_set (re_add (re_var 2) (re_lst (ra_cons (re_pow re_int re_int) (ra_cons (re_neg (re_pow re_int re_int)) (ra_cons (re_frz (re_dicM (rps_str re_int rps_nil) (by decide +kernel) (by decide) rfl rfl (by simp) (by decide))) (ra_cons (re_tup (ra_cons re_non ra_nil)) (ra_cons (re_tup (ra_cons re_str ra_nil)) (ra_cons (re_tup (ra_cons re_int (ra_cons re_int ra_nil))) (ra_cons (re_tup (ra_cons re_int (ra_cons re_int ra_nil))) (ra_cons (re_tup (ra_cons re_int (ra_cons (re_tup (ra_cons re_int (ra_cons re_int ra_nil))) ra_nil))) (ra_cons (re_tup (ra_cons (re_tup (ra_cons re_int (ra_cons re_int ra_nil))) (ra_cons (re_tup ra_nil) ra_nil))) (ra_cons (re_tup (ra_cons re_str ra_nil)) (ra_cons (re_tup (ra_cons re_str ra_nil)) ra_nil))))))))))))) sc__law_odd.nd) (rs_cons (rs_if (rt_val (re_bB (call_isi) (o_isi t.own) (by rfl) t.z_isinstance (by decide +kernel) (ra_cons (re_var 1) (ra_cons (re_ty (by rfl) t.z_tuple (by decide +kernel)) ra_nil)))) (rs_cons (rs_set (re_add (re_var 2) (re_mulT (re_lst (ra_cons (re_bT (call_list_of) o_list (by rfl) t.z_list (by decide +kernel) (ra_cons (re_var 1) ra_nil)) (ra_cons (re_add (re_var 1) (re_tup (ra_cons re_int ra_nil))) (ra_cons (re_sl (re_var 1) (ro_some re_int) ro_none) (ra_cons (re_sl (re_var 1) ro_none (ro_some (re_neg re_int))) (ra_cons (re_rev2 (re_var 1)) (ra_cons (re_add (re_var 1) (re_sl (re_var 1) ro_none (ro_some re_int))) (ra_cons (re_tup (ra_cons (re_var 1) ra_nil)) (ra_cons (re_add (re_sl (re_var 1) ro_none (ro_some re_int)) (re_var 1)) (ra_cons (re_add (re_var 1) (re_tup (ra_cons (re_tup ra_nil) ra_nil))) ra_nil)))))))))) re_int)) sc__law_odd.nd) rs_nil) (rs_cons (rs_if (rt_val (re_call tk (Fx.mono (fx__law_is_integer t) (by decide)) hr (by rfl) t.g__law_is_integer (ra_cons (re_var 1) ra_nil) (len_cons len_nil))) (rs_cons (rs_set (re_add (re_var 2) (re_mulT (re_lst (ra_cons (re_add (re_var 1) re_int) (ra_cons (re_sub (re_var 1) re_int) (ra_cons (re_neg (re_var 1)) (ra_cons (re_eq hr.u64 (re_var 1) re_int) (ra_cons (re_lst (ra_cons (re_var 1) ra_nil)) (ra_cons (re_tup (ra_cons (re_var 1) ra_nil)) (ra_cons (re_bT (call_str_int) o_strI (by rfl) t.z_str (by decide +kernel) (ra_cons (re_var 1) ra_nil)) (ra_cons re_int (ra_cons (re_mulT re_int (re_var 1)) ra_nil)))))))))) re_int)) sc__law_odd.nd) rs_nil) rs_nil) rs_nil)) (rs_cons (rs_ret (re_call tk (Fx.mono (fx__law_pick t) (by decide)) hr (by rfl) t.g__law_pick (ra_cons (re_var 0) (ra_cons (re_var 2) ra_nil)) (len_cons (len_cons len_nil)))) rs_nil))))
abbrev st__law_bent : Stmt := topS 58
theorem sc__law_bent : FnScope ["deck", "it", "deep", "at"] ["deck", "it", "deep"] (defScope st__law_bent) := ⟨rfl, rfl, rfl, by decide +kernel, rfl, by decide +kernel, by decide +kernel⟩
theorem fx__law_bent (t : TX K mg G) : ∀ n : Nat, Fx P w K mg base (4 + n) t.f__law_bent t.d__law_bent ["deck", "it", "deep"] (s__law_bent G n)
  | 0 => fx_bad t.F__law_bent (fun _ _ _ _ _ _ us hl => match us, hl with | [_, _, _], _ => rfl)
  | n + 1 => have ih := fx__law_bent t n; fx_mk (k := 4 + n) t.F__law_bent sc__law_bent (fun _ _ _ _ _ _ us hl => match us, hl with | [_, _, _], _ => rfl) fun cdv A outer s1 H E hr Wx tk hp => (rs_cons (rs_if (rt_w (rw_or (rt_eq hr.u64 (re_var 2) re_int) (rw_or (rt_not (rt_val (re_bB (call_isi) (o_isi t.own) (by rfl) t.z_isinstance (by decide +kernel) (ra_cons (re_var 1) (ra_cons (re_ty (by rfl) t.z_tuple (by decide +kernel)) ra_nil))))) (rw_or (rt_eq hr.u64 (re_var 1) (re_tup ra_nil)) (rw_or1 (rt_eq hr.u64 (re_call tk (Fx.mono (fx__law_draw t) (by omega)) hr (by rfl) t.g__law_draw (ra_cons (re_var 0) (ra_cons re_int ra_nil)) (len_cons (len_cons len_nil))) re_int)))))) (rs_cons (rs_ret (re_call tk (Fx.mono (fx__law_odd t) (by omega)) hr (by rfl) t.g__law_odd (ra_cons (re_var 0) (ra_cons (re_var 1) ra_nil)) (len_cons (len_cons len_nil)))) rs_nil) rs_nil) (rs_cons (rs_set (re_call tk (Fx.mono (fx__law_draw t) (by omega)) hr (by rfl) t.g__law_draw (ra_cons (re_var 0) (ra_cons (re_bB (c_len) o_len (by rfl) t.z_len PySem.boot_len (ra_cons (re_var 1) ra_nil)) ra_nil)) (len_cons (len_cons len_nil))) sc__law_bent.nd) (rs_cons (rs_ret (re_add (re_add (re_sl (re_var 1) ro_none (ro_some (re_var 3))) (re_tup (ra_cons (re_call tk ih hr (by rfl) t.g__law_bent (ra_cons (re_var 0) (ra_cons (re_ix hr.u1 (re_var 1) (re_var 3) (fun _ _ => rfl)) (ra_cons (re_sub (re_var 2) re_int) ra_nil))) (len_cons (len_cons (len_cons len_nil)))) ra_nil))) (re_sl (re_var 1) (ro_some (re_add (re_var 3) re_int)) ro_none))) rs_nil)))
abbrev st__law_wrong_row : Stmt := topS 62
theorem sc__law_wrong_row : FnScope ["deck", "row", "weights", "cross", "some"] ["deck", "row"] (defScope st__law_wrong_row) := ⟨rfl, rfl, rfl, by decide +kernel, rfl, by decide +kernel, by decide +kernel⟩
theorem fx__law_wrong_row (t : TX K mg G) : Fx P w K mg base 10 t.f__law_wrong_row t.d__law_wrong_row ["deck", "row"] (s__law_wrong_row G) :=
  fx_mk (k := 9) t.F__law_wrong_row sc__law_wrong_row (fun _ _ _ _ _ _ us hl => match us, hl with | [_, _], _ => rfl) fun cdv A outer s1 H E hr Wx tk hp => (rs_cons (rs_asg (re_ix hr.u1 (re_var 1) re_int (fun _ _ => rfl)) (rg_tup rfl (rgs_cons (rg_name sc__law_wrong_row.nd (i := 2)) (rgs_cons (rg_name sc__law_wrong_row.nd (i := 3)) rgs_nil)))) (rs_cons (rs_set (re_lst (ra_cons (re_tup ra_nil) (ra_cons (re_add (re_var 1) (re_tup (ra_cons (re_tup (ra_cons (re_var 2) (ra_cons (re_tup (ra_cons (re_tup (ra_cons re_int (ra_cons re_int (ra_cons re_int ra_nil)))) ra_nil)) ra_nil))) ra_nil))) (ra_cons (re_add (re_var 1) (re_tup (ra_cons (re_tup (ra_cons (re_var 2) (ra_cons (re_tup (ra_cons (re_tup (ra_cons re_int (ra_cons (re_bB (c_len) o_len (by rfl) t.z_len PySem.boot_len (ra_cons (re_var 2) ra_nil)) (ra_cons re_int ra_nil)))) ra_nil)) ra_nil))) ra_nil))) (ra_cons (re_add (re_var 1) (re_tup (ra_cons (re_tup (ra_cons (re_tup ra_nil) (ra_cons (re_tup ra_nil) ra_nil))) ra_nil))) (ra_cons (re_bT (call_list_of) o_list (by rfl) t.z_list (by decide +kernel) (ra_cons (re_var 1) ra_nil)) ra_nil)))))) sc__law_wrong_row.nd) (rs_cons (rs_set (re_add (re_var 4) (re_lst (ra_cons (re_add (re_sl (re_var 1) ro_none (ro_some re_int)) (re_tup (ra_cons (re_lst (ra_cons (re_var 2) (ra_cons (re_var 3) ra_nil))) ra_nil))) (ra_cons (re_add (re_tup (ra_cons (re_tup (ra_cons (re_var 2) ra_nil)) ra_nil)) (re_sl (re_var 1) (ro_some re_int) ro_none)) (ra_cons (re_tup (ra_cons (re_var 2) (ra_cons (re_var 3) ra_nil))) (ra_cons (re_add (re_sl (re_var 1) (ro_some re_int) ro_none) (re_tup (ra_cons (re_tup (ra_cons (re_var 2) (ra_cons (re_bT (call_list_of) o_list (by rfl) t.z_list (by decide +kernel) (ra_cons (re_var 3) ra_nil)) ra_nil))) ra_nil))) ra_nil)))))) sc__law_wrong_row.nd) (rs_cons (rs_set (re_add (re_var 4) (re_lst (ra_cons (re_tup (ra_cons (re_tup (ra_cons (re_tup (ra_cons re_int (ra_cons re_int ra_nil))) (ra_cons (re_tup (ra_cons (re_tup (ra_cons re_int (ra_cons re_int (ra_cons re_bl ra_nil)))) ra_nil)) ra_nil))) ra_nil)) (ra_cons (re_tup (ra_cons (re_tup (ra_cons (re_tup (ra_cons re_int (ra_cons re_int ra_nil))) (ra_cons (re_tup (ra_cons (re_tup (ra_cons re_int (ra_cons re_bl (ra_cons re_int ra_nil)))) ra_nil)) ra_nil))) ra_nil)) (ra_cons (re_add (re_tup (ra_cons (re_tup (ra_cons (re_tup (ra_cons re_int (ra_cons re_int ra_nil))) (ra_cons (re_tup (ra_cons (re_tup (ra_cons re_bl (ra_cons re_int (ra_cons re_int ra_nil)))) ra_nil)) ra_nil))) ra_nil)) (re_var 1)) ra_nil))))) sc__law_wrong_row.nd) (rs_cons (rs_set (re_add (re_var 4) (re_lst (ra_cons (re_tup (ra_cons (re_tup (ra_cons (re_var 2) (ra_cons (re_rev2 (re_var 3)) ra_nil))) ra_nil)) (ra_cons (re_call tk (Fx.mono (fx__law_bent t 5) (by decide)) hr (by rfl) t.g__law_bent (ra_cons (re_var 0) (ra_cons (re_var 1) (ra_cons re_int ra_nil))) (len_cons (len_cons (len_cons len_nil)))) (ra_cons (re_call tk (Fx.mono (fx__law_bent t 5) (by decide)) hr (by rfl) t.g__law_bent (ra_cons (re_var 0) (ra_cons (re_var 1) (ra_cons re_int ra_nil))) (len_cons (len_cons (len_cons len_nil)))) (ra_cons (re_call tk (Fx.mono (fx__law_odd t) (by decide)) hr (by rfl) t.g__law_odd (ra_cons (re_var 0) (ra_cons (re_var 1) ra_nil)) (len_cons (len_cons len_nil))) ra_nil)))))) sc__law_wrong_row.nd) (rs_cons (rs_ret (re_call tk (Fx.mono (fx__law_pick t) (by decide)) hr (by rfl) t.g__law_pick (ra_cons (re_var 0) (ra_cons (re_var 4) ra_nil)) (len_cons (len_cons len_nil)))) rs_nil))))))
abbrev st_law : Stmt := topS 63
theorem sc_law : FnScope ["script", "deck", "turn", "row", "thing", "told", "due", "text", "line"] ["script"] (defScope st_law) := ⟨rfl, rfl, rfl, by decide +kernel, rfl, by decide +kernel, by decide +kernel⟩
theorem fx_law (t : TX K mg G) : Fx P w K mg base 11 t.f_law t.d_law ["script"] (s_law G) :=
  fx_mk (k := 10) t.F_law sc_law (fun _ _ _ _ _ _ us hl => match us, hl with | [_], _ => rfl) fun cdv A outer s1 H E hr Wx tk hp => (rs_cons (rs_set (re_call tk (Fx.mono (fx__law_deck t) (by decide)) hr (by rfl) t.g__law_deck (ra_cons (re_var 0) ra_nil) (len_cons len_nil)) sc_law.nd) (rs_cons (rs_for hp rfl (ri_rng1 (by rfl) t.z_range re_int) (rg_name sc_law.nd (i := 2)) (rs_cons (rs_set (re_call tk (Fx.mono (fx__law_row t) (by decide)) hr (by rfl) t.g__law_row (ra_cons (re_var 1) (ra_cons (re_add re_int (re_call tk (Fx.mono (fx__law_draw t) (by decide)) hr (by rfl) t.g__law_draw (ra_cons (re_var 1) (ra_cons re_int ra_nil)) (len_cons (len_cons len_nil)))) (ra_cons (re_if (rt_eq hr.u64 (re_var 2) re_int) re_int re_int) ra_nil))) (len_cons (len_cons (len_cons len_nil)))) sc_law.nd) (rs_cons (rs_set (re_if (rt_eq hr.u64 (re_mod (re_bT (call_int1) o_int (by rfl) t.z_int (by decide +kernel) (ra_cons (re_var 2) ra_nil)) re_int) re_int) (re_var 3) (re_call tk (Fx.mono (fx__law_wrong_row t) (by decide)) hr (by rfl) t.g__law_wrong_row (ra_cons (re_var 1) (ra_cons (re_var 3) ra_nil)) (len_cons (len_cons len_nil)))) sc_law.nd) (rs_cons (rs_par2 (ra_cons (re_call tk (Fx.mono (fx__law_is_row t) (by decide)) hr (by rfl) t.g__law_is_row (ra_cons (re_var 4) ra_nil) (len_cons len_nil)) (ra_cons (re_bB (c_repr t.sys hr) o_repr (by rfl) t.z_repr (by decide +kernel) (ra_cons (re_var 4) ra_nil)) ra_nil)) rfl sc_law.nd) (rs_cons (rs_if (rt_w (rw_and (rt_val (re_var 6)) (rw_and1 (rt_not (rt_val (re_call tk (Fx.mono (fx__law_is_row_within t) (by decide)) hr (by rfl) t.g__law_is_row_within (ra_cons (re_var 4) (ra_cons re_int ra_nil)) (len_cons (len_cons len_nil)))))))) (rs_cons rs_cont rs_nil) rs_nil) (rs_cons (rs_set (re_tup (ra_cons (re_call tk (Fx.mono (fx_is_row t) (by decide)) hr (by rfl) t.g_is_row (ra_cons (re_var 4) ra_nil) (len_cons len_nil)) (ra_cons (re_callK tk (Fx.mono (fx_is_row t) (by decide)) hr (by rfl) t.g_is_row (rk_cons (re_var 4) rk_nil) (len_cons len_nil) t.kb_is_row_thing) ra_nil))) sc_law.nd) (rs_cons (rs_if (rt_w (rw_or (rt_ne hr.u64 (re_bB (c_repr t.sys hr) o_repr (by rfl) t.z_repr (by decide +kernel) (ra_cons (re_var 5) ra_nil)) (re_bB (c_repr t.sys hr) o_repr (by rfl) t.z_repr (by decide +kernel) (ra_cons (re_tup (ra_cons (re_var 6) (ra_cons (re_var 6) ra_nil))) ra_nil))) (rw_or1 (rt_ne hr.u64 (re_bB (c_repr t.sys hr) o_repr (by rfl) t.z_repr (by decide +kernel) (ra_cons (re_var 4) ra_nil)) (re_var 7))))) (rs_cons (rs_ret re_bl) rs_nil) rs_nil) rs_nil))))))) (rs_cons (rs_set (re_frz (re_make (k := 9) tk t.mk_Line (Fx.mono (fx_Line___init__ t) (by decide)) hr (by rfl) t.gc_Line (ra_cons (re_tup (ra_cons re_int ra_nil)) ra_nil) (len_cons len_nil))) sc_law.nd) (rs_cons (rs_ret (re_eq hr.u64 (re_lst (ra_cons (re_call tk (Fx.mono (fx_is_row t) (by decide)) hr (by rfl) t.g_is_row (ra_cons (re_var 8) ra_nil) (len_cons len_nil)) (ra_cons (re_callK tk (Fx.mono (fx_is_row t) (by decide)) hr (by rfl) t.g_is_row (rk_cons (re_tup (ra_cons (re_var 8) ra_nil)) rk_nil) (len_cons len_nil) t.kb_is_row_thing) (ra_cons (re_call tk (Fx.mono (fx_is_row t) (by decide)) hr (by rfl) t.g_is_row (ra_cons (re_tup (ra_cons (re_tup (ra_cons (re_var 8) (ra_cons (re_tup ra_nil) ra_nil))) ra_nil)) ra_nil) (len_cons len_nil)) (ra_cons (re_call tk (Fx.mono (fx_is_row t) (by decide)) hr (by rfl) t.g_is_row (ra_cons (re_tup (ra_cons (re_tup (ra_cons (re_tup (ra_cons re_int ra_nil)) (ra_cons (re_var 8) ra_nil))) ra_nil)) ra_nil) (len_cons len_nil)) ra_nil))))) (re_mulT (re_lst (ra_cons re_bl ra_nil)) re_int))) rs_nil))))
end
end MP.Fk40
namespace MP.Fk40
open PySem PySem.Spec PyProof.Rows L2 MP
theorem w_draw (G : Cst) {R L : LH} {n : Nat} (h : Dk (n + 1) R L) {many : Int} (hm : 0 < many) (hm2 : many < 2 ^ 200) : Wp (s__law_draw G [.loc 0, .d (.int many)] L) fun w L' => ∃ r, w = .d (.int r) ∧ 0 ≤ r ∧ r < many ∧ Dk n R L' := by
  obtain ⟨cs, m, k, hc, hm0, hm1, hk0, hk1, rfl⟩ := h
  have fin : ∀ (cs' : List Int) (r : Int), cs'.length ≤ 63 → 0 ≤ r → r < many → Keep (List.length R + 1 + 1) (dk cs m k R) (dk cs' m (k + 1) R) ∧ ∃ r', W.d (D.int r) = W.d (D.int r') ∧ 0 ≤ r' ∧ r' < many ∧ Dk n R (List.take (List.length R + 1 + 1) (dk cs' m (k + 1) R)) := fun cs' r hc' h0 h1 => by
    refine ⟨keep_dk, r, rfl, h0, h1, ?_⟩
    have := take_dk (cs := cs) (cs' := cs') (m := m) (m' := m) (k := k) (k' := k + 1) (R := R)
    rw [show R.length + 1 + 1 = (dk cs m k R).length from rfl, this]
    exact ⟨cs', m, k + 1, hc', hm0, hm1, by omega, by omega, rfl⟩
  have tail : ∀ (cs' : List Int) (z : Int), cs'.length ≤ 63 → 0 ≤ z → z < 2 ^ 200 → 
    WpO (mulT (.int z) (.int 39373)) fun z => WpO (addD z (.int 73)) fun z => WpO (intD [z]) fun z => WpO (modD z (.int 2147483647)) fun z =>
      WpO (mulT z z) fun z_1 => WpO (mulT (.int 52713) (.int (k + 1))) fun z_2 => WpO (addD z_1 z_2) fun z => WpO (addD z (.int 41)) fun z => WpO (intD [z]) fun z => WpO (modD z (.int 2147483587)) fun z =>
        WpO (mulT z (.int 40692)) fun z => WpO (intD [z]) fun z => WpO (modD z (.int 2147483563)) fun z => WpO (fdivD z (.int 64)) fun z => WpO (intD [z]) fun z => WpO (modD z (.int many)) fun z =>
          Keep (List.length R + 1 + 1) (dk cs m k R) (dk cs' m (k + 1) R) ∧ ∃ r, W.d z = W.d (.int r) ∧ 0 ≤ r ∧ r < many ∧ Dk n R (List.take (List.length R + 1 + 1) (dk cs' m (k + 1) R)) := fun cs' z hc' h0 h1 => by
    refine wpo_mulT (by omega) (by omega) (by omega) (by omega) ?_
    simp only [add_ii, wpo_some, int_i]
    refine wpo_mod (by omega) fun z _ _ => ?_
    refine wpo_mulT (by omega) (by omega) (by omega) (by omega) ?_
    refine wpo_mulT (by omega) (by omega) (by omega) (by omega) ?_
    simp only [add_ii, wpo_some, int_i]
    refine wpo_mod (by omega) fun z _ _ => ?_
    refine wpo_mulT (by omega) (by omega) (by omega) (by omega) ?_
    simp only [add_ii, wpo_some, int_i]
    refine wpo_mod (by omega) fun z _ _ => ?_
    refine wpo_fdiv (by omega) (by omega) ?_
    simp only [add_ii, wpo_some, int_i]
    exact wpo_mod (by omega) fun z h2 h3 => fin cs' z hc' h2 h3
  simp only [s__law_draw, b__law_draw, dk, wp_ok, wpo_some, wp_bind, wp_ofE, rd_d, wp_pureD, wp_mD, wp_m1, wp_m2, wp_mB, wp_nil, wp_cons, wp_tup, wp_lst, wp_lstM, wp_ix, wp_sl, wp_oN, wp_call, wp_callK, wp_ifV, wp_tst, wp_tAnd, wp_tOr, wp_tNot, wps_nil, wps_brk, wps_cnt, wps_seq, wps_ret, wps_retN, wps_exp, wps_if, wps_asg, gnm, wps_for, wp_fnS, wp_fnK, ret_d, ret_lst, keep_refl, keep_app, startE, List.map_cons, List.map_nil, List.replicate_succ, List.replicate_zero, List.cons_append, List.nil_append, List.length_cons, List.length_nil, List.getElem?_cons_zero, List.getElem?_cons_succ, List.set_cons_zero, List.set_cons_succ, Option.bind_some, Nat.reduceAdd, Nat.reduceSub, List.take_length, List.take_left, true_and, and_true, wp_var0, wp_varS, at0, at1, at2, add_ii, add_tt, add_ll, sub_ii, lt_ii, le_ii, gt_ii, ge_ii, neg_i, eq_ii, ne_ii, eq_ss, ne_ss, tr_bl, tr_i, tr_t, tr_l, wp_ixt, wp_ixl, wp_oS, sl_t, sl_l, sl_s, rds_nil, rds_d, omap_some, fzs_nil, fzs_d, fzW_d, wp_andV, wp_orV, wp_notV, wp_iSeq, its_t, its_l, wp_iEnum, en_t, en_l, wp_iZip, seq_t, seq_l, gtu, gscons, gsnil, wps_dput, wp_m0, wp_mm1, wps_par2, wp_yes, wipe0, wipeS, implies_true, forall_const, if_true, if_false, Bool.false_eq_true, Bool.not_true, Bool.not_false, wp_fd0, wp_fd1, mulT_i, mulT_l, wp_lrng, wp_revM, maxT_ii, wps_par3, wp_ixloc, look, keyOf, putW, dec_inr, ss1, ss2, ss3, ss4, ss5, ss6, List.any_cons, List.any_nil, decide_true, decide_false, Bool.true_or, Bool.or_true, Bool.false_or, if_true, if_false, List.find?_cons, Option.map_some, reduceCtorEq, Sum.inr.injEq, p1018]
  refine ⟨by rw [sm2]; decide, wpo_mul (by omega) (by omega) (by omega) (by omega) ?_⟩
  simp only [add_ii, wpo_some]
  refine ⟨Nat.zero_le _, ?_⟩
  have er : (rd (dk cs m (k + 1) R) (W.loc 1)) = some (.lst (cs.map D.int)) := rfl
  simp only [dk] at er
  rw [er, Option.bind_some, ne_nl, wpo_some, tr_bl, wpo_some]
  rcases List.eq_nil_or_concat cs with rfl | ⟨ini, c, e⟩
  · rw [if_neg (by simp)]
    exact tail [] _ (by decide) (by omega) (by omega)
  · rw [List.concat_eq_append] at e
    subst e
    rw [if_pos (by simp)]
    have ep : popF ((ini ++ [c]).map D.int) = some (ini.map D.int, .int c) := by simp [popF]
    have hl : ini.length ≤ 62 := by simp at hc; omega
    rw [ep, wpo_some]
    rw [ge_ii, wpo_some, tr_bl, wpo_some]
    by_cases hb : decide ((1000000000000000000 : Int) ≤ c) = true
    · rw [if_pos hb]
      refine ⟨rfl, wpo_fdiv (by omega) (by omega) ?_⟩
      have ea : ∀ q, appF (ini.map D.int) (.int q) = some ((ini ++ [q]).map D.int, .non) := fun q => by
        have : (ini.map D.int).length < sizeLine := by rw [sm2, List.length_map]; omega
        rw [appF, if_pos this]; simp
      rw [ea, wpo_some, int_i, wpo_some]
      exact wpo_mod hm fun z h2 h3 => fin (ini ++ [c / max 2 many]) z (by simp; omega) h2 h3
    · rw [if_neg hb, int_i, wpo_some]
      refine wpo_mod (by omega) fun z h2 h3 => ?_
      rw [add_ii, wpo_some]
      exact tail ini _ (by omega) (by omega) (by omega)
theorem w_pick (G : Cst) {R L : LH} {n : Nat} (h : Dk (n + 1) R L) {xs : List D} (hx : xs ≠ []) (hl : xs.length < 2 ^ 200) : Wp (s__law_pick G [.loc 0, .d (.lst xs)] L) fun w L' => ∃ x ∈ xs, w = .d x ∧ Dk n R L' := by
  simp only [s__law_pick, b__law_pick, wp_ok, wpo_some, wp_bind, wp_ofE, rd_d, wp_pureD, wp_mD, wp_m1, wp_m2, wp_mB, wp_nil, wp_cons, wp_tup, wp_lst, wp_lstM, wp_ix, wp_sl, wp_oN, wp_call, wp_callK, wp_ifV, wp_tst, wp_tAnd, wp_tOr, wp_tNot, wps_nil, wps_brk, wps_cnt, wps_seq, wps_ret, wps_retN, wps_exp, wps_if, wps_asg, gnm, wps_for, wp_fnS, wp_fnK, ret_d, ret_lst, keep_refl, keep_app, startE, List.map_cons, List.map_nil, List.replicate_succ, List.replicate_zero, List.cons_append, List.nil_append, List.length_cons, List.length_nil, List.getElem?_cons_zero, List.getElem?_cons_succ, List.set_cons_zero, List.set_cons_succ, Option.bind_some, Nat.reduceAdd, Nat.reduceSub, List.take_length, List.take_left, true_and, and_true, wp_var0, wp_varS, at0, at1, at2, add_ii, add_tt, add_ll, sub_ii, lt_ii, le_ii, gt_ii, ge_ii, neg_i, eq_ii, ne_ii, eq_ss, ne_ss, tr_bl, tr_i, tr_t, tr_l, wp_ixt, wp_ixl, wp_oS, sl_t, sl_l, sl_s, rds_nil, rds_d, omap_some, fzs_nil, fzs_d, fzW_d, wp_andV, wp_orV, wp_notV, wp_iSeq, its_t, its_l, wp_iEnum, en_t, en_l, wp_iZip, seq_t, seq_l, gtu, gscons, gsnil, wps_dput, wp_m0, wp_mm1, wps_par2, wp_yes, wipe0, wipeS, implies_true, forall_const, if_true, if_false, Bool.false_eq_true, Bool.not_true, Bool.not_false, wp_fd0, wp_fd1, mulT_i, mulT_l, wp_lrng, wp_revM, maxT_ii, wps_par3]
  have e : lenD [.lst xs] = some (.int xs.length) := rfl
  rw [e, wpo_some]
  refine (w_draw G h (by have := List.length_pos_iff.mpr hx; omega) (by omega)).imp fun w L' ⟨r, ew, h0, h1, hd⟩ => ?_
  subst ew
  rw [wp_ixl]
  obtain ⟨j, rfl⟩ : ∃ j : Nat, r = j := ⟨r.toNat, by omega⟩
  obtain ⟨x, hx⟩ : ∃ x, xs[j]? = some x := ⟨xs[j]'(by omega), List.getElem?_eq_getElem (by omega)⟩
  rw [atN hx, wpo_some]
  obtain ⟨hk, hd'⟩ := h.fin0 hd
  exact ⟨hk, by rw [ret_d, wpo_some]; exact ⟨x, List.mem_of_getElem? hx, rfl, hd'⟩⟩
theorem w_deck (G : Cst) {ns : List Int} (hn : ns.length ≤ 63) : Wp (s__law_deck G [.d (.scr ns)] []) fun w L => w = .loc 0 ∧ Dk (2 ^ 59) [] L := by
  have hc : cutD (ns.map D.int) none (some 63) = ns.map D.int := cut_all (k := 63) (by simpa using hn)
  simp only [s__law_deck, b__law_deck, wp_ok, wpo_some, wp_bind, wp_ofE, rd_d, wp_pureD, wp_mD, wp_m1, wp_m2, wp_mB, wp_nil, wp_cons, wp_tup, wp_lst, wp_lstM, wp_ix, wp_sl, wp_oN, wp_call, wp_callK, wp_ifV, wp_tst, wp_tAnd, wp_tOr, wp_tNot, wps_nil, wps_brk, wps_cnt, wps_seq, wps_ret, wps_retN, wps_exp, wps_if, wps_asg, gnm, wps_for, wp_fnS, wp_fnK, ret_d, ret_lst, keep_refl, keep_app, startE, List.map_cons, List.map_nil, List.replicate_succ, List.replicate_zero, List.cons_append, List.nil_append, List.length_cons, List.length_nil, List.getElem?_cons_zero, List.getElem?_cons_succ, List.set_cons_zero, List.set_cons_succ, Option.bind_some, Nat.reduceAdd, Nat.reduceSub, List.take_length, List.take_left, true_and, and_true, wp_var0, wp_varS, at0, at1, at2, add_ii, add_tt, add_ll, sub_ii, lt_ii, le_ii, gt_ii, ge_ii, neg_i, eq_ii, ne_ii, eq_ss, ne_ss, tr_bl, tr_i, tr_t, tr_l, wp_ixt, wp_ixl, wp_oS, sl_t, sl_l, sl_s, rds_nil, rds_d, omap_some, fzs_nil, fzs_d, fzW_d, wp_andV, wp_orV, wp_notV, wp_iSeq, its_t, its_l, wp_iEnum, en_t, en_l, wp_iZip, seq_t, seq_l, gtu, gscons, gsnil, wps_dput, wp_m0, wp_mm1, wps_par2, wp_yes, wipe0, wipeS, implies_true, forall_const, if_true, if_false, Bool.false_eq_true, Bool.not_true, Bool.not_false, wp_fd0, wp_fd1, mulT_i, mulT_l, wp_lrng, wp_revM, maxT_ii, wps_par3, hc]
  refine forM_inv (fun xs env L => L = [] ∧ (∀ x ∈ xs, ∃ i, x = .int i) ∧ ∃ m c, env = [some (.d (.scr ns)), some (.d (.int m)), c] ∧ 0 ≤ m ∧ m < 2147483587) ?_ ?_ _ _ _ ⟨rfl, fun x hx => (List.mem_map.mp hx).elim fun i h => ⟨i, h.2.symm⟩, 14410040, none, rfl, by omega, by omega⟩
  · rintro x r env L ⟨rfl, hx, m, c, rfl, h0, h1⟩
    obtain ⟨i, rfl⟩ := hx x (List.mem_cons_self ..)
    simp only [wp_ok, wpo_some, wp_bind, wp_ofE, rd_d, wp_pureD, wp_mD, wp_m1, wp_m2, wp_mB, wp_nil, wp_cons, wp_tup, wp_lst, wp_lstM, wp_ix, wp_sl, wp_oN, wp_call, wp_callK, wp_ifV, wp_tst, wp_tAnd, wp_tOr, wp_tNot, wps_nil, wps_brk, wps_cnt, wps_seq, wps_ret, wps_retN, wps_exp, wps_if, wps_asg, gnm, wps_for, wp_fnS, wp_fnK, ret_d, ret_lst, keep_refl, keep_app, startE, List.map_cons, List.map_nil, List.replicate_succ, List.replicate_zero, List.cons_append, List.nil_append, List.length_cons, List.length_nil, List.getElem?_cons_zero, List.getElem?_cons_succ, List.set_cons_zero, List.set_cons_succ, Option.bind_some, Nat.reduceAdd, Nat.reduceSub, List.take_length, List.take_left, true_and, and_true, wp_var0, wp_varS, at0, at1, at2, add_ii, add_tt, add_ll, sub_ii, lt_ii, le_ii, gt_ii, ge_ii, neg_i, eq_ii, ne_ii, eq_ss, ne_ss, tr_bl, tr_i, tr_t, tr_l, wp_ixt, wp_ixl, wp_oS, sl_t, sl_l, sl_s, rds_nil, rds_d, omap_some, fzs_nil, fzs_d, fzW_d, wp_andV, wp_orV, wp_notV, wp_iSeq, its_t, its_l, wp_iEnum, en_t, en_l, wp_iZip, seq_t, seq_l, gtu, gscons, gsnil, wps_dput, wp_m0, wp_mm1, wps_par2, wp_yes, wipe0, wipeS, implies_true, forall_const, if_true, if_false, Bool.false_eq_true, Bool.not_true, Bool.not_false, wp_fd0, wp_fd1, mulT_i, mulT_l, wp_lrng, wp_revM, maxT_ii, wps_par3]
    refine wpo_mul (by omega) (by omega) (by omega) (by omega) ?_
    rw [int_i, wpo_some]
    refine wpo_mod (by omega) fun z h2 h3 => ?_
    rw [add_ii, wpo_some, add_ii, wpo_some, int_i, wpo_some]
    refine wpo_mod (by omega) fun z h4 h5 => ?_
    exact ⟨fun y hy => hx y (List.mem_cons_of_mem _ hy), _, _, rfl, h4, h5⟩
  · rintro env L ⟨rfl, _, m, c, rfl, h0, h1⟩
    refine ⟨trivial, ?_⟩
    simp only [wp_dicM, wp_revM, wp_ok, wpo_some, wp_bind, wp_ofE, rd_d, wp_pureD, wp_mD, wp_m1, wp_m2, wp_mB, wp_nil, wp_cons, wp_tup, wp_lst, wp_lstM, wp_ix, wp_sl, wp_oN, wp_call, wp_callK, wp_ifV, wp_tst, wp_tAnd, wp_tOr, wp_tNot, wps_nil, wps_brk, wps_cnt, wps_seq, wps_ret, wps_retN, wps_exp, wps_if, wps_asg, gnm, wps_for, wp_fnS, wp_fnK, ret_d, ret_lst, keep_refl, keep_app, startE, List.map_cons, List.map_nil, List.replicate_succ, List.replicate_zero, List.cons_append, List.nil_append, List.length_cons, List.length_nil, List.getElem?_cons_zero, List.getElem?_cons_succ, List.set_cons_zero, List.set_cons_succ, Option.bind_some, Nat.reduceAdd, Nat.reduceSub, List.take_length, List.take_left, true_and, and_true, wp_var0, wp_varS, at0, at1, at2, add_ii, add_tt, add_ll, sub_ii, lt_ii, le_ii, gt_ii, ge_ii, neg_i, eq_ii, ne_ii, eq_ss, ne_ss, tr_bl, tr_i, tr_t, tr_l, wp_ixt, wp_ixl, wp_oS, sl_t, sl_l, sl_s, rds_nil, rds_d, omap_some, fzs_nil, fzs_d, fzW_d, wp_andV, wp_orV, wp_notV, wp_iSeq, its_t, its_l, wp_iEnum, en_t, en_l, wp_iZip, seq_t, seq_l, gtu, gscons, gsnil, wps_dput, wp_m0, wp_mm1, wps_par2, wp_yes, wipe0, wipeS, implies_true, forall_const, if_true, if_false, Bool.false_eq_true, Bool.not_true, Bool.not_false, wp_fd0, wp_fd1, mulT_i, mulT_l, wp_lrng, wp_revM, maxT_ii, wps_par3, hc, listD_l]
    exact ⟨(ns.reverse), m, 0, by simpa using hn, h0, h1, by omega, by omega, by simp [dk]⟩
theorem w_dp (G : Cst) {R L : LH} {n : Nat} (h : Dk (n + 2) R L) {ns : List Int} {B : Int} (hne : ns ≠ [] := by decide) (hp : ∀ i ∈ ns, 0 < i ∧ i ≤ B := by decide) (hB : B < 2 ^ 200 := by decide) (hl : ns.length < 1000 := by decide) :
    Wp (s__law_pick G [.loc 0, .d (.lst (ns.map D.int))] L) fun x L1 => Wp (s__law_draw G [.loc 0, x] L1) fun y L2 => ∃ r, y = .d (.int r) ∧ 0 ≤ r ∧ r < B ∧ Dk n R L2 := by
  refine (w_pick G (n := n + 1) h (by simpa using hne) (by rw [List.length_map]; omega)).imp fun w L1 ⟨x, hx, e, hd⟩ => ?_
  subst e
  obtain ⟨i, hi, rfl⟩ := List.mem_map.mp hx
  have := hp i hi
  exact (w_draw G (n := n) hd this.1 (by omega)).imp fun w L2 ⟨r, e, h0, h1, hd⟩ => ⟨r, e, h0, by omega, hd⟩
end MP.Fk40
namespace MP.Fk40
open PySem PySem.Spec PyProof.Rows L2 MP
section
variable {G : Cst} {L : LH} {x y : D} {Q : W → LH → Prop}
theorem q_isint (h : kn (some G.cLine) x = true) : s__law_is_integer G [.d x] L = .ok (.d (.bl (isI x))) L := Wp.eq (by
  simp only [s__law_is_integer, b__law_is_integer, wp_ok, wpo_some, wp_bind, wp_ofE, rd_d, wp_pureD, wp_mD, wp_m1, wp_m2, wp_mB, wp_nil, wp_cons, wp_tup, wp_lst, wp_lstM, wp_ix, wp_sl, wp_oN, wp_call, wp_callK, wp_ifV, wp_tst, wp_tAnd, wp_tOr, wp_tNot, wps_nil, wps_brk, wps_cnt, wps_seq, wps_ret, wps_retN, wps_exp, wps_if, wps_asg, gnm, wps_for, wp_fnS, wp_fnK, ret_d, ret_lst, keep_refl, keep_app, startE, List.map_cons, List.map_nil, List.replicate_succ, List.replicate_zero, List.cons_append, List.nil_append, List.length_cons, List.length_nil, List.getElem?_cons_zero, List.getElem?_cons_succ, List.set_cons_zero, List.set_cons_succ, Option.bind_some, Nat.reduceAdd, Nat.reduceSub, List.take_length, List.take_left, true_and, and_true, wp_var0, wp_varS, at0, at1, at2, add_ii, add_tt, add_ll, sub_ii, lt_ii, le_ii, gt_ii, ge_ii, neg_i, eq_ii, ne_ii, eq_ss, ne_ss, tr_bl, tr_i, tr_t, tr_l, wp_ixt, wp_ixl, wp_oS, sl_t, sl_l, sl_s, rds_nil, rds_d, omap_some, fzs_nil, fzs_d, fzW_d, wp_andV, wp_orV, wp_notV, wp_iSeq, its_t, its_l, wp_iEnum, en_t, en_l, wp_iZip, seq_t, seq_l, gtu, gscons, gsnil, wps_dput, wp_m0, wp_mm1, wps_par2, wp_yes, wipe0, wipeS, implies_true, forall_const, if_true, if_false, Bool.false_eq_true, Bool.not_true, Bool.not_false, wp_fd0, wp_fd1, mulT_i, mulT_l, wp_lrng, wp_revM, maxT_ii, wps_par3, isi_int h, isi_bl h]
  cases x <;> simp [isInt, isBl, isI, wp_ok, wpo_some, wp_bind, wp_ofE, rd_d, wp_pureD, wp_mD, wp_m1, wp_m2, wp_mB, wp_nil, wp_cons, wp_tup, wp_lst, wp_lstM, wp_ix, wp_sl, wp_oN, wp_call, wp_callK, wp_ifV, wp_tst, wp_tAnd, wp_tOr, wp_tNot, wps_nil, wps_brk, wps_cnt, wps_seq, wps_ret, wps_retN, wps_exp, wps_if, wps_asg, gnm, wps_for, wp_fnS, wp_fnK, ret_d, ret_lst, keep_refl, keep_app, startE, List.map_cons, List.map_nil, List.replicate_succ, List.replicate_zero, List.cons_append, List.nil_append, List.length_cons, List.length_nil, List.getElem?_cons_zero, List.getElem?_cons_succ, List.set_cons_zero, List.set_cons_succ, Option.bind_some, Nat.reduceAdd, Nat.reduceSub, List.take_length, List.take_left, true_and, and_true, wp_var0, wp_varS, at0, at1, at2, add_ii, add_tt, add_ll, sub_ii, lt_ii, le_ii, gt_ii, ge_ii, neg_i, eq_ii, ne_ii, eq_ss, ne_ss, tr_bl, tr_i, tr_t, tr_l, wp_ixt, wp_ixl, wp_oS, sl_t, sl_l, sl_s, rds_nil, rds_d, omap_some, fzs_nil, fzs_d, fzW_d, wp_andV, wp_orV, wp_notV, wp_iSeq, its_t, its_l, wp_iEnum, en_t, en_l, wp_iZip, seq_t, seq_l, gtu, gscons, gsnil, wps_dput, wp_m0, wp_mm1, wps_par2, wp_yes, wipe0, wipeS, implies_true, forall_const, if_true, if_false, Bool.false_eq_true, Bool.not_true, Bool.not_false, wp_fd0, wp_fd1, mulT_i, mulT_l, wp_lrng, wp_revM, maxT_ii, wps_par3])
theorem q_isint' (h : kn (some G.cLine) x = true) : s_is_integer G [.d x] L = .ok (.d (.bl (isI x))) L := Wp.eq (by
  simp only [s_is_integer, b_is_integer, wp_ok, wpo_some, wp_bind, wp_ofE, rd_d, wp_pureD, wp_mD, wp_m1, wp_m2, wp_mB, wp_nil, wp_cons, wp_tup, wp_lst, wp_lstM, wp_ix, wp_sl, wp_oN, wp_call, wp_callK, wp_ifV, wp_tst, wp_tAnd, wp_tOr, wp_tNot, wps_nil, wps_brk, wps_cnt, wps_seq, wps_ret, wps_retN, wps_exp, wps_if, wps_asg, gnm, wps_for, wp_fnS, wp_fnK, ret_d, ret_lst, keep_refl, keep_app, startE, List.map_cons, List.map_nil, List.replicate_succ, List.replicate_zero, List.cons_append, List.nil_append, List.length_cons, List.length_nil, List.getElem?_cons_zero, List.getElem?_cons_succ, List.set_cons_zero, List.set_cons_succ, Option.bind_some, Nat.reduceAdd, Nat.reduceSub, List.take_length, List.take_left, true_and, and_true, wp_var0, wp_varS, at0, at1, at2, add_ii, add_tt, add_ll, sub_ii, lt_ii, le_ii, gt_ii, ge_ii, neg_i, eq_ii, ne_ii, eq_ss, ne_ss, tr_bl, tr_i, tr_t, tr_l, wp_ixt, wp_ixl, wp_oS, sl_t, sl_l, sl_s, rds_nil, rds_d, omap_some, fzs_nil, fzs_d, fzW_d, wp_andV, wp_orV, wp_notV, wp_iSeq, its_t, its_l, wp_iEnum, en_t, en_l, wp_iZip, seq_t, seq_l, gtu, gscons, gsnil, wps_dput, wp_m0, wp_mm1, wps_par2, wp_yes, wipe0, wipeS, implies_true, forall_const, if_true, if_false, Bool.false_eq_true, Bool.not_true, Bool.not_false, wp_fd0, wp_fd1, mulT_i, mulT_l, wp_lrng, wp_revM, maxT_ii, wps_par3, isi_int h, isi_bl h]
  cases x <;> simp [isInt, isBl, isI, wp_ok, wpo_some, wp_bind, wp_ofE, rd_d, wp_pureD, wp_mD, wp_m1, wp_m2, wp_mB, wp_nil, wp_cons, wp_tup, wp_lst, wp_lstM, wp_ix, wp_sl, wp_oN, wp_call, wp_callK, wp_ifV, wp_tst, wp_tAnd, wp_tOr, wp_tNot, wps_nil, wps_brk, wps_cnt, wps_seq, wps_ret, wps_retN, wps_exp, wps_if, wps_asg, gnm, wps_for, wp_fnS, wp_fnK, ret_d, ret_lst, keep_refl, keep_app, startE, List.map_cons, List.map_nil, List.replicate_succ, List.replicate_zero, List.cons_append, List.nil_append, List.length_cons, List.length_nil, List.getElem?_cons_zero, List.getElem?_cons_succ, List.set_cons_zero, List.set_cons_succ, Option.bind_some, Nat.reduceAdd, Nat.reduceSub, List.take_length, List.take_left, true_and, and_true, wp_var0, wp_varS, at0, at1, at2, add_ii, add_tt, add_ll, sub_ii, lt_ii, le_ii, gt_ii, ge_ii, neg_i, eq_ii, ne_ii, eq_ss, ne_ss, tr_bl, tr_i, tr_t, tr_l, wp_ixt, wp_ixl, wp_oS, sl_t, sl_l, sl_s, rds_nil, rds_d, omap_some, fzs_nil, fzs_d, fzW_d, wp_andV, wp_orV, wp_notV, wp_iSeq, its_t, its_l, wp_iEnum, en_t, en_l, wp_iZip, seq_t, seq_l, gtu, gscons, gsnil, wps_dput, wp_m0, wp_mm1, wps_par2, wp_yes, wipe0, wipeS, implies_true, forall_const, if_true, if_false, Bool.false_eq_true, Bool.not_true, Bool.not_false, wp_fd0, wp_fd1, mulT_i, mulT_l, wp_lrng, wp_revM, maxT_ii, wps_par3])
theorem q_from (h : kn (some G.cLine) x = true) : s_is_from G [.d x, .d (.int 1)] L = .ok (.d (.bl (i1 x))) L := Wp.eq (by
  simp only [s_is_from, b_is_from, wp_ok, wpo_some, wp_bind, wp_ofE, rd_d, wp_pureD, wp_mD, wp_m1, wp_m2, wp_mB, wp_nil, wp_cons, wp_tup, wp_lst, wp_lstM, wp_ix, wp_sl, wp_oN, wp_call, wp_callK, wp_ifV, wp_tst, wp_tAnd, wp_tOr, wp_tNot, wps_nil, wps_brk, wps_cnt, wps_seq, wps_ret, wps_retN, wps_exp, wps_if, wps_asg, gnm, wps_for, wp_fnS, wp_fnK, ret_d, ret_lst, keep_refl, keep_app, startE, List.map_cons, List.map_nil, List.replicate_succ, List.replicate_zero, List.cons_append, List.nil_append, List.length_cons, List.length_nil, List.getElem?_cons_zero, List.getElem?_cons_succ, List.set_cons_zero, List.set_cons_succ, Option.bind_some, Nat.reduceAdd, Nat.reduceSub, List.take_length, List.take_left, true_and, and_true, wp_var0, wp_varS, at0, at1, at2, add_ii, add_tt, add_ll, sub_ii, lt_ii, le_ii, gt_ii, ge_ii, neg_i, eq_ii, ne_ii, eq_ss, ne_ss, tr_bl, tr_i, tr_t, tr_l, wp_ixt, wp_ixl, wp_oS, sl_t, sl_l, sl_s, rds_nil, rds_d, omap_some, fzs_nil, fzs_d, fzW_d, wp_andV, wp_orV, wp_notV, wp_iSeq, its_t, its_l, wp_iEnum, en_t, en_l, wp_iZip, seq_t, seq_l, gtu, gscons, gsnil, wps_dput, wp_m0, wp_mm1, wps_par2, wp_yes, wipe0, wipeS, implies_true, forall_const, if_true, if_false, Bool.false_eq_true, Bool.not_true, Bool.not_false, wp_fd0, wp_fd1, mulT_i, mulT_l, wp_lrng, wp_revM, maxT_ii, wps_par3, wp_eq (q_isint' h)]
  cases x <;> simp [isI, i1, wp_ok, wpo_some, wp_bind, wp_ofE, rd_d, wp_pureD, wp_mD, wp_m1, wp_m2, wp_mB, wp_nil, wp_cons, wp_tup, wp_lst, wp_lstM, wp_ix, wp_sl, wp_oN, wp_call, wp_callK, wp_ifV, wp_tst, wp_tAnd, wp_tOr, wp_tNot, wps_nil, wps_brk, wps_cnt, wps_seq, wps_ret, wps_retN, wps_exp, wps_if, wps_asg, gnm, wps_for, wp_fnS, wp_fnK, ret_d, ret_lst, keep_refl, keep_app, startE, List.map_cons, List.map_nil, List.replicate_succ, List.replicate_zero, List.cons_append, List.nil_append, List.length_cons, List.length_nil, List.getElem?_cons_zero, List.getElem?_cons_succ, List.set_cons_zero, List.set_cons_succ, Option.bind_some, Nat.reduceAdd, Nat.reduceSub, List.take_length, List.take_left, true_and, and_true, wp_var0, wp_varS, at0, at1, at2, add_ii, add_tt, add_ll, sub_ii, lt_ii, le_ii, gt_ii, ge_ii, neg_i, eq_ii, ne_ii, eq_ss, ne_ss, tr_bl, tr_i, tr_t, tr_l, wp_ixt, wp_ixl, wp_oS, sl_t, sl_l, sl_s, rds_nil, rds_d, omap_some, fzs_nil, fzs_d, fzW_d, wp_andV, wp_orV, wp_notV, wp_iSeq, its_t, its_l, wp_iEnum, en_t, en_l, wp_iZip, seq_t, seq_l, gtu, gscons, gsnil, wps_dput, wp_m0, wp_mm1, wps_par2, wp_yes, wipe0, wipeS, implies_true, forall_const, if_true, if_false, Bool.false_eq_true, Bool.not_true, Bool.not_false, wp_fd0, wp_fd1, mulT_i, mulT_l, wp_lrng, wp_revM, maxT_ii, wps_par3])
theorem q_from0 (h : kn (some G.cLine) x = true) : s_is_from G [.d x, .d (.int 0)] L = .ok (.d (.bl (i0 x))) L := Wp.eq (by
  simp only [s_is_from, b_is_from, wp_ok, wpo_some, wp_bind, wp_ofE, rd_d, wp_pureD, wp_mD, wp_m1, wp_m2, wp_mB, wp_nil, wp_cons, wp_tup, wp_lst, wp_lstM, wp_ix, wp_sl, wp_oN, wp_call, wp_callK, wp_ifV, wp_tst, wp_tAnd, wp_tOr, wp_tNot, wps_nil, wps_brk, wps_cnt, wps_seq, wps_ret, wps_retN, wps_exp, wps_if, wps_asg, gnm, wps_for, wp_fnS, wp_fnK, ret_d, ret_lst, keep_refl, keep_app, startE, List.map_cons, List.map_nil, List.replicate_succ, List.replicate_zero, List.cons_append, List.nil_append, List.length_cons, List.length_nil, List.getElem?_cons_zero, List.getElem?_cons_succ, List.set_cons_zero, List.set_cons_succ, Option.bind_some, Nat.reduceAdd, Nat.reduceSub, List.take_length, List.take_left, true_and, and_true, wp_var0, wp_varS, at0, at1, at2, add_ii, add_tt, add_ll, sub_ii, lt_ii, le_ii, gt_ii, ge_ii, neg_i, eq_ii, ne_ii, eq_ss, ne_ss, tr_bl, tr_i, tr_t, tr_l, wp_ixt, wp_ixl, wp_oS, sl_t, sl_l, sl_s, rds_nil, rds_d, omap_some, fzs_nil, fzs_d, fzW_d, wp_andV, wp_orV, wp_notV, wp_iSeq, its_t, its_l, wp_iEnum, en_t, en_l, wp_iZip, seq_t, seq_l, gtu, gscons, gsnil, wps_dput, wp_m0, wp_mm1, wps_par2, wp_yes, wipe0, wipeS, implies_true, forall_const, if_true, if_false, Bool.false_eq_true, Bool.not_true, Bool.not_false, wp_fd0, wp_fd1, mulT_i, mulT_l, wp_lrng, wp_revM, maxT_ii, wps_par3, wp_eq (q_isint' h)]
  cases x <;> simp [isI, i0, wp_ok, wpo_some, wp_bind, wp_ofE, rd_d, wp_pureD, wp_mD, wp_m1, wp_m2, wp_mB, wp_nil, wp_cons, wp_tup, wp_lst, wp_lstM, wp_ix, wp_sl, wp_oN, wp_call, wp_callK, wp_ifV, wp_tst, wp_tAnd, wp_tOr, wp_tNot, wps_nil, wps_brk, wps_cnt, wps_seq, wps_ret, wps_retN, wps_exp, wps_if, wps_asg, gnm, wps_for, wp_fnS, wp_fnK, ret_d, ret_lst, keep_refl, keep_app, startE, List.map_cons, List.map_nil, List.replicate_succ, List.replicate_zero, List.cons_append, List.nil_append, List.length_cons, List.length_nil, List.getElem?_cons_zero, List.getElem?_cons_succ, List.set_cons_zero, List.set_cons_succ, Option.bind_some, Nat.reduceAdd, Nat.reduceSub, List.take_length, List.take_left, true_and, and_true, wp_var0, wp_varS, at0, at1, at2, add_ii, add_tt, add_ll, sub_ii, lt_ii, le_ii, gt_ii, ge_ii, neg_i, eq_ii, ne_ii, eq_ss, ne_ss, tr_bl, tr_i, tr_t, tr_l, wp_ixt, wp_ixl, wp_oS, sl_t, sl_l, sl_s, rds_nil, rds_d, omap_some, fzs_nil, fzs_d, fzW_d, wp_andV, wp_orV, wp_notV, wp_iSeq, its_t, its_l, wp_iEnum, en_t, en_l, wp_iZip, seq_t, seq_l, gtu, gscons, gsnil, wps_dput, wp_m0, wp_mm1, wps_par2, wp_yes, wipe0, wipeS, implies_true, forall_const, if_true, if_false, Bool.false_eq_true, Bool.not_true, Bool.not_false, wp_fd0, wp_fd1, mulT_i, mulT_l, wp_lrng, wp_revM, maxT_ii, wps_par3])
theorem q_tupN {n : Nat} {m : Int} (e : (n : Int) = m) (h : kn (some G.cLine) x = true) : s_is_tuple G [.d x, .d (.int m)] L = .ok (.d (.bl (tN n x))) L := Wp.eq (by
  subst e
  simp only [s_is_tuple, b_is_tuple, wp_ok, wpo_some, wp_bind, wp_ofE, rd_d, wp_pureD, wp_mD, wp_m1, wp_m2, wp_mB, wp_nil, wp_cons, wp_tup, wp_lst, wp_lstM, wp_ix, wp_sl, wp_oN, wp_call, wp_callK, wp_ifV, wp_tst, wp_tAnd, wp_tOr, wp_tNot, wps_nil, wps_brk, wps_cnt, wps_seq, wps_ret, wps_retN, wps_exp, wps_if, wps_asg, gnm, wps_for, wp_fnS, wp_fnK, ret_d, ret_lst, keep_refl, keep_app, startE, List.map_cons, List.map_nil, List.replicate_succ, List.replicate_zero, List.cons_append, List.nil_append, List.length_cons, List.length_nil, List.getElem?_cons_zero, List.getElem?_cons_succ, List.set_cons_zero, List.set_cons_succ, Option.bind_some, Nat.reduceAdd, Nat.reduceSub, List.take_length, List.take_left, true_and, and_true, wp_var0, wp_varS, at0, at1, at2, add_ii, add_tt, add_ll, sub_ii, lt_ii, le_ii, gt_ii, ge_ii, neg_i, eq_ii, ne_ii, eq_ss, ne_ss, tr_bl, tr_i, tr_t, tr_l, wp_ixt, wp_ixl, wp_oS, sl_t, sl_l, sl_s, rds_nil, rds_d, omap_some, fzs_nil, fzs_d, fzW_d, wp_andV, wp_orV, wp_notV, wp_iSeq, its_t, its_l, wp_iEnum, en_t, en_l, wp_iZip, seq_t, seq_l, gtu, gscons, gsnil, wps_dput, wp_m0, wp_mm1, wps_par2, wp_yes, wipe0, wipeS, implies_true, forall_const, if_true, if_false, Bool.false_eq_true, Bool.not_true, Bool.not_false, wp_fd0, wp_fd1, mulT_i, mulT_l, wp_lrng, wp_revM, maxT_ii, wps_par3, isi_tup h]
  cases x <;> simp only [isTup, wp_ok, wpo_some, wp_bind, wp_ofE, rd_d, wp_pureD, wp_mD, wp_m1, wp_m2, wp_mB, wp_nil, wp_cons, wp_tup, wp_lst, wp_lstM, wp_ix, wp_sl, wp_oN, wp_call, wp_callK, wp_ifV, wp_tst, wp_tAnd, wp_tOr, wp_tNot, wps_nil, wps_brk, wps_cnt, wps_seq, wps_ret, wps_retN, wps_exp, wps_if, wps_asg, gnm, wps_for, wp_fnS, wp_fnK, ret_d, ret_lst, keep_refl, keep_app, startE, List.map_cons, List.map_nil, List.replicate_succ, List.replicate_zero, List.cons_append, List.nil_append, List.length_cons, List.length_nil, List.getElem?_cons_zero, List.getElem?_cons_succ, List.set_cons_zero, List.set_cons_succ, Option.bind_some, Nat.reduceAdd, Nat.reduceSub, List.take_length, List.take_left, true_and, and_true, wp_var0, wp_varS, at0, at1, at2, add_ii, add_tt, add_ll, sub_ii, lt_ii, le_ii, gt_ii, ge_ii, neg_i, eq_ii, ne_ii, eq_ss, ne_ss, tr_bl, tr_i, tr_t, tr_l, wp_ixt, wp_ixl, wp_oS, sl_t, sl_l, sl_s, rds_nil, rds_d, omap_some, fzs_nil, fzs_d, fzW_d, wp_andV, wp_orV, wp_notV, wp_iSeq, its_t, its_l, wp_iEnum, en_t, en_l, wp_iZip, seq_t, seq_l, gtu, gscons, gsnil, wps_dput, wp_m0, wp_mm1, wps_par2, wp_yes, wipe0, wipeS, implies_true, forall_const, if_true, if_false, Bool.false_eq_true, Bool.not_true, Bool.not_false, wp_fd0, wp_fd1, mulT_i, mulT_l, wp_lrng, wp_revM, maxT_ii, wps_par3, lenD_t, tN, iN])
end
end MP.Fk40
namespace MP.Fk40
open PySem PySem.Spec PyProof.Rows L2 MP
section
variable {G : Cst} {L R : LH} {x y : D} {Q : W → LH → Prop} {n w d : Nat}
theorem w_odd (h : Dk (n + 1) R L) (hx : Sm w d x) (hi : ∀ i, x = .int i → -(2 ^ 100) < i ∧ i < 2 ^ 100) (hw : w ≤ 4000000) : Wp (s__law_odd G [.loc 0, .d x] L) fun y L' => ∃ z, y = .d z ∧ Sm (2 * w + 1500) (d + 5) z ∧ Dk n R L' := by
  have hgd := gd_of (some G.cLine) x d w hx (by omega)
  have hD : Dk (n + 1) (R ++ [.frz (.dct [])] ++ [.frz (.dct [(.inr "a", .int 1)])]) (L ++ [.frz (.dct [])] ++ [.frz (.dct [(.inr "a", .int 1)])]) := (h.push _).push _
  have pick : ∀ xs : List D, xs ≠ [] → xs.length ≤ 1000 → (∀ y ∈ xs, Sm (2 * w + 1500) (d + 5) y) → Wp (s__law_pick G [.loc 0, .d (.lst xs)] (L ++ [.frz (.dct [])] ++ [.frz (.dct [(.inr "a", .int 1)])])) fun w_1 L' => Keep L.length L L' ∧ WpO (retW L.length L' w_1) fun w' => ∃ z, w' = .d z ∧ Sm (2 * w + 1500) (d + 5) z ∧ Dk n R (L'.take L.length) := fun xs h1 h2 h3 => by
    refine (w_pick G hD h1 (by omega)).imp fun y L' ⟨z, hz, e, hd⟩ => ?_
    subst e
    obtain ⟨hk, hd'⟩ := h.fin2 hd
    exact ⟨hk, z, rfl, h3 z hz, hd'⟩
  have hA : ∀ y ∈ oddA, Sm (2 * w + 1500) (d + 5) y := fun y hy => (sm_oddA.mem hy).mono (by omega) (by omega)
  simp only [s__law_odd, b__law_odd, wp_ok, wpo_some, wp_bind, wp_ofE, rd_d, wp_pureD, wp_mD, wp_m1, wp_m2, wp_mB, wp_nil, wp_cons, wp_tup, wp_lst, wp_lstM, wp_ix, wp_sl, wp_oN, wp_call, wp_callK, wp_ifV, wp_tst, wp_tAnd, wp_tOr, wp_tNot, wps_nil, wps_brk, wps_cnt, wps_seq, wps_ret, wps_retN, wps_exp, wps_if, wps_asg, gnm, wps_for, wp_fnS, wp_fnK, ret_d, ret_lst, keep_refl, keep_app, startE, List.map_cons, List.map_nil, List.replicate_succ, List.replicate_zero, List.cons_append, List.nil_append, List.length_cons, List.length_nil, List.getElem?_cons_zero, List.getElem?_cons_succ, List.set_cons_zero, List.set_cons_succ, Option.bind_some, Nat.reduceAdd, Nat.reduceSub, List.take_length, List.take_left, true_and, and_true, wp_var0, wp_varS, at0, at1, at2, add_ii, add_tt, add_ll, sub_ii, lt_ii, le_ii, gt_ii, ge_ii, neg_i, eq_ii, ne_ii, eq_ss, ne_ss, tr_bl, tr_i, tr_t, tr_l, wp_ixt, wp_ixl, wp_oS, sl_t, sl_l, sl_s, rds_nil, rds_d, omap_some, fzs_nil, fzs_d, fzW_d, wp_andV, wp_orV, wp_notV, wp_iSeq, its_t, its_l, wp_iEnum, en_t, en_l, wp_iZip, seq_t, seq_l, gtu, gscons, gsnil, wps_dput, wp_m0, wp_mm1, wps_par2, wp_yes, wipe0, wipeS, implies_true, forall_const, if_true, if_false, Bool.false_eq_true, Bool.not_true, Bool.not_false, wp_fd0, wp_fd1, mulT_i, mulT_l, wp_lrng, wp_revM, maxT_ii, wps_par3, sz0, sz1, sz2, sz3, sz4, sz5, sz6, sz7, sz8, sz9, sz10, sz11, sz12, sz13, sz14, sz15, sz16, sz17, sz18, sz19, sz20, sz21, sz22, sz23, sz24, sz25, sz26, sz27, sz28, sz29, sz30, sz31, sz32, sz33, sz34, sz35, sz36, sz37, sz38, sz39, sz40, sz41, sz42, sz43, sz44, sz45, sz46, sz47, sz48, sz49, sz50, sz51, sz52, sz53, sz54, sz55, sz56, sz57, sz58, sz59, sz60, sz61, sz62, sz63, p1030, isi_tup (gd_kn hgd)]
  rw [show [D.non, D.bl true, D.bl false, D.int 0, D.int 1, D.int (-1), D.int 2, D.int 7, D.str "", D.str "0", D.tup [], D.tup [D.tup []], D.lst [], D.dct [], D.tup [D.int 0], D.tup [D.int 0, D.int 1], D.lst [D.int 0, D.int 1], D.tup [D.int 1, D.int 2], D.tup [D.int 1, D.int 0, D.int 2], D.tup [D.tup [D.int 0, D.int 0, D.int 1]],
  D.int 1000000000000000000000000000000, D.int (-1000000000000000000000000000000), D.dct [(.inr "a", D.int 1)], D.tup [D.non], D.tup [D.str "a"], D.tup [D.int 1, D.int 1], D.tup [D.int 2, D.int 2], D.tup [D.int 3, D.tup [D.int 1, D.int 2]], D.tup [D.tup [D.int 1, D.int 1], D.tup []], D.tup [D.str "kept"], D.tup [D.str "in"]] = oddA from rfl]
  by_cases ht : isTup x = true
  · rw [if_pos ht]
    obtain ⟨xs, rfl⟩ : ∃ xs, x = .tup xs := by cases x <;> simp [isTup] at ht ⊢
    have hs := hx.un_tup
    have hl := hs.len
    have cl : ∀ {lo hi : Option Int}, (cutD xs lo hi).length ≤ xs.length := cut_sub.length_le
    have c1 := cl (lo := none) (hi := some 1)
    have hsl : ∀ {lo hi : Option Int}, Sms w (d - 1) (cutD xs lo hi) := hs.sub cut_sub
    have hT : ∀ {ys : List D} {w' : Nat}, Sms w' (d + 4) ys → w' ≤ 2 * w + 1497 → Sm (2 * w + 1500) (d + 5) (.tup ys) := fun h1 h2 => (Sm.tup h1).mono (by omega) (by omega)
    rw [listD_t, wpo_some, add_tts (by simp only [List.length_cons, List.length_nil]; omega), wpo_some, sl_t, wpo_some, sl_t, wpo_some, rev_t, wpo_some, sl_t, wpo_some, add_tts (by omega), wpo_some, wpo_some, add_tts (by omega), wpo_some, add_tts (by simp only [List.length_cons, List.length_nil]; omega), wpo_some]
    obtain ⟨zs, ez, hz, hm⟩ := mul_mem (xs := [D.lst xs, D.tup (xs ++ [D.int 0]), D.tup (cutD xs (some 1) none), D.tup (cutD xs none (some (-1))), D.tup xs.reverse, D.tup (xs ++ cutD xs none (some 1)), D.tup [D.tup xs], D.tup (cutD xs none (some 1) ++ xs), D.tup (xs ++ [D.tup []])]) (k := 3) (by decide) (by decide) (by simp)
    have hz' : zs.length = 27 := hz
    have hoA : oddA.length = 31 := by decide +kernel
    rw [ez, wpo_some, add_lls (by omega), wpo_some]
    refine pick _ (by intro h; have := congrArg List.length h; simp [hoA] at this) (by rw [List.length_append]; omega) fun y hy => ?_
    rcases List.mem_append.mp hy with hy | hy
    · exact hA y hy
    · have hy := hm y hy
      simp only [List.mem_cons, List.not_mem_nil, or_false] at hy
      have hs4 : Sms w (d + 4) xs := hs.mono (by omega) (by omega)
      have hc4 : ∀ {lo hi : Option Int}, Sms w (d + 4) (cutD xs lo hi) := hs4.sub cut_sub
      have h0 : Sms 7 (d + 4) [D.int 0] := ⟨by simp [pls, pl], by simp [wts, wt]⟩
      have h1 : Sms 5 (d + 4) [D.tup []] := ⟨by simp [pls, pl], by simp [wts, wt]⟩
      rcases hy with rfl | rfl | rfl | rfl | rfl | rfl | rfl | rfl | rfl
      · exact (Sm.lst hs4).mono (by omega) (by omega)
      · exact hT (hs4.app h0) (by omega)
      · exact hT hc4 (by omega)
      · exact hT hc4 (by omega)
      · exact hT hs4.rev (by omega)
      · exact hT (hs4.app hc4) (by omega)
      · exact hT (Sms.cons (hx.mono (Nat.le_refl _) (by omega)) Sms.nil) (by omega)
      · exact hT (hc4.app hs4) (by omega)
      · exact hT (hs4.app h1) (by omega)
  · rw [if_neg ht]
    rw [wp_eq (q_isint (gd_kn hgd)), rd_d, Option.bind_some, tr_bl, wpo_some]
    by_cases hin : isI x = true
    · rw [if_pos hin]
      obtain ⟨i, rfl⟩ := isI_iff.mp hin
      obtain ⟨i0, i1⟩ := hi i rfl
      have hlog : i.natAbs.log2 < 101 := by
        by_cases z : i.natAbs = 0
        · rw [z]; decide
        · exact (Nat.log2_lt z).mpr (by omega)
      rw [add_ii, wpo_some, sub_ii, wpo_some, neg_i, wpo_some, eq_ii, wpo_some, strID, if_pos (by omega), wpo_some, mul_sm (by omega) (by omega) (by omega) (by omega), wpo_some]
      obtain ⟨zs, ez, hz, hm⟩ := mul_mem (xs := [D.int (i + 1), D.int (i - 1), D.int (-i), D.bl (decide (i = 1)), D.lst [D.int i], D.tup [D.int i], D.str (toString i), D.int 0, D.int (2 * i)]) (k := 4) (by decide) (by decide) (by simp)
      have hz' : zs.length = 36 := hz
      have hoA : oddA.length = 31 := by decide +kernel
      rw [ez, wpo_some, add_lls (by omega), wpo_some]
      refine pick _ (by intro h; have := congrArg List.length h; simp [hoA] at this) (by rw [List.length_append]; omega) fun y hy => ?_
      rcases List.mem_append.mp hy with hy | hy
      · exact hA y hy
      · have hy := hm y hy
        simp only [List.mem_cons, List.not_mem_nil, or_false] at hy
        have hI : ∀ {j : Int} {m : Nat}, -(2 ^ 110) < j → j < 2 ^ 110 → Sm 112 m (.int j) := fun h1 h2 => Sm.int (k := 110) (by omega) (by decide)
        rcases hy with rfl | rfl | rfl | rfl | rfl | rfl | rfl | rfl | rfl
        · exact (hI (by omega) (by omega)).mono (by omega) (Nat.le_refl _)
        · exact (hI (by omega) (by omega)).mono (by omega) (Nat.le_refl _)
        · exact (hI (by omega) (by omega)).mono (by omega) (Nat.le_refl _)
        · exact ⟨by simp [pl], by simp only [wt]; omega⟩
        · exact (Sm.lst (Sms.cons (hI (m := d + 4) (by omega) (by omega)) Sms.nil)).mono (by omega) (by omega)
        · exact (Sm.tup (Sms.cons (hI (m := d + 4) (by omega) (by omega)) Sms.nil)).mono (by omega) (by omega)
        · refine ⟨by simp only [pl]; exact sOk_of, ?_⟩
          have h1 := int_shown i
          have h2 : (Str.ofString (toString i)).length ≤ i.natAbs.log2 + 3 := h1
          show 10 * (Str.ofString (toString i)).length + 2 ≤ _
          omega
        · exact (hI (by omega) (by omega)).mono (by omega) (Nat.le_refl _)
        · exact (hI (by omega) (by omega)).mono (by omega) (Nat.le_refl _)
    · rw [if_neg hin]
      exact pick oddA (by decide +kernel) (by decide +kernel) hA
end
end MP.Fk40
namespace MP.Fk40
open PySem PySem.Spec PyProof.Rows L2 MP
section
variable {G : Cst} {R : LH}
theorem w_bent : ∀ (k n w d : Nat) (x : D) (L : LH), Dk (n + 2 * k + 2) R L → Sm w d x → tr x = true → d ≤ 30 → w ≤ 100000 → k ≤ 10 → Wp (s__law_bent G (k + 1) [.loc 0, .d x, .d (.int (k : Nat))] L) fun y L' => ∃ z, y = .d z ∧ Sm (2 * w * (k + 1) + 1500 + 10 * k) (d + 5 + k) z ∧ Dk n R L'
  | k, n, w, d, x, L, h, hx, ht, hd, hw, hk => by
    have hgd := gd_of (some G.cLine) x d w hx (by omega)
    have hi : ∀ i, x = .int i → -(2 ^ 100) < i ∧ i < 2 ^ 100 := fun i e => by
      subst e
      have : i.natAbs < 2 ^ 100 := by simpa [tr] using ht
      omega
    have hmul : 2 * w ≤ 2 * w * (k + 1) := Nat.le_mul_of_pos_right _ (by omega)
    have odd : ∀ L1, Dk (n + 2 * k + 1) R L1 → Wp (s__law_odd G [.loc 0, .d x] L1) fun w_1 L' => Keep L.length L L' ∧ WpO (retW L.length L' w_1) fun w' => ∃ z, w' = .d z ∧ Sm (2 * w * (k + 1) + 1500 + 10 * k) (d + 5 + k) z ∧ Dk n R (L'.take L.length) := fun L1 h1 => by
      refine (w_odd (n := n + 2 * k) h1 hx hi (by omega)).imp fun y L' ⟨z, e, hz, hd'⟩ => ?_
      subst e
      obtain ⟨hk1, hd2⟩ := h.fin0 hd'
      exact ⟨hk1, z, rfl, hz.mono (by omega) (by omega), hd2.le (by omega)⟩
    simp only [s__law_bent, b__law_bent, wp_ok, wpo_some, wp_bind, wp_ofE, rd_d, wp_pureD, wp_mD, wp_m1, wp_m2, wp_mB, wp_nil, wp_cons, wp_tup, wp_lst, wp_lstM, wp_ix, wp_sl, wp_oN, wp_call, wp_callK, wp_ifV, wp_tst, wp_tAnd, wp_tOr, wp_tNot, wps_nil, wps_brk, wps_cnt, wps_seq, wps_ret, wps_retN, wps_exp, wps_if, wps_asg, gnm, wps_for, wp_fnS, wp_fnK, ret_d, ret_lst, keep_refl, keep_app, startE, List.map_cons, List.map_nil, List.replicate_succ, List.replicate_zero, List.cons_append, List.nil_append, List.length_cons, List.length_nil, List.getElem?_cons_zero, List.getElem?_cons_succ, List.set_cons_zero, List.set_cons_succ, Option.bind_some, Nat.reduceAdd, Nat.reduceSub, List.take_length, List.take_left, true_and, and_true, wp_var0, wp_varS, at0, at1, at2, add_ii, add_tt, add_ll, sub_ii, lt_ii, le_ii, gt_ii, ge_ii, neg_i, eq_ii, ne_ii, eq_ss, ne_ss, tr_bl, tr_i, tr_t, tr_l, wp_ixt, wp_ixl, wp_oS, sl_t, sl_l, sl_s, rds_nil, rds_d, omap_some, fzs_nil, fzs_d, fzW_d, wp_andV, wp_orV, wp_notV, wp_iSeq, its_t, its_l, wp_iEnum, en_t, en_l, wp_iZip, seq_t, seq_l, gtu, gscons, gsnil, wps_dput, wp_m0, wp_mm1, wps_par2, wp_yes, wipe0, wipeS, implies_true, forall_const, if_true, if_false, Bool.false_eq_true, Bool.not_true, Bool.not_false, wp_fd0, wp_fd1, mulT_i, mulT_l, wp_lrng, wp_revM, maxT_ii, wps_par3, isi_tup (gd_kn hgd)]
    by_cases hk0 : k = 0
    · subst hk0
      rw [if_pos (by decide)]
      exact odd L (h.le (by omega))
    · rw [if_neg (by simpa using hk0)]
      by_cases hT : isTup x = true
      · obtain ⟨xs, rfl⟩ : ∃ xs, x = .tup xs := by cases x <;> simp [isTup] at hT ⊢
        have hs := hx.un_tup
        have hts : trs xs = true := by simpa [tr] using ht
        rw [hT, eq_nt]
        rw [if_neg (by decide)]
        refine ⟨szl, ?_⟩
        rw [wpo_some, tr_bl, wpo_some]
        by_cases hem : xs.isEmpty = true
        · rw [if_pos hem]
          exact odd L (h.le (by omega))
        · rw [if_neg hem]
          have hne : 0 < xs.length := by cases xs with
            | nil => simp at hem
            | cons _ _ => simp
          have hxl := hs.len
          refine (w_draw G (n := n + 2 * k + 1) h (by decide) (by decide)).imp fun y L1 ⟨r, e, r0, r1, hd1⟩ => ?_
          subst e
          rw [rd_d, Option.bind_some, eq_ii, wpo_some, tr_bl, wpo_some]
          by_cases hr : decide (r = 0) = true
          · rw [if_pos hr]
            exact odd L1 hd1
          · rw [if_neg hr, lenD_t, wpo_some]
            refine (w_draw G (n := n + 2 * k) hd1 (by omega) (by omega)).imp fun y L2 ⟨at', e, a0, a1, hd2⟩ => ?_
            subst e
            obtain ⟨q, rfl⟩ : ∃ q : Nat, at' = q := ⟨at'.toNat, by omega⟩
            dsimp only
            rw [sl_t, wpo_some, wp_ixt]
            obtain ⟨x1, hx1⟩ : ∃ x, xs[q]? = some x := ⟨xs[q]'(by omega), List.getElem?_eq_getElem (by omega)⟩
            rw [atN hx1, wpo_some]
            obtain ⟨j, rfl⟩ : ∃ j, k = j + 1 := ⟨k - 1, by omega⟩
            have hm := List.mem_of_getElem? hx1
            rw [show (((j + 1 : Nat) : Int) - 1) = (j : Nat) by omega]
            have hsx := hs.mem hm
            refine (w_bent j n w (d - 1) x1 L2 (hd2.le (by omega)) hsx (trs_iff.mp hts x1 hm) (by omega) hw (by omega)).imp fun y L3 ⟨z, e, hz, hd3⟩ => ?_
            subst e
            have hzl : ∀ {lo hi : Option Int}, (cutD xs lo hi).length ≤ xs.length := cut_sub.length_le
            have z1 := hzl (lo := none) (hi := some (q : Int))
            have z2 := hzl (lo := some ((q : Int) + 1)) (hi := none)
            rw [fzs_d, fzs_nil, Option.map_some, wpo_some]
            refine ⟨by rw [sm2]; simp only [List.length_cons, List.length_nil]; omega, ?_⟩
            rw [add_tts (by simp only [List.length_cons, List.length_nil]; omega), wpo_some, rd_d, Option.bind_some, add_ii, wpo_some]
            dsimp only
            rw [sl_t, wpo_some, add_tts (by simp only [List.length_append, List.length_cons, List.length_nil]; omega), wpo_some]
            obtain ⟨hk1, hd4⟩ := h.fin0 hd3
            refine ⟨hk1, _, rfl, ?_, hd4⟩
            have s0 : Sms w (d + 4 + (j + 1)) xs := hs.mono (Nat.le_refl _) (by omega)
            have s1 : ∀ {lo hi : Option Int}, Sms w (d + 4 + (j + 1)) (cutD xs lo hi) := s0.sub cut_sub
            have e1 : 2 * w * (j + 1 + 1) = 2 * w * (j + 1) + 2 * w := by rw [Nat.mul_add (2 * w) (j + 1) 1, Nat.mul_one]
            exact (Sm.tup ((s1.app (Sms.cons (hz.mono (Nat.le_refl _) (by omega)) Sms.nil)).app s1)).mono (by omega) (by omega)
      · simp only [Bool.not_eq_true] at hT
        rw [hT]
        exact odd L (h.le (by omega))
termination_by k => k
end
end MP.Fk40
namespace MP.Fk40
open PySem PySem.Spec PyProof.Rows L2 MP
section
variable {G : Cst} {R L : LH}
theorem q_wv : s_is_weights_value G [.d (.tup [.int 1])] L = .ok (.d (.bl true)) L := Wp.eq (by
  have hk : kn (some G.cLine) (.tup [.int 1]) = true := rfl
  simp only [s_is_weights_value, b_is_weights_value, wp_ok, wpo_some, wp_bind, wp_ofE, rd_d, wp_pureD, wp_mD, wp_m1, wp_m2, wp_mB, wp_nil, wp_cons, wp_tup, wp_lst, wp_lstM, wp_ix, wp_sl, wp_oN, wp_call, wp_callK, wp_ifV, wp_tst, wp_tAnd, wp_tOr, wp_tNot, wps_nil, wps_brk, wps_cnt, wps_seq, wps_ret, wps_retN, wps_exp, wps_if, wps_asg, gnm, wps_for, wp_fnS, wp_fnK, ret_d, ret_lst, keep_refl, keep_app, startE, List.map_cons, List.map_nil, List.replicate_succ, List.replicate_zero, List.cons_append, List.nil_append, List.length_cons, List.length_nil, List.getElem?_cons_zero, List.getElem?_cons_succ, List.set_cons_zero, List.set_cons_succ, Option.bind_some, Nat.reduceAdd, Nat.reduceSub, List.take_length, List.take_left, true_and, and_true, wp_var0, wp_varS, at0, at1, at2, add_ii, add_tt, add_ll, sub_ii, lt_ii, le_ii, gt_ii, ge_ii, neg_i, eq_ii, ne_ii, eq_ss, ne_ss, tr_bl, tr_i, tr_t, tr_l, wp_ixt, wp_ixl, wp_oS, sl_t, sl_l, sl_s, rds_nil, rds_d, omap_some, fzs_nil, fzs_d, fzW_d, wp_andV, wp_orV, wp_notV, wp_iSeq, its_t, its_l, wp_iEnum, en_t, en_l, wp_iZip, seq_t, seq_l, gtu, gscons, gsnil, wps_dput, wp_m0, wp_mm1, wps_par2, wp_yes, wipe0, wipeS, implies_true, forall_const, if_true, if_false, Bool.false_eq_true, Bool.not_true, Bool.not_false, wp_fd0, wp_fd1, mulT_i, mulT_l, wp_lrng, wp_revM, maxT_ii, wps_par3, isi_tup hk, isTup, lenD_t]
  refine wp_lcB id [D.int 1] (fun y => .bl true) ?_ fun c hc M => ?_
  · simp only [wp_ok, wpo_some, wp_bind, wp_ofE, rd_d, wp_pureD, wp_mD, wp_m1, wp_m2, wp_mB, wp_nil, wp_cons, wp_tup, wp_lst, wp_lstM, wp_ix, wp_sl, wp_oN, wp_call, wp_callK, wp_ifV, wp_tst, wp_tAnd, wp_tOr, wp_tNot, wps_nil, wps_brk, wps_cnt, wps_seq, wps_ret, wps_retN, wps_exp, wps_if, wps_asg, gnm, wps_for, wp_fnS, wp_fnK, ret_d, ret_lst, keep_refl, keep_app, startE, List.map_cons, List.map_nil, List.replicate_succ, List.replicate_zero, List.cons_append, List.nil_append, List.length_cons, List.length_nil, List.getElem?_cons_zero, List.getElem?_cons_succ, List.set_cons_zero, List.set_cons_succ, Option.bind_some, Nat.reduceAdd, Nat.reduceSub, List.take_length, List.take_left, true_and, and_true, wp_var0, wp_varS, at0, at1, at2, add_ii, add_tt, add_ll, sub_ii, lt_ii, le_ii, gt_ii, ge_ii, neg_i, eq_ii, ne_ii, eq_ss, ne_ss, tr_bl, tr_i, tr_t, tr_l, wp_ixt, wp_ixl, wp_oS, sl_t, sl_l, sl_s, rds_nil, rds_d, omap_some, fzs_nil, fzs_d, fzW_d, wp_andV, wp_orV, wp_notV, wp_iSeq, its_t, its_l, wp_iEnum, en_t, en_l, wp_iZip, seq_t, seq_l, gtu, gscons, gsnil, wps_dput, wp_m0, wp_mm1, wps_par2, wp_yes, wipe0, wipeS, implies_true, forall_const, if_true, if_false, Bool.false_eq_true, Bool.not_true, Bool.not_false, wp_fd0, wp_fd1, mulT_i, mulT_l, wp_lrng, wp_revM, maxT_ii, wps_par3, List.map_id, sz0, sz1, sz2, sz3, sz4, sz5, sz6, sz7, sz8, sz9, sz10, sz11, sz12, sz13, sz14, sz15, sz16, sz17, sz18, sz19, sz20, sz21, sz22, sz23, sz24, sz25, sz26, sz27, sz28, sz29, sz30, sz31, sz32, sz33, sz34, sz35, sz36, sz37, sz38, sz39, sz40, sz41, sz42, sz43, sz44, sz45, sz46, sz47, sz48, sz49, sz50, sz51, sz52, sz53, sz54, sz55, sz56, sz57, sz58, sz59, sz60, sz61, sz62, sz63]
    exact ⟨rfl, rfl⟩
  · rw [List.mem_singleton.mp hc]
    simp only [wp_ok, wpo_some, wp_bind, wp_ofE, rd_d, wp_pureD, wp_mD, wp_m1, wp_m2, wp_mB, wp_nil, wp_cons, wp_tup, wp_lst, wp_lstM, wp_ix, wp_sl, wp_oN, wp_call, wp_callK, wp_ifV, wp_tst, wp_tAnd, wp_tOr, wp_tNot, wps_nil, wps_brk, wps_cnt, wps_seq, wps_ret, wps_retN, wps_exp, wps_if, wps_asg, gnm, wps_for, wp_fnS, wp_fnK, ret_d, ret_lst, keep_refl, keep_app, startE, List.map_cons, List.map_nil, List.replicate_succ, List.replicate_zero, List.cons_append, List.nil_append, List.length_cons, List.length_nil, List.getElem?_cons_zero, List.getElem?_cons_succ, List.set_cons_zero, List.set_cons_succ, Option.bind_some, Nat.reduceAdd, Nat.reduceSub, List.take_length, List.take_left, true_and, and_true, wp_var0, wp_varS, at0, at1, at2, add_ii, add_tt, add_ll, sub_ii, lt_ii, le_ii, gt_ii, ge_ii, neg_i, eq_ii, ne_ii, eq_ss, ne_ss, tr_bl, tr_i, tr_t, tr_l, wp_ixt, wp_ixl, wp_oS, sl_t, sl_l, sl_s, rds_nil, rds_d, omap_some, fzs_nil, fzs_d, fzW_d, wp_andV, wp_orV, wp_notV, wp_iSeq, its_t, its_l, wp_iEnum, en_t, en_l, wp_iZip, seq_t, seq_l, gtu, gscons, gsnil, wps_dput, wp_m0, wp_mm1, wps_par2, wp_yes, wipe0, wipeS, implies_true, forall_const, if_true, if_false, Bool.false_eq_true, Bool.not_true, Bool.not_false, wp_fd0, wp_fd1, mulT_i, mulT_l, wp_lrng, wp_revM, maxT_ii, wps_par3, id, wp_eq (q_from (rfl : kn (some G.cLine) (.int 1) = true))]
    rfl)
theorem w_line {env : Ev} {Q : W → LH → Prop} (h : ∀ fs, Q (.d (.ob G.cLine fs)) (L ++ [.frz (.ob G.cLine fs)])) : Wp (mFrz (mMake G.cLine (s_Line___init__ G) (aCons (mTup (aCons (mD (.int 1)) aNil)) aNil)) env L) Q := by
  simp only [wp_mFrz, wp_mMake, s_Line___init__, b_Line___init__, s_need_weights, b_need_weights, wp_ok, wpo_some, wp_bind, wp_ofE, rd_d, wp_pureD, wp_mD, wp_m1, wp_m2, wp_mB, wp_nil, wp_cons, wp_tup, wp_lst, wp_lstM, wp_ix, wp_sl, wp_oN, wp_call, wp_callK, wp_ifV, wp_tst, wp_tAnd, wp_tOr, wp_tNot, wps_nil, wps_brk, wps_cnt, wps_seq, wps_ret, wps_retN, wps_exp, wps_if, wps_asg, gnm, wps_for, wp_fnS, wp_fnK, ret_d, ret_lst, keep_refl, keep_app, startE, List.map_cons, List.map_nil, List.replicate_succ, List.replicate_zero, List.cons_append, List.nil_append, List.length_cons, List.length_nil, List.getElem?_cons_zero, List.getElem?_cons_succ, List.set_cons_zero, List.set_cons_succ, Option.bind_some, Nat.reduceAdd, Nat.reduceSub, List.take_length, List.take_left, true_and, and_true, wp_var0, wp_varS, at0, at1, at2, add_ii, add_tt, add_ll, sub_ii, lt_ii, le_ii, gt_ii, ge_ii, neg_i, eq_ii, ne_ii, eq_ss, ne_ss, tr_bl, tr_i, tr_t, tr_l, wp_ixt, wp_ixl, wp_oS, sl_t, sl_l, sl_s, rds_nil, rds_d, omap_some, fzs_nil, fzs_d, fzW_d, wp_andV, wp_orV, wp_notV, wp_iSeq, its_t, its_l, wp_iEnum, en_t, en_l, wp_iZip, seq_t, seq_l, gtu, gscons, gsnil, wps_dput, wp_m0, wp_mm1, wps_par2, wp_yes, wipe0, wipeS, implies_true, forall_const, if_true, if_false, Bool.false_eq_true, Bool.not_true, Bool.not_false, wp_fd0, wp_fd1, mulT_i, mulT_l, wp_lrng, wp_revM, maxT_ii, wps_par3, sz0, sz1, sz2, sz3, sz4, sz5, sz6, sz7, sz8, sz9, sz10, sz11, sz12, sz13, sz14, sz15, sz16, sz17, sz18, sz19, sz20, sz21, sz22, sz23, sz24, sz25, sz26, sz27, sz28, sz29, sz30, sz31, sz32, sz33, sz34, sz35, sz36, sz37, sz38, sz39, sz40, sz41, sz42, sz43, sz44, sz45, sz46, sz47, sz48, sz49, sz50, sz51, sz52, sz53, sz54, sz55, sz56, sz57, sz58, sz59, sz60, sz61, sz62, sz63, wp_eq q_wv, wps_fld, last_at, last_set, putA, nf01, nf02, nf03, nf12, nf13, nf23]
  refine ⟨by decide, by decide, by decide, by decide, ?_⟩
  rw [fzW]
  simp only [last_at, last_set, allD1, allD0, Option.map_some, wpo_some]
  exact h _
end
end MP.Fk40
namespace MP
open PySem PySem.Spec PyProof.Rows L2
/-! weights, arrivals, rows -/
def pkB : D → Bool
  | .tup [a, b, c] => i0 a && (i0 b && i1 c)
  | _ => false
def ts : D → List D
  | .tup xs => xs
  | _ => []
def wB : D → Bool
  | .tup xs => !xs.isEmpty && xs.all i1
  | _ => false
def mom : D → Int
  | .tup (.int a :: _) => a
  | _ => 0
def flw : D → Int
  | .tup (_ :: .int b :: _) => b
  | _ => 0
def asc (xs : List D) : Bool := (xs.zip (xs.drop 1)).all fun p => decide (mom p.1 ≤ mom p.2)
def aaB : D → Bool
  | .tup xs => xs.all pkB && asc xs
  | _ => false
def arB (n : Int) (x : D) : Bool := aaB x && (ts x).all fun p => decide (flw p < n)
def lnB : D → Bool
  | .tup [w, a] => wB w && (arB (ts w).length a && (ts a).all fun p => !decide (flw p = 0))
  | _ => false
def rowB : D → Bool
  | .tup xs => !xs.isEmpty && xs.all lnB
  | _ => false
theorem pkB_un {x : D} (h : pkB x = true) : ∃ a b c : Int, x = .tup [.int a, .int b, .int c] ∧ 0 ≤ a ∧ 0 ≤ b ∧ 1 ≤ c := by
  match x, h with
  | .tup [a, b, c], h =>
    simp only [pkB, Bool.and_eq_true] at h
    obtain ⟨h1, h2, h3⟩ := h
    cases a <;> simp [i0] at h1
    cases b <;> simp [i0] at h2
    cases c <;> simp [i1] at h3
    exact ⟨_, _, _, rfl, h1, h2, h3⟩
theorem aaB_un {x : D} (h : aaB x = true) : ∃ xs, x = .tup xs ∧ ∀ p ∈ xs, pkB p = true := by
  cases x <;> simp [aaB] at h
  exact ⟨_, rfl, fun p hp => h.1 p hp⟩
theorem wB_un {x : D} (h : wB x = true) : ∃ ns : List Int, x = .tup (ns.map D.int) ∧ ns ≠ [] ∧ ∀ n ∈ ns, 1 ≤ n := by
  cases x <;> simp only [wB, Bool.and_eq_true, Bool.not_eq_true'] at h <;> try cases h
  rename_i xs h1 h2
  have key : ∀ xs : List D, xs.all i1 = true → ∃ ns : List Int, xs = ns.map D.int ∧ ∀ n ∈ ns, 1 ≤ n := fun xs => by
    induction xs with
    | nil => exact fun _ => ⟨[], rfl, by simp⟩
    | cons x r ih =>
      intro h
      rw [List.all_cons, Bool.and_eq_true] at h
      obtain ⟨ns, e, hn⟩ := ih h.2
      cases x <;> simp [i1] at h
      rename_i i
      exact ⟨i :: ns, by rw [e]; rfl, by simpa [h.1] using hn⟩
  obtain ⟨ns, e, hn⟩ := key xs h2
  refine ⟨ns, by rw [e], fun z => ?_, hn⟩
  rw [e, z] at h1
  cases h1
theorem zip_pair {xs ys : List D} : zipD xs ys = (xs.zip ys).map fun p => .tup [p.1, p.2] := by
  induction xs generalizing ys with
  | nil => cases ys <;> rfl
  | cons x r ih => cases ys with
    | nil => rfl
    | cons y s => simp only [zipD, List.zip_cons_cons, List.map_cons, ih]
def pk4 (n last : Int) : D → Bool
  | .tup [.int a, .int b, .int c] => decide (last ≤ a) && decide (0 ≤ b) && decide (1 ≤ c) && decide (b < n)
  | _ => false
theorem pk4_un {n last : Int} {p : D} (h : pk4 n last p = true) : ∃ a b c : Int, p = .tup [.int a, .int b, .int c] := by
  unfold pk4 at h
  split at h
  · exact ⟨_, _, _, rfl⟩
  · cases h
theorem pk4_t {n last a b c : Int} : pk4 n last (.tup [.int a, .int b, .int c]) = (decide (last ≤ a) && decide (0 ≤ b) && decide (1 ≤ c) && decide (b < n)) := rfl
def go (n : Int) : Int → List D → Bool
  | _, [] => true
  | last, p :: r => pk4 n last p && go n (mom p) r
theorem asc_cons {x y : D} {r : List D} : asc (x :: y :: r) = (decide (mom x ≤ mom y) && asc (y :: r)) := rfl
theorem go_eq {n : Int} : ∀ (xs : List D) (last : Int), 0 ≤ last → go n last xs = (xs.all pkB && asc xs && (xs.all fun p => decide (flw p < n)) && (match xs with | [] => true | p :: _ => decide (last ≤ mom p)))
  | [], _, _ => rfl
  | p :: r, last, h => by
    by_cases hp : ∃ a b c : Int, p = .tup [.int a, .int b, .int c]
    · obtain ⟨a, b, c, rfl⟩ := hp
      have e1 : pkB (.tup [.int a, .int b, .int c]) = (decide (0 ≤ a) && (decide (0 ≤ b) && decide (1 ≤ c))) := rfl
      have e2 : mom (.tup [.int a, .int b, .int c]) = a := rfl
      have e3 : flw (.tup [.int a, .int b, .int c]) = b := rfl
      by_cases ha : last ≤ a
      · have ih := go_eq (n := n) r a (by omega)
        rw [go, pk4_t, e2, ih, List.all_cons, List.all_cons, e1, e3]
        cases r with
        | nil =>
          simp only [List.all_nil, Bool.and_true]
          have : asc [D.tup [.int a, .int b, .int c]] = true := rfl
          have t0 : asc [] = true := rfl
          rw [this, t0, e2]
          rw [Bool.eq_iff_iff]
          simp only [Bool.and_eq_true, decide_eq_true_eq, and_true]
          omega
        | cons q r =>
          rw [asc_cons, e2]
          rw [Bool.eq_iff_iff]
          simp only [Bool.and_eq_true, decide_eq_true_eq, and_true]
          constructor
          · rintro ⟨⟨⟨⟨h1, h2⟩, h3⟩, h4⟩, ⟨⟨h5, h6⟩, h7⟩, h8⟩
            exact ⟨⟨⟨⟨⟨by omega, h2, h3⟩, h5⟩, h8, h6⟩, h4, h7⟩, h1⟩
          · rintro ⟨⟨⟨⟨⟨h0, h2, h3⟩, h5⟩, h8, h6⟩, h4, h7⟩, h1⟩
            exact ⟨⟨⟨⟨h1, h2⟩, h3⟩, h4⟩, ⟨⟨h5, h6⟩, h7⟩, h8⟩
      · rw [go, pk4_t, decide_eq_false ha]
        simp only [e2, decide_eq_false ha, Bool.and_false, Bool.false_and]
    · have h1 : pkB p = false := by
        rw [Bool.eq_false_iff]
        exact fun z => hp (let ⟨a, b, c, e, _⟩ := pkB_un z; ⟨a, b, c, e⟩)
      rw [go, List.all_cons, h1]
      have h2 : pk4 n last p = false := by
        rw [Bool.eq_false_iff]
        exact fun z => hp (pk4_un z)
      rw [h2]
      rfl
theorem go_ar {n : Int} {xs : List D} : go n 0 xs = arB n (.tup xs) := by
  rw [go_eq xs 0 (Int.le_refl 0)]
  simp only [arB, aaB, ts]
  cases xs with
  | nil => rfl
  | cons p r =>
    rw [Bool.eq_iff_iff]
    simp only [Bool.and_eq_true, decide_eq_true_eq, List.all_cons]
    constructor
    · exact fun h => h.1
    · refine fun h => ⟨h, ?_⟩
      obtain ⟨a, b, c, rfl, h1, _⟩ := pkB_un h.1.1.1
      exact h1
end MP
namespace MP.Fk40
open PySem PySem.Spec PyProof.Rows L2 MP
section
variable {G : Cst} {L : LH} {x y : D} {Q : W → LH → Prop}
theorem isT_un (h : isTup x = true) : ∃ xs, x = .tup xs := by cases x <;> simp [isTup] at h ⊢
theorem all_map {α : Type} {f : α → Bool} {xs : List α} : allD' [.lst (xs.map fun y => D.bl (f y))] = some (.bl (xs.all f)) := by
  rw [show (xs.map fun y => D.bl (f y)) = (xs.map f).map D.bl by simp, allD_map, List.all_map]
  rfl
theorem gt0 {n : Nat} : decide ((0 : Int) < (n : Int)) = !decide (n = 0) := by
  by_cases h : n = 0
  · subst h; rfl
  · rw [decide_eq_true (by omega), decide_eq_false h]; rfl
theorem emp_len {α : Type} {xs : List α} : decide (xs.length = 0) = xs.isEmpty := by cases xs <;> simp
theorem q_wb (h : gd (some G.cLine) x = true) : s_is_weights_value G [.d x] L = .ok (.d (.bl (wB x))) L := Wp.eq (by
  simp only [s_is_weights_value, b_is_weights_value, wp_ok, wpo_some, wp_bind, wp_ofE, rd_d, wp_pureD, wp_mD, wp_m1, wp_m2, wp_mB, wp_nil, wp_cons, wp_tup, wp_lst, wp_lstM, wp_ix, wp_sl, wp_oN, wp_call, wp_callK, wp_ifV, wp_tst, wp_tAnd, wp_tOr, wp_tNot, wps_nil, wps_brk, wps_cnt, wps_seq, wps_ret, wps_retN, wps_exp, wps_if, wps_asg, gnm, wps_for, wp_fnS, wp_fnK, ret_d, ret_lst, keep_refl, keep_app, startE, List.map_cons, List.map_nil, List.replicate_succ, List.replicate_zero, List.cons_append, List.nil_append, List.length_cons, List.length_nil, List.getElem?_cons_zero, List.getElem?_cons_succ, List.set_cons_zero, List.set_cons_succ, Option.bind_some, Nat.reduceAdd, Nat.reduceSub, List.take_length, List.take_left, true_and, and_true, wp_var0, wp_varS, at0, at1, at2, add_ii, add_tt, add_ll, sub_ii, lt_ii, le_ii, gt_ii, ge_ii, neg_i, eq_ii, ne_ii, eq_ss, ne_ss, tr_bl, tr_i, tr_t, tr_l, wp_ixt, wp_ixl, wp_oS, sl_t, sl_l, sl_s, rds_nil, rds_d, omap_some, fzs_nil, fzs_d, fzW_d, wp_andV, wp_orV, wp_notV, wp_iSeq, its_t, its_l, wp_iEnum, en_t, en_l, wp_iZip, seq_t, seq_l, gtu, gscons, gsnil, wps_dput, wp_m0, wp_mm1, wps_par2, wp_yes, wipe0, wipeS, implies_true, forall_const, if_true, if_false, Bool.false_eq_true, Bool.not_true, Bool.not_false, wp_fd0, wp_fd1, mulT_i, mulT_l, wp_lrng, wp_revM, maxT_ii, wps_par3, isi_tup (gd_kn h)]
  by_cases ht : isTup x = true
  · obtain ⟨xs, rfl⟩ := isT_un ht
    obtain ⟨hz, hg⟩ := gd_tup h
    rw [ht]
    simp only [wp_ok, wpo_some, wp_bind, wp_ofE, rd_d, wp_pureD, wp_mD, wp_m1, wp_m2, wp_mB, wp_nil, wp_cons, wp_tup, wp_lst, wp_lstM, wp_ix, wp_sl, wp_oN, wp_call, wp_callK, wp_ifV, wp_tst, wp_tAnd, wp_tOr, wp_tNot, wps_nil, wps_brk, wps_cnt, wps_seq, wps_ret, wps_retN, wps_exp, wps_if, wps_asg, gnm, wps_for, wp_fnS, wp_fnK, ret_d, ret_lst, keep_refl, keep_app, startE, List.map_cons, List.map_nil, List.replicate_succ, List.replicate_zero, List.cons_append, List.nil_append, List.length_cons, List.length_nil, List.getElem?_cons_zero, List.getElem?_cons_succ, List.set_cons_zero, List.set_cons_succ, Option.bind_some, Nat.reduceAdd, Nat.reduceSub, List.take_length, List.take_left, true_and, and_true, wp_var0, wp_varS, at0, at1, at2, add_ii, add_tt, add_ll, sub_ii, lt_ii, le_ii, gt_ii, ge_ii, neg_i, eq_ii, ne_ii, eq_ss, ne_ss, tr_bl, tr_i, tr_t, tr_l, wp_ixt, wp_ixl, wp_oS, sl_t, sl_l, sl_s, rds_nil, rds_d, omap_some, fzs_nil, fzs_d, fzW_d, wp_andV, wp_orV, wp_notV, wp_iSeq, its_t, its_l, wp_iEnum, en_t, en_l, wp_iZip, seq_t, seq_l, gtu, gscons, gsnil, wps_dput, wp_m0, wp_mm1, wps_par2, wp_yes, wipe0, wipeS, implies_true, forall_const, if_true, if_false, Bool.false_eq_true, Bool.not_true, Bool.not_false, wp_fd0, wp_fd1, mulT_i, mulT_l, wp_lrng, wp_revM, maxT_ii, wps_par3, lenD_t, gt0, emp_len]
    have e : wB (.tup xs) = (!xs.isEmpty && xs.all i1) := rfl
    rw [e]
    cases hem : xs.isEmpty
    · simp only [wp_ok, wpo_some, wp_bind, wp_ofE, rd_d, wp_pureD, wp_mD, wp_m1, wp_m2, wp_mB, wp_nil, wp_cons, wp_tup, wp_lst, wp_lstM, wp_ix, wp_sl, wp_oN, wp_call, wp_callK, wp_ifV, wp_tst, wp_tAnd, wp_tOr, wp_tNot, wps_nil, wps_brk, wps_cnt, wps_seq, wps_ret, wps_retN, wps_exp, wps_if, wps_asg, gnm, wps_for, wp_fnS, wp_fnK, ret_d, ret_lst, keep_refl, keep_app, startE, List.map_cons, List.map_nil, List.replicate_succ, List.replicate_zero, List.cons_append, List.nil_append, List.length_cons, List.length_nil, List.getElem?_cons_zero, List.getElem?_cons_succ, List.set_cons_zero, List.set_cons_succ, Option.bind_some, Nat.reduceAdd, Nat.reduceSub, List.take_length, List.take_left, true_and, and_true, wp_var0, wp_varS, at0, at1, at2, add_ii, add_tt, add_ll, sub_ii, lt_ii, le_ii, gt_ii, ge_ii, neg_i, eq_ii, ne_ii, eq_ss, ne_ss, tr_bl, tr_i, tr_t, tr_l, wp_ixt, wp_ixl, wp_oS, sl_t, sl_l, sl_s, rds_nil, rds_d, omap_some, fzs_nil, fzs_d, fzW_d, wp_andV, wp_orV, wp_notV, wp_iSeq, its_t, its_l, wp_iEnum, en_t, en_l, wp_iZip, seq_t, seq_l, gtu, gscons, gsnil, wps_dput, wp_m0, wp_mm1, wps_par2, wp_yes, wipe0, wipeS, implies_true, forall_const, if_true, if_false, Bool.false_eq_true, Bool.not_true, Bool.not_false, wp_fd0, wp_fd1, mulT_i, mulT_l, wp_lrng, wp_revM, maxT_ii, wps_par3]
      refine wp_lcB id xs (fun y => .bl (i1 y)) ?_ fun c hc M => ?_
      · simp only [wp_ok, wpo_some, wp_bind, wp_ofE, rd_d, wp_pureD, wp_mD, wp_m1, wp_m2, wp_mB, wp_nil, wp_cons, wp_tup, wp_lst, wp_lstM, wp_ix, wp_sl, wp_oN, wp_call, wp_callK, wp_ifV, wp_tst, wp_tAnd, wp_tOr, wp_tNot, wps_nil, wps_brk, wps_cnt, wps_seq, wps_ret, wps_retN, wps_exp, wps_if, wps_asg, gnm, wps_for, wp_fnS, wp_fnK, ret_d, ret_lst, keep_refl, keep_app, startE, List.map_cons, List.map_nil, List.replicate_succ, List.replicate_zero, List.cons_append, List.nil_append, List.length_cons, List.length_nil, List.getElem?_cons_zero, List.getElem?_cons_succ, List.set_cons_zero, List.set_cons_succ, Option.bind_some, Nat.reduceAdd, Nat.reduceSub, List.take_length, List.take_left, true_and, and_true, wp_var0, wp_varS, at0, at1, at2, add_ii, add_tt, add_ll, sub_ii, lt_ii, le_ii, gt_ii, ge_ii, neg_i, eq_ii, ne_ii, eq_ss, ne_ss, tr_bl, tr_i, tr_t, tr_l, wp_ixt, wp_ixl, wp_oS, sl_t, sl_l, sl_s, rds_nil, rds_d, omap_some, fzs_nil, fzs_d, fzW_d, wp_andV, wp_orV, wp_notV, wp_iSeq, its_t, its_l, wp_iEnum, en_t, en_l, wp_iZip, seq_t, seq_l, gtu, gscons, gsnil, wps_dput, wp_m0, wp_mm1, wps_par2, wp_yes, wipe0, wipeS, implies_true, forall_const, if_true, if_false, Bool.false_eq_true, Bool.not_true, Bool.not_false, wp_fd0, wp_fd1, mulT_i, mulT_l, wp_lrng, wp_revM, maxT_ii, wps_par3, List.map_id, all_map, Bool.true_and]
        exact hz
      · simp only [wp_ok, wpo_some, wp_bind, wp_ofE, rd_d, wp_pureD, wp_mD, wp_m1, wp_m2, wp_mB, wp_nil, wp_cons, wp_tup, wp_lst, wp_lstM, wp_ix, wp_sl, wp_oN, wp_call, wp_callK, wp_ifV, wp_tst, wp_tAnd, wp_tOr, wp_tNot, wps_nil, wps_brk, wps_cnt, wps_seq, wps_ret, wps_retN, wps_exp, wps_if, wps_asg, gnm, wps_for, wp_fnS, wp_fnK, ret_d, ret_lst, keep_refl, keep_app, startE, List.map_cons, List.map_nil, List.replicate_succ, List.replicate_zero, List.cons_append, List.nil_append, List.length_cons, List.length_nil, List.getElem?_cons_zero, List.getElem?_cons_succ, List.set_cons_zero, List.set_cons_succ, Option.bind_some, Nat.reduceAdd, Nat.reduceSub, List.take_length, List.take_left, true_and, and_true, wp_var0, wp_varS, at0, at1, at2, add_ii, add_tt, add_ll, sub_ii, lt_ii, le_ii, gt_ii, ge_ii, neg_i, eq_ii, ne_ii, eq_ss, ne_ss, tr_bl, tr_i, tr_t, tr_l, wp_ixt, wp_ixl, wp_oS, sl_t, sl_l, sl_s, rds_nil, rds_d, omap_some, fzs_nil, fzs_d, fzW_d, wp_andV, wp_orV, wp_notV, wp_iSeq, its_t, its_l, wp_iEnum, en_t, en_l, wp_iZip, seq_t, seq_l, gtu, gscons, gsnil, wps_dput, wp_m0, wp_mm1, wps_par2, wp_yes, wipe0, wipeS, implies_true, forall_const, if_true, if_false, Bool.false_eq_true, Bool.not_true, Bool.not_false, wp_fd0, wp_fd1, mulT_i, mulT_l, wp_lrng, wp_revM, maxT_ii, wps_par3, id, wp_eq (q_from (gd_kn (hg c hc)))]
    · simp only [wp_ok, wpo_some, wp_bind, wp_ofE, rd_d, wp_pureD, wp_mD, wp_m1, wp_m2, wp_mB, wp_nil, wp_cons, wp_tup, wp_lst, wp_lstM, wp_ix, wp_sl, wp_oN, wp_call, wp_callK, wp_ifV, wp_tst, wp_tAnd, wp_tOr, wp_tNot, wps_nil, wps_brk, wps_cnt, wps_seq, wps_ret, wps_retN, wps_exp, wps_if, wps_asg, gnm, wps_for, wp_fnS, wp_fnK, ret_d, ret_lst, keep_refl, keep_app, startE, List.map_cons, List.map_nil, List.replicate_succ, List.replicate_zero, List.cons_append, List.nil_append, List.length_cons, List.length_nil, List.getElem?_cons_zero, List.getElem?_cons_succ, List.set_cons_zero, List.set_cons_succ, Option.bind_some, Nat.reduceAdd, Nat.reduceSub, List.take_length, List.take_left, true_and, and_true, wp_var0, wp_varS, at0, at1, at2, add_ii, add_tt, add_ll, sub_ii, lt_ii, le_ii, gt_ii, ge_ii, neg_i, eq_ii, ne_ii, eq_ss, ne_ss, tr_bl, tr_i, tr_t, tr_l, wp_ixt, wp_ixl, wp_oS, sl_t, sl_l, sl_s, rds_nil, rds_d, omap_some, fzs_nil, fzs_d, fzW_d, wp_andV, wp_orV, wp_notV, wp_iSeq, its_t, its_l, wp_iEnum, en_t, en_l, wp_iZip, seq_t, seq_l, gtu, gscons, gsnil, wps_dput, wp_m0, wp_mm1, wps_par2, wp_yes, wipe0, wipeS, implies_true, forall_const, if_true, if_false, Bool.false_eq_true, Bool.not_true, Bool.not_false, wp_fd0, wp_fd1, mulT_i, mulT_l, wp_lrng, wp_revM, maxT_ii, wps_par3]
      rfl
  · simp only [Bool.not_eq_true] at ht
    rw [ht]
    have : wB x = false := by cases x <;> first | rfl | simp [isTup] at ht
    rw [this])
theorem t3_un (h : tN 3 x = true) : ∃ a b c, x = .tup [a, b, c] := by
  cases x <;> simp [tN] at h
  rename_i xs
  rcases xs with _ | ⟨a, _ | ⟨b, _ | ⟨c, _ | ⟨d, r⟩⟩⟩⟩ <;> simp at h
  exact ⟨_, _, _, rfl⟩
theorem t2_un (h : tN 2 x = true) : ∃ a b, x = .tup [a, b] := by
  cases x <;> simp [tN] at h
  rename_i xs
  rcases xs with _ | ⟨a, _ | ⟨b, _ | ⟨c, r⟩⟩⟩ <;> simp at h
  exact ⟨_, _, rfl⟩
theorem pkB_n (h : tN 3 x = false) : pkB x = false := by
  rw [Bool.eq_false_iff]
  intro z
  obtain ⟨a, b, c, rfl, _⟩ := pkB_un z
  simp [tN] at h
theorem q_pk (h : gd (some G.cLine) x = true) : s_is_packet G [.d x] L = .ok (.d (.bl (pkB x))) L := Wp.eq (by
  simp only [s_is_packet, b_is_packet, wp_ok, wpo_some, wp_bind, wp_ofE, rd_d, wp_pureD, wp_mD, wp_m1, wp_m2, wp_mB, wp_nil, wp_cons, wp_tup, wp_lst, wp_lstM, wp_ix, wp_sl, wp_oN, wp_call, wp_callK, wp_ifV, wp_tst, wp_tAnd, wp_tOr, wp_tNot, wps_nil, wps_brk, wps_cnt, wps_seq, wps_ret, wps_retN, wps_exp, wps_if, wps_asg, gnm, wps_for, wp_fnS, wp_fnK, ret_d, ret_lst, keep_refl, keep_app, startE, List.map_cons, List.map_nil, List.replicate_succ, List.replicate_zero, List.cons_append, List.nil_append, List.length_cons, List.length_nil, List.getElem?_cons_zero, List.getElem?_cons_succ, List.set_cons_zero, List.set_cons_succ, Option.bind_some, Nat.reduceAdd, Nat.reduceSub, List.take_length, List.take_left, true_and, and_true, wp_var0, wp_varS, at0, at1, at2, add_ii, add_tt, add_ll, sub_ii, lt_ii, le_ii, gt_ii, ge_ii, neg_i, eq_ii, ne_ii, eq_ss, ne_ss, tr_bl, tr_i, tr_t, tr_l, wp_ixt, wp_ixl, wp_oS, sl_t, sl_l, sl_s, rds_nil, rds_d, omap_some, fzs_nil, fzs_d, fzW_d, wp_andV, wp_orV, wp_notV, wp_iSeq, its_t, its_l, wp_iEnum, en_t, en_l, wp_iZip, seq_t, seq_l, gtu, gscons, gsnil, wps_dput, wp_m0, wp_mm1, wps_par2, wp_yes, wipe0, wipeS, implies_true, forall_const, if_true, if_false, Bool.false_eq_true, Bool.not_true, Bool.not_false, wp_fd0, wp_fd1, mulT_i, mulT_l, wp_lrng, wp_revM, maxT_ii, wps_par3, wp_eq (q_tupN (n := 3) (m := 3) rfl (gd_kn h))]
  by_cases ht : tN 3 x = true
  · obtain ⟨a, b, c, rfl⟩ := t3_un ht
    obtain ⟨_, hg⟩ := gd_tup h
    have ha := gd_kn (hg a (by simp))
    have hb := gd_kn (hg b (by simp))
    have hc := gd_kn (hg c (by simp))
    rw [ht]
    simp only [wp_ok, wpo_some, wp_bind, wp_ofE, rd_d, wp_pureD, wp_mD, wp_m1, wp_m2, wp_mB, wp_nil, wp_cons, wp_tup, wp_lst, wp_lstM, wp_ix, wp_sl, wp_oN, wp_call, wp_callK, wp_ifV, wp_tst, wp_tAnd, wp_tOr, wp_tNot, wps_nil, wps_brk, wps_cnt, wps_seq, wps_ret, wps_retN, wps_exp, wps_if, wps_asg, gnm, wps_for, wp_fnS, wp_fnK, ret_d, ret_lst, keep_refl, keep_app, startE, List.map_cons, List.map_nil, List.replicate_succ, List.replicate_zero, List.cons_append, List.nil_append, List.length_cons, List.length_nil, List.getElem?_cons_zero, List.getElem?_cons_succ, List.set_cons_zero, List.set_cons_succ, Option.bind_some, Nat.reduceAdd, Nat.reduceSub, List.take_length, List.take_left, true_and, and_true, wp_var0, wp_varS, at0, at1, at2, add_ii, add_tt, add_ll, sub_ii, lt_ii, le_ii, gt_ii, ge_ii, neg_i, eq_ii, ne_ii, eq_ss, ne_ss, tr_bl, tr_i, tr_t, tr_l, wp_ixt, wp_ixl, wp_oS, sl_t, sl_l, sl_s, rds_nil, rds_d, omap_some, fzs_nil, fzs_d, fzW_d, wp_andV, wp_orV, wp_notV, wp_iSeq, its_t, its_l, wp_iEnum, en_t, en_l, wp_iZip, seq_t, seq_l, gtu, gscons, gsnil, wps_dput, wp_m0, wp_mm1, wps_par2, wp_yes, wipe0, wipeS, implies_true, forall_const, if_true, if_false, Bool.false_eq_true, Bool.not_true, Bool.not_false, wp_fd0, wp_fd1, mulT_i, mulT_l, wp_lrng, wp_revM, maxT_ii, wps_par3, wp_eq (q_from0 ha), wp_eq (q_from0 hb), wp_eq (q_from hc), pkB]
    cases i0 a <;> cases i0 b <;> simp only [wp_ok, wpo_some, wp_bind, wp_ofE, rd_d, wp_pureD, wp_mD, wp_m1, wp_m2, wp_mB, wp_nil, wp_cons, wp_tup, wp_lst, wp_lstM, wp_ix, wp_sl, wp_oN, wp_call, wp_callK, wp_ifV, wp_tst, wp_tAnd, wp_tOr, wp_tNot, wps_nil, wps_brk, wps_cnt, wps_seq, wps_ret, wps_retN, wps_exp, wps_if, wps_asg, gnm, wps_for, wp_fnS, wp_fnK, ret_d, ret_lst, keep_refl, keep_app, startE, List.map_cons, List.map_nil, List.replicate_succ, List.replicate_zero, List.cons_append, List.nil_append, List.length_cons, List.length_nil, List.getElem?_cons_zero, List.getElem?_cons_succ, List.set_cons_zero, List.set_cons_succ, Option.bind_some, Nat.reduceAdd, Nat.reduceSub, List.take_length, List.take_left, true_and, and_true, wp_var0, wp_varS, at0, at1, at2, add_ii, add_tt, add_ll, sub_ii, lt_ii, le_ii, gt_ii, ge_ii, neg_i, eq_ii, ne_ii, eq_ss, ne_ss, tr_bl, tr_i, tr_t, tr_l, wp_ixt, wp_ixl, wp_oS, sl_t, sl_l, sl_s, rds_nil, rds_d, omap_some, fzs_nil, fzs_d, fzW_d, wp_andV, wp_orV, wp_notV, wp_iSeq, its_t, its_l, wp_iEnum, en_t, en_l, wp_iZip, seq_t, seq_l, gtu, gscons, gsnil, wps_dput, wp_m0, wp_mm1, wps_par2, wp_yes, wipe0, wipeS, implies_true, forall_const, if_true, if_false, Bool.false_eq_true, Bool.not_true, Bool.not_false, wp_fd0, wp_fd1, mulT_i, mulT_l, wp_lrng, wp_revM, maxT_ii, wps_par3, Bool.true_and, Bool.false_and]
  · simp only [Bool.not_eq_true] at ht
    rw [ht, pkB_n ht])
theorem mom_at {x : D} (h : pkB x = true) : ∃ xs, x = .tup xs ∧ atI xs 0 = some (.int (mom x)) ∧ atI xs 1 = some (.int (flw x)) := by
  obtain ⟨a, b, c, rfl, _⟩ := pkB_un h
  exact ⟨_, rfl, at0, at1⟩
theorem wp_mom {w : W → LH → Prop} (h : pkB x = true) : Wp (ixW L (.d x) (.d (.int 0))) w = w (.d (.int (mom x))) L := by
  obtain ⟨xs, rfl, h1, h2⟩ := mom_at h
  rw [wp_ixt, h1, wpo_some]
theorem wp_flw {w : W → LH → Prop} (h : pkB x = true) : Wp (ixW L (.d x) (.d (.int 1))) w = w (.d (.int (flw x))) L := by
  obtain ⟨xs, rfl, h1, h2⟩ := mom_at h
  rw [wp_ixt, h2, wpo_some]
theorem q_arr (h : gd (some G.cLine) x = true) : s_are_arrivals G [.d x] L = .ok (.d (.bl (aaB x))) L := Wp.eq (by
  simp only [s_are_arrivals, b_are_arrivals, wp_ok, wpo_some, wp_bind, wp_ofE, rd_d, wp_pureD, wp_mD, wp_m1, wp_m2, wp_mB, wp_nil, wp_cons, wp_tup, wp_lst, wp_lstM, wp_ix, wp_sl, wp_oN, wp_call, wp_callK, wp_ifV, wp_tst, wp_tAnd, wp_tOr, wp_tNot, wps_nil, wps_brk, wps_cnt, wps_seq, wps_ret, wps_retN, wps_exp, wps_if, wps_asg, gnm, wps_for, wp_fnS, wp_fnK, ret_d, ret_lst, keep_refl, keep_app, startE, List.map_cons, List.map_nil, List.replicate_succ, List.replicate_zero, List.cons_append, List.nil_append, List.length_cons, List.length_nil, List.getElem?_cons_zero, List.getElem?_cons_succ, List.set_cons_zero, List.set_cons_succ, Option.bind_some, Nat.reduceAdd, Nat.reduceSub, List.take_length, List.take_left, true_and, and_true, wp_var0, wp_varS, at0, at1, at2, add_ii, add_tt, add_ll, sub_ii, lt_ii, le_ii, gt_ii, ge_ii, neg_i, eq_ii, ne_ii, eq_ss, ne_ss, tr_bl, tr_i, tr_t, tr_l, wp_ixt, wp_ixl, wp_oS, sl_t, sl_l, sl_s, rds_nil, rds_d, omap_some, fzs_nil, fzs_d, fzW_d, wp_andV, wp_orV, wp_notV, wp_iSeq, its_t, its_l, wp_iEnum, en_t, en_l, wp_iZip, seq_t, seq_l, gtu, gscons, gsnil, wps_dput, wp_m0, wp_mm1, wps_par2, wp_yes, wipe0, wipeS, implies_true, forall_const, if_true, if_false, Bool.false_eq_true, Bool.not_true, Bool.not_false, wp_fd0, wp_fd1, mulT_i, mulT_l, wp_lrng, wp_revM, maxT_ii, wps_par3, isi_tup (gd_kn h)]
  by_cases ht : isTup x = true
  · obtain ⟨xs, rfl⟩ := isT_un ht
    obtain ⟨hz, hg⟩ := gd_tup h
    rw [ht, if_neg (by decide)]
    refine wp_lcB id xs (fun y => .bl (pkB y)) ?_ fun c hc M => by simp only [wp_ok, wpo_some, wp_bind, wp_ofE, rd_d, wp_pureD, wp_mD, wp_m1, wp_m2, wp_mB, wp_nil, wp_cons, wp_tup, wp_lst, wp_lstM, wp_ix, wp_sl, wp_oN, wp_call, wp_callK, wp_ifV, wp_tst, wp_tAnd, wp_tOr, wp_tNot, wps_nil, wps_brk, wps_cnt, wps_seq, wps_ret, wps_retN, wps_exp, wps_if, wps_asg, gnm, wps_for, wp_fnS, wp_fnK, ret_d, ret_lst, keep_refl, keep_app, startE, List.map_cons, List.map_nil, List.replicate_succ, List.replicate_zero, List.cons_append, List.nil_append, List.length_cons, List.length_nil, List.getElem?_cons_zero, List.getElem?_cons_succ, List.set_cons_zero, List.set_cons_succ, Option.bind_some, Nat.reduceAdd, Nat.reduceSub, List.take_length, List.take_left, true_and, and_true, wp_var0, wp_varS, at0, at1, at2, add_ii, add_tt, add_ll, sub_ii, lt_ii, le_ii, gt_ii, ge_ii, neg_i, eq_ii, ne_ii, eq_ss, ne_ss, tr_bl, tr_i, tr_t, tr_l, wp_ixt, wp_ixl, wp_oS, sl_t, sl_l, sl_s, rds_nil, rds_d, omap_some, fzs_nil, fzs_d, fzW_d, wp_andV, wp_orV, wp_notV, wp_iSeq, its_t, its_l, wp_iEnum, en_t, en_l, wp_iZip, seq_t, seq_l, gtu, gscons, gsnil, wps_dput, wp_m0, wp_mm1, wps_par2, wp_yes, wipe0, wipeS, implies_true, forall_const, if_true, if_false, Bool.false_eq_true, Bool.not_true, Bool.not_false, wp_fd0, wp_fd1, mulT_i, mulT_l, wp_lrng, wp_revM, maxT_ii, wps_par3, id, wp_eq (q_pk (hg c hc))]
    simp only [wp_ok, wpo_some, wp_bind, wp_ofE, rd_d, wp_pureD, wp_mD, wp_m1, wp_m2, wp_mB, wp_nil, wp_cons, wp_tup, wp_lst, wp_lstM, wp_ix, wp_sl, wp_oN, wp_call, wp_callK, wp_ifV, wp_tst, wp_tAnd, wp_tOr, wp_tNot, wps_nil, wps_brk, wps_cnt, wps_seq, wps_ret, wps_retN, wps_exp, wps_if, wps_asg, gnm, wps_for, wp_fnS, wp_fnK, ret_d, ret_lst, keep_refl, keep_app, startE, List.map_cons, List.map_nil, List.replicate_succ, List.replicate_zero, List.cons_append, List.nil_append, List.length_cons, List.length_nil, List.getElem?_cons_zero, List.getElem?_cons_succ, List.set_cons_zero, List.set_cons_succ, Option.bind_some, Nat.reduceAdd, Nat.reduceSub, List.take_length, List.take_left, true_and, and_true, wp_var0, wp_varS, at0, at1, at2, add_ii, add_tt, add_ll, sub_ii, lt_ii, le_ii, gt_ii, ge_ii, neg_i, eq_ii, ne_ii, eq_ss, ne_ss, tr_bl, tr_i, tr_t, tr_l, wp_ixt, wp_ixl, wp_oS, sl_t, sl_l, sl_s, rds_nil, rds_d, omap_some, fzs_nil, fzs_d, fzW_d, wp_andV, wp_orV, wp_notV, wp_iSeq, its_t, its_l, wp_iEnum, en_t, en_l, wp_iZip, seq_t, seq_l, gtu, gscons, gsnil, wps_dput, wp_m0, wp_mm1, wps_par2, wp_yes, wipe0, wipeS, implies_true, forall_const, if_true, if_false, Bool.false_eq_true, Bool.not_true, Bool.not_false, wp_fd0, wp_fd1, mulT_i, mulT_l, wp_lrng, wp_revM, maxT_ii, wps_par3, List.map_id, all_map]
    refine ⟨hz, ?_⟩
    have e : aaB (.tup xs) = (xs.all pkB && asc xs) := rfl
    rw [e]
    cases ha : xs.all pkB
    · rw [if_pos (by decide)]
      rfl
    · rw [if_neg (by decide)]
      have hp := List.all_eq_true.mp ha
      have e2 : cutD xs (some 1) none = xs.drop 1 := cut_suf (k := 1)
      refine wp_lcB (fun p : D × D => .tup [p.1, p.2]) (xs.zip (xs.drop 1)) (fun p => .bl (decide (mom p.1 ≤ mom p.2))) ?_ fun c hc M => ?_
      · simp only [wp_ok, wpo_some, wp_bind, wp_ofE, rd_d, wp_pureD, wp_mD, wp_m1, wp_m2, wp_mB, wp_nil, wp_cons, wp_tup, wp_lst, wp_lstM, wp_ix, wp_sl, wp_oN, wp_call, wp_callK, wp_ifV, wp_tst, wp_tAnd, wp_tOr, wp_tNot, wps_nil, wps_brk, wps_cnt, wps_seq, wps_ret, wps_retN, wps_exp, wps_if, wps_asg, gnm, wps_for, wp_fnS, wp_fnK, ret_d, ret_lst, keep_refl, keep_app, startE, List.map_cons, List.map_nil, List.replicate_succ, List.replicate_zero, List.cons_append, List.nil_append, List.length_cons, List.length_nil, List.getElem?_cons_zero, List.getElem?_cons_succ, List.set_cons_zero, List.set_cons_succ, Option.bind_some, Nat.reduceAdd, Nat.reduceSub, List.take_length, List.take_left, true_and, and_true, wp_var0, wp_varS, at0, at1, at2, add_ii, add_tt, add_ll, sub_ii, lt_ii, le_ii, gt_ii, ge_ii, neg_i, eq_ii, ne_ii, eq_ss, ne_ss, tr_bl, tr_i, tr_t, tr_l, wp_ixt, wp_ixl, wp_oS, sl_t, sl_l, sl_s, rds_nil, rds_d, omap_some, fzs_nil, fzs_d, fzW_d, wp_andV, wp_orV, wp_notV, wp_iSeq, its_t, its_l, wp_iEnum, en_t, en_l, wp_iZip, seq_t, seq_l, gtu, gscons, gsnil, wps_dput, wp_m0, wp_mm1, wps_par2, wp_yes, wipe0, wipeS, implies_true, forall_const, if_true, if_false, Bool.false_eq_true, Bool.not_true, Bool.not_false, wp_fd0, wp_fd1, mulT_i, mulT_l, wp_lrng, wp_revM, maxT_ii, wps_par3, e2, zip_pair, all_map, Bool.true_and]
        refine ⟨?_, rfl⟩
        have := List.length_zip (l₁ := xs) (l₂ := xs.drop 1)
        omega
      · obtain ⟨h1, h2⟩ := List.of_mem_zip hc
        simp only [wp_ok, wpo_some, wp_bind, wp_ofE, rd_d, wp_pureD, wp_mD, wp_m1, wp_m2, wp_mB, wp_nil, wp_cons, wp_tup, wp_lst, wp_lstM, wp_ix, wp_sl, wp_oN, wp_call, wp_callK, wp_ifV, wp_tst, wp_tAnd, wp_tOr, wp_tNot, wps_nil, wps_brk, wps_cnt, wps_seq, wps_ret, wps_retN, wps_exp, wps_if, wps_asg, gnm, wps_for, wp_fnS, wp_fnK, ret_d, ret_lst, keep_refl, keep_app, startE, List.map_cons, List.map_nil, List.replicate_succ, List.replicate_zero, List.cons_append, List.nil_append, List.length_cons, List.length_nil, List.getElem?_cons_zero, List.getElem?_cons_succ, List.set_cons_zero, List.set_cons_succ, Option.bind_some, Nat.reduceAdd, Nat.reduceSub, List.take_length, List.take_left, true_and, and_true, wp_var0, wp_varS, at0, at1, at2, add_ii, add_tt, add_ll, sub_ii, lt_ii, le_ii, gt_ii, ge_ii, neg_i, eq_ii, ne_ii, eq_ss, ne_ss, tr_bl, tr_i, tr_t, tr_l, wp_ixt, wp_ixl, wp_oS, sl_t, sl_l, sl_s, rds_nil, rds_d, omap_some, fzs_nil, fzs_d, fzW_d, wp_andV, wp_orV, wp_notV, wp_iSeq, its_t, its_l, wp_iEnum, en_t, en_l, wp_iZip, seq_t, seq_l, gtu, gscons, gsnil, wps_dput, wp_m0, wp_mm1, wps_par2, wp_yes, wipe0, wipeS, implies_true, forall_const, if_true, if_false, Bool.false_eq_true, Bool.not_true, Bool.not_false, wp_fd0, wp_fd1, mulT_i, mulT_l, wp_lrng, wp_revM, maxT_ii, wps_par3, wp_mom (hp _ h1), wp_mom (hp _ (List.mem_of_mem_drop h2))]
  · simp only [Bool.not_eq_true] at ht
    rw [ht]
    have : aaB x = false := by cases x <;> first | rfl | simp [isTup] at ht
    rw [this]
    simp)
theorem q_av {ws : List D} (h : gd (some G.cLine) x = true) : s_is_arrivals_value G [.d (.tup ws), .d x] L = .ok (.d (.bl (arB ws.length x))) L := Wp.eq (by
  simp only [s_is_arrivals_value, b_is_arrivals_value, wp_ok, wpo_some, wp_bind, wp_ofE, rd_d, wp_pureD, wp_mD, wp_m1, wp_m2, wp_mB, wp_nil, wp_cons, wp_tup, wp_lst, wp_lstM, wp_ix, wp_sl, wp_oN, wp_call, wp_callK, wp_ifV, wp_tst, wp_tAnd, wp_tOr, wp_tNot, wps_nil, wps_brk, wps_cnt, wps_seq, wps_ret, wps_retN, wps_exp, wps_if, wps_asg, gnm, wps_for, wp_fnS, wp_fnK, ret_d, ret_lst, keep_refl, keep_app, startE, List.map_cons, List.map_nil, List.replicate_succ, List.replicate_zero, List.cons_append, List.nil_append, List.length_cons, List.length_nil, List.getElem?_cons_zero, List.getElem?_cons_succ, List.set_cons_zero, List.set_cons_succ, Option.bind_some, Nat.reduceAdd, Nat.reduceSub, List.take_length, List.take_left, true_and, and_true, wp_var0, wp_varS, at0, at1, at2, add_ii, add_tt, add_ll, sub_ii, lt_ii, le_ii, gt_ii, ge_ii, neg_i, eq_ii, ne_ii, eq_ss, ne_ss, tr_bl, tr_i, tr_t, tr_l, wp_ixt, wp_ixl, wp_oS, sl_t, sl_l, sl_s, rds_nil, rds_d, omap_some, fzs_nil, fzs_d, fzW_d, wp_andV, wp_orV, wp_notV, wp_iSeq, its_t, its_l, wp_iEnum, en_t, en_l, wp_iZip, seq_t, seq_l, gtu, gscons, gsnil, wps_dput, wp_m0, wp_mm1, wps_par2, wp_yes, wipe0, wipeS, implies_true, forall_const, if_true, if_false, Bool.false_eq_true, Bool.not_true, Bool.not_false, wp_fd0, wp_fd1, mulT_i, mulT_l, wp_lrng, wp_revM, maxT_ii, wps_par3, wp_eq (q_arr h)]
  unfold arB
  cases ha : aaB x
  · rfl
  · obtain ⟨xs, rfl, hp⟩ := aaB_un ha
    obtain ⟨hz, hg⟩ := gd_tup h
    simp only [wp_ok, wpo_some, wp_bind, wp_ofE, rd_d, wp_pureD, wp_mD, wp_m1, wp_m2, wp_mB, wp_nil, wp_cons, wp_tup, wp_lst, wp_lstM, wp_ix, wp_sl, wp_oN, wp_call, wp_callK, wp_ifV, wp_tst, wp_tAnd, wp_tOr, wp_tNot, wps_nil, wps_brk, wps_cnt, wps_seq, wps_ret, wps_retN, wps_exp, wps_if, wps_asg, gnm, wps_for, wp_fnS, wp_fnK, ret_d, ret_lst, keep_refl, keep_app, startE, List.map_cons, List.map_nil, List.replicate_succ, List.replicate_zero, List.cons_append, List.nil_append, List.length_cons, List.length_nil, List.getElem?_cons_zero, List.getElem?_cons_succ, List.set_cons_zero, List.set_cons_succ, Option.bind_some, Nat.reduceAdd, Nat.reduceSub, List.take_length, List.take_left, true_and, and_true, wp_var0, wp_varS, at0, at1, at2, add_ii, add_tt, add_ll, sub_ii, lt_ii, le_ii, gt_ii, ge_ii, neg_i, eq_ii, ne_ii, eq_ss, ne_ss, tr_bl, tr_i, tr_t, tr_l, wp_ixt, wp_ixl, wp_oS, sl_t, sl_l, sl_s, rds_nil, rds_d, omap_some, fzs_nil, fzs_d, fzW_d, wp_andV, wp_orV, wp_notV, wp_iSeq, its_t, its_l, wp_iEnum, en_t, en_l, wp_iZip, seq_t, seq_l, gtu, gscons, gsnil, wps_dput, wp_m0, wp_mm1, wps_par2, wp_yes, wipe0, wipeS, implies_true, forall_const, if_true, if_false, Bool.false_eq_true, Bool.not_true, Bool.not_false, wp_fd0, wp_fd1, mulT_i, mulT_l, wp_lrng, wp_revM, maxT_ii, wps_par3]
    refine wp_lcB id xs (fun p => .bl (decide (flw p < (ws.length : Int)))) ?_ fun c hc M => by simp only [wp_ok, wpo_some, wp_bind, wp_ofE, rd_d, wp_pureD, wp_mD, wp_m1, wp_m2, wp_mB, wp_nil, wp_cons, wp_tup, wp_lst, wp_lstM, wp_ix, wp_sl, wp_oN, wp_call, wp_callK, wp_ifV, wp_tst, wp_tAnd, wp_tOr, wp_tNot, wps_nil, wps_brk, wps_cnt, wps_seq, wps_ret, wps_retN, wps_exp, wps_if, wps_asg, gnm, wps_for, wp_fnS, wp_fnK, ret_d, ret_lst, keep_refl, keep_app, startE, List.map_cons, List.map_nil, List.replicate_succ, List.replicate_zero, List.cons_append, List.nil_append, List.length_cons, List.length_nil, List.getElem?_cons_zero, List.getElem?_cons_succ, List.set_cons_zero, List.set_cons_succ, Option.bind_some, Nat.reduceAdd, Nat.reduceSub, List.take_length, List.take_left, true_and, and_true, wp_var0, wp_varS, at0, at1, at2, add_ii, add_tt, add_ll, sub_ii, lt_ii, le_ii, gt_ii, ge_ii, neg_i, eq_ii, ne_ii, eq_ss, ne_ss, tr_bl, tr_i, tr_t, tr_l, wp_ixt, wp_ixl, wp_oS, sl_t, sl_l, sl_s, rds_nil, rds_d, omap_some, fzs_nil, fzs_d, fzW_d, wp_andV, wp_orV, wp_notV, wp_iSeq, its_t, its_l, wp_iEnum, en_t, en_l, wp_iZip, seq_t, seq_l, gtu, gscons, gsnil, wps_dput, wp_m0, wp_mm1, wps_par2, wp_yes, wipe0, wipeS, implies_true, forall_const, if_true, if_false, Bool.false_eq_true, Bool.not_true, Bool.not_false, wp_fd0, wp_fd1, mulT_i, mulT_l, wp_lrng, wp_revM, maxT_ii, wps_par3, id, wp_flw (hp c hc), lenD_t]
    simp only [wp_ok, wpo_some, wp_bind, wp_ofE, rd_d, wp_pureD, wp_mD, wp_m1, wp_m2, wp_mB, wp_nil, wp_cons, wp_tup, wp_lst, wp_lstM, wp_ix, wp_sl, wp_oN, wp_call, wp_callK, wp_ifV, wp_tst, wp_tAnd, wp_tOr, wp_tNot, wps_nil, wps_brk, wps_cnt, wps_seq, wps_ret, wps_retN, wps_exp, wps_if, wps_asg, gnm, wps_for, wp_fnS, wp_fnK, ret_d, ret_lst, keep_refl, keep_app, startE, List.map_cons, List.map_nil, List.replicate_succ, List.replicate_zero, List.cons_append, List.nil_append, List.length_cons, List.length_nil, List.getElem?_cons_zero, List.getElem?_cons_succ, List.set_cons_zero, List.set_cons_succ, Option.bind_some, Nat.reduceAdd, Nat.reduceSub, List.take_length, List.take_left, true_and, and_true, wp_var0, wp_varS, at0, at1, at2, add_ii, add_tt, add_ll, sub_ii, lt_ii, le_ii, gt_ii, ge_ii, neg_i, eq_ii, ne_ii, eq_ss, ne_ss, tr_bl, tr_i, tr_t, tr_l, wp_ixt, wp_ixl, wp_oS, sl_t, sl_l, sl_s, rds_nil, rds_d, omap_some, fzs_nil, fzs_d, fzW_d, wp_andV, wp_orV, wp_notV, wp_iSeq, its_t, its_l, wp_iEnum, en_t, en_l, wp_iZip, seq_t, seq_l, gtu, gscons, gsnil, wps_dput, wp_m0, wp_mm1, wps_par2, wp_yes, wipe0, wipeS, implies_true, forall_const, if_true, if_false, Bool.false_eq_true, Bool.not_true, Bool.not_false, wp_fd0, wp_fd1, mulT_i, mulT_l, wp_lrng, wp_revM, maxT_ii, wps_par3, List.map_id, all_map, ts, Bool.true_and]
    exact hz)
theorem lnB_n (h : tN 2 x = false) : lnB x = false := by
  unfold lnB
  split
  · simp [tN] at h
  · rfl
theorem q_ln (h : gd (some G.cLine) x = true) : s_is_line G [.d x] L = .ok (.d (.bl (lnB x))) L := Wp.eq (by
  simp only [s_is_line, b_is_line, wp_ok, wpo_some, wp_bind, wp_ofE, rd_d, wp_pureD, wp_mD, wp_m1, wp_m2, wp_mB, wp_nil, wp_cons, wp_tup, wp_lst, wp_lstM, wp_ix, wp_sl, wp_oN, wp_call, wp_callK, wp_ifV, wp_tst, wp_tAnd, wp_tOr, wp_tNot, wps_nil, wps_brk, wps_cnt, wps_seq, wps_ret, wps_retN, wps_exp, wps_if, wps_asg, gnm, wps_for, wp_fnS, wp_fnK, ret_d, ret_lst, keep_refl, keep_app, startE, List.map_cons, List.map_nil, List.replicate_succ, List.replicate_zero, List.cons_append, List.nil_append, List.length_cons, List.length_nil, List.getElem?_cons_zero, List.getElem?_cons_succ, List.set_cons_zero, List.set_cons_succ, Option.bind_some, Nat.reduceAdd, Nat.reduceSub, List.take_length, List.take_left, true_and, and_true, wp_var0, wp_varS, at0, at1, at2, add_ii, add_tt, add_ll, sub_ii, lt_ii, le_ii, gt_ii, ge_ii, neg_i, eq_ii, ne_ii, eq_ss, ne_ss, tr_bl, tr_i, tr_t, tr_l, wp_ixt, wp_ixl, wp_oS, sl_t, sl_l, sl_s, rds_nil, rds_d, omap_some, fzs_nil, fzs_d, fzW_d, wp_andV, wp_orV, wp_notV, wp_iSeq, its_t, its_l, wp_iEnum, en_t, en_l, wp_iZip, seq_t, seq_l, gtu, gscons, gsnil, wps_dput, wp_m0, wp_mm1, wps_par2, wp_yes, wipe0, wipeS, implies_true, forall_const, if_true, if_false, Bool.false_eq_true, Bool.not_true, Bool.not_false, wp_fd0, wp_fd1, mulT_i, mulT_l, wp_lrng, wp_revM, maxT_ii, wps_par3, wp_eq (q_tupN (n := 2) (m := 2) rfl (gd_kn h))]
  by_cases ht : tN 2 x = true
  · obtain ⟨a, b, rfl⟩ := t2_un ht
    obtain ⟨_, hg⟩ := gd_tup h
    have ha := hg a (by simp)
    have hb := hg b (by simp)
    rw [ht, if_neg (by decide)]
    simp only [wp_ok, wpo_some, wp_bind, wp_ofE, rd_d, wp_pureD, wp_mD, wp_m1, wp_m2, wp_mB, wp_nil, wp_cons, wp_tup, wp_lst, wp_lstM, wp_ix, wp_sl, wp_oN, wp_call, wp_callK, wp_ifV, wp_tst, wp_tAnd, wp_tOr, wp_tNot, wps_nil, wps_brk, wps_cnt, wps_seq, wps_ret, wps_retN, wps_exp, wps_if, wps_asg, gnm, wps_for, wp_fnS, wp_fnK, ret_d, ret_lst, keep_refl, keep_app, startE, List.map_cons, List.map_nil, List.replicate_succ, List.replicate_zero, List.cons_append, List.nil_append, List.length_cons, List.length_nil, List.getElem?_cons_zero, List.getElem?_cons_succ, List.set_cons_zero, List.set_cons_succ, Option.bind_some, Nat.reduceAdd, Nat.reduceSub, List.take_length, List.take_left, true_and, and_true, wp_var0, wp_varS, at0, at1, at2, add_ii, add_tt, add_ll, sub_ii, lt_ii, le_ii, gt_ii, ge_ii, neg_i, eq_ii, ne_ii, eq_ss, ne_ss, tr_bl, tr_i, tr_t, tr_l, wp_ixt, wp_ixl, wp_oS, sl_t, sl_l, sl_s, rds_nil, rds_d, omap_some, fzs_nil, fzs_d, fzW_d, wp_andV, wp_orV, wp_notV, wp_iSeq, its_t, its_l, wp_iEnum, en_t, en_l, wp_iZip, seq_t, seq_l, gtu, gscons, gsnil, wps_dput, wp_m0, wp_mm1, wps_par2, wp_yes, wipe0, wipeS, implies_true, forall_const, if_true, if_false, Bool.false_eq_true, Bool.not_true, Bool.not_false, wp_fd0, wp_fd1, mulT_i, mulT_l, wp_lrng, wp_revM, maxT_ii, wps_par3, wp_eq (q_wb ha), lnB]
    cases hw : wB a
    · rw [if_pos (by decide)]
      rfl
    · rw [if_neg (by decide)]
      obtain ⟨ns, rfl, hne, _⟩ := wB_un hw
      simp only [wp_ok, wpo_some, wp_bind, wp_ofE, rd_d, wp_pureD, wp_mD, wp_m1, wp_m2, wp_mB, wp_nil, wp_cons, wp_tup, wp_lst, wp_lstM, wp_ix, wp_sl, wp_oN, wp_call, wp_callK, wp_ifV, wp_tst, wp_tAnd, wp_tOr, wp_tNot, wps_nil, wps_brk, wps_cnt, wps_seq, wps_ret, wps_retN, wps_exp, wps_if, wps_asg, gnm, wps_for, wp_fnS, wp_fnK, ret_d, ret_lst, keep_refl, keep_app, startE, List.map_cons, List.map_nil, List.replicate_succ, List.replicate_zero, List.cons_append, List.nil_append, List.length_cons, List.length_nil, List.getElem?_cons_zero, List.getElem?_cons_succ, List.set_cons_zero, List.set_cons_succ, Option.bind_some, Nat.reduceAdd, Nat.reduceSub, List.take_length, List.take_left, true_and, and_true, wp_var0, wp_varS, at0, at1, at2, add_ii, add_tt, add_ll, sub_ii, lt_ii, le_ii, gt_ii, ge_ii, neg_i, eq_ii, ne_ii, eq_ss, ne_ss, tr_bl, tr_i, tr_t, tr_l, wp_ixt, wp_ixl, wp_oS, sl_t, sl_l, sl_s, rds_nil, rds_d, omap_some, fzs_nil, fzs_d, fzW_d, wp_andV, wp_orV, wp_notV, wp_iSeq, its_t, its_l, wp_iEnum, en_t, en_l, wp_iZip, seq_t, seq_l, gtu, gscons, gsnil, wps_dput, wp_m0, wp_mm1, wps_par2, wp_yes, wipe0, wipeS, implies_true, forall_const, if_true, if_false, Bool.false_eq_true, Bool.not_true, Bool.not_false, wp_fd0, wp_fd1, mulT_i, mulT_l, wp_lrng, wp_revM, maxT_ii, wps_par3, wp_eq (q_av hb), ts]
      cases har : arB (ns.map D.int).length b
      · rw [if_pos (by decide)]
        rfl
      · rw [if_neg (by decide)]
        have hab : aaB b = true := by
          simp only [arB, Bool.and_eq_true] at har
          exact har.1
        obtain ⟨xs, rfl, hp⟩ := aaB_un hab
        obtain ⟨hz, _⟩ := gd_tup hb
        refine wp_lcB id xs (fun p => .bl (!decide (flw p = 0))) ?_ fun c hc M => ?_
        · simp only [wp_ok, wpo_some, wp_bind, wp_ofE, rd_d, wp_pureD, wp_mD, wp_m1, wp_m2, wp_mB, wp_nil, wp_cons, wp_tup, wp_lst, wp_lstM, wp_ix, wp_sl, wp_oN, wp_call, wp_callK, wp_ifV, wp_tst, wp_tAnd, wp_tOr, wp_tNot, wps_nil, wps_brk, wps_cnt, wps_seq, wps_ret, wps_retN, wps_exp, wps_if, wps_asg, gnm, wps_for, wp_fnS, wp_fnK, ret_d, ret_lst, keep_refl, keep_app, startE, List.map_cons, List.map_nil, List.replicate_succ, List.replicate_zero, List.cons_append, List.nil_append, List.length_cons, List.length_nil, List.getElem?_cons_zero, List.getElem?_cons_succ, List.set_cons_zero, List.set_cons_succ, Option.bind_some, Nat.reduceAdd, Nat.reduceSub, List.take_length, List.take_left, true_and, and_true, wp_var0, wp_varS, at0, at1, at2, add_ii, add_tt, add_ll, sub_ii, lt_ii, le_ii, gt_ii, ge_ii, neg_i, eq_ii, ne_ii, eq_ss, ne_ss, tr_bl, tr_i, tr_t, tr_l, wp_ixt, wp_ixl, wp_oS, sl_t, sl_l, sl_s, rds_nil, rds_d, omap_some, fzs_nil, fzs_d, fzW_d, wp_andV, wp_orV, wp_notV, wp_iSeq, its_t, its_l, wp_iEnum, en_t, en_l, wp_iZip, seq_t, seq_l, gtu, gscons, gsnil, wps_dput, wp_m0, wp_mm1, wps_par2, wp_yes, wipe0, wipeS, implies_true, forall_const, if_true, if_false, Bool.false_eq_true, Bool.not_true, Bool.not_false, wp_fd0, wp_fd1, mulT_i, mulT_l, wp_lrng, wp_revM, maxT_ii, wps_par3, List.map_id, all_map, ts, Bool.true_and]
          exact hz
        · obtain ⟨m, f, l, rfl, _⟩ := pkB_un (hp c hc)
          simp only [wp_ok, wpo_some, wp_bind, wp_ofE, rd_d, wp_pureD, wp_mD, wp_m1, wp_m2, wp_mB, wp_nil, wp_cons, wp_tup, wp_lst, wp_lstM, wp_ix, wp_sl, wp_oN, wp_call, wp_callK, wp_ifV, wp_tst, wp_tAnd, wp_tOr, wp_tNot, wps_nil, wps_brk, wps_cnt, wps_seq, wps_ret, wps_retN, wps_exp, wps_if, wps_asg, gnm, wps_for, wp_fnS, wp_fnK, ret_d, ret_lst, keep_refl, keep_app, startE, List.map_cons, List.map_nil, List.replicate_succ, List.replicate_zero, List.cons_append, List.nil_append, List.length_cons, List.length_nil, List.getElem?_cons_zero, List.getElem?_cons_succ, List.set_cons_zero, List.set_cons_succ, Option.bind_some, Nat.reduceAdd, Nat.reduceSub, List.take_length, List.take_left, true_and, and_true, wp_var0, wp_varS, at0, at1, at2, add_ii, add_tt, add_ll, sub_ii, lt_ii, le_ii, gt_ii, ge_ii, neg_i, eq_ii, ne_ii, eq_ss, ne_ss, tr_bl, tr_i, tr_t, tr_l, wp_ixt, wp_ixl, wp_oS, sl_t, sl_l, sl_s, rds_nil, rds_d, omap_some, fzs_nil, fzs_d, fzW_d, wp_andV, wp_orV, wp_notV, wp_iSeq, its_t, its_l, wp_iEnum, en_t, en_l, wp_iZip, seq_t, seq_l, gtu, gscons, gsnil, wps_dput, wp_m0, wp_mm1, wps_par2, wp_yes, wipe0, wipeS, implies_true, forall_const, if_true, if_false, Bool.false_eq_true, Bool.not_true, Bool.not_false, wp_fd0, wp_fd1, mulT_i, mulT_l, wp_lrng, wp_revM, maxT_ii, wps_par3, id, flw]
          rfl
  · simp only [Bool.not_eq_true] at ht
    rw [ht, if_pos (by decide), lnB_n ht])
theorem q_row (h : gd (some G.cLine) x = true) : s_is_row G [.d x] L = .ok (.d (.bl (rowB x))) L := Wp.eq (by
  simp only [s_is_row, b_is_row, wp_ok, wpo_some, wp_bind, wp_ofE, rd_d, wp_pureD, wp_mD, wp_m1, wp_m2, wp_mB, wp_nil, wp_cons, wp_tup, wp_lst, wp_lstM, wp_ix, wp_sl, wp_oN, wp_call, wp_callK, wp_ifV, wp_tst, wp_tAnd, wp_tOr, wp_tNot, wps_nil, wps_brk, wps_cnt, wps_seq, wps_ret, wps_retN, wps_exp, wps_if, wps_asg, gnm, wps_for, wp_fnS, wp_fnK, ret_d, ret_lst, keep_refl, keep_app, startE, List.map_cons, List.map_nil, List.replicate_succ, List.replicate_zero, List.cons_append, List.nil_append, List.length_cons, List.length_nil, List.getElem?_cons_zero, List.getElem?_cons_succ, List.set_cons_zero, List.set_cons_succ, Option.bind_some, Nat.reduceAdd, Nat.reduceSub, List.take_length, List.take_left, true_and, and_true, wp_var0, wp_varS, at0, at1, at2, add_ii, add_tt, add_ll, sub_ii, lt_ii, le_ii, gt_ii, ge_ii, neg_i, eq_ii, ne_ii, eq_ss, ne_ss, tr_bl, tr_i, tr_t, tr_l, wp_ixt, wp_ixl, wp_oS, sl_t, sl_l, sl_s, rds_nil, rds_d, omap_some, fzs_nil, fzs_d, fzW_d, wp_andV, wp_orV, wp_notV, wp_iSeq, its_t, its_l, wp_iEnum, en_t, en_l, wp_iZip, seq_t, seq_l, gtu, gscons, gsnil, wps_dput, wp_m0, wp_mm1, wps_par2, wp_yes, wipe0, wipeS, implies_true, forall_const, if_true, if_false, Bool.false_eq_true, Bool.not_true, Bool.not_false, wp_fd0, wp_fd1, mulT_i, mulT_l, wp_lrng, wp_revM, maxT_ii, wps_par3, isi_tup (gd_kn h)]
  by_cases ht : isTup x = true
  · obtain ⟨xs, rfl⟩ := isT_un ht
    obtain ⟨hz, hg⟩ := gd_tup h
    rw [ht]
    simp only [wp_ok, wpo_some, wp_bind, wp_ofE, rd_d, wp_pureD, wp_mD, wp_m1, wp_m2, wp_mB, wp_nil, wp_cons, wp_tup, wp_lst, wp_lstM, wp_ix, wp_sl, wp_oN, wp_call, wp_callK, wp_ifV, wp_tst, wp_tAnd, wp_tOr, wp_tNot, wps_nil, wps_brk, wps_cnt, wps_seq, wps_ret, wps_retN, wps_exp, wps_if, wps_asg, gnm, wps_for, wp_fnS, wp_fnK, ret_d, ret_lst, keep_refl, keep_app, startE, List.map_cons, List.map_nil, List.replicate_succ, List.replicate_zero, List.cons_append, List.nil_append, List.length_cons, List.length_nil, List.getElem?_cons_zero, List.getElem?_cons_succ, List.set_cons_zero, List.set_cons_succ, Option.bind_some, Nat.reduceAdd, Nat.reduceSub, List.take_length, List.take_left, true_and, and_true, wp_var0, wp_varS, at0, at1, at2, add_ii, add_tt, add_ll, sub_ii, lt_ii, le_ii, gt_ii, ge_ii, neg_i, eq_ii, ne_ii, eq_ss, ne_ss, tr_bl, tr_i, tr_t, tr_l, wp_ixt, wp_ixl, wp_oS, sl_t, sl_l, sl_s, rds_nil, rds_d, omap_some, fzs_nil, fzs_d, fzW_d, wp_andV, wp_orV, wp_notV, wp_iSeq, its_t, its_l, wp_iEnum, en_t, en_l, wp_iZip, seq_t, seq_l, gtu, gscons, gsnil, wps_dput, wp_m0, wp_mm1, wps_par2, wp_yes, wipe0, wipeS, implies_true, forall_const, if_true, if_false, Bool.false_eq_true, Bool.not_true, Bool.not_false, wp_fd0, wp_fd1, mulT_i, mulT_l, wp_lrng, wp_revM, maxT_ii, wps_par3, ne_nt]
    have e : rowB (.tup xs) = (!xs.isEmpty && xs.all lnB) := rfl
    rw [e]
    refine ⟨szl, ?_⟩
    cases hem : xs.isEmpty
    · simp only [wp_ok, wpo_some, wp_bind, wp_ofE, rd_d, wp_pureD, wp_mD, wp_m1, wp_m2, wp_mB, wp_nil, wp_cons, wp_tup, wp_lst, wp_lstM, wp_ix, wp_sl, wp_oN, wp_call, wp_callK, wp_ifV, wp_tst, wp_tAnd, wp_tOr, wp_tNot, wps_nil, wps_brk, wps_cnt, wps_seq, wps_ret, wps_retN, wps_exp, wps_if, wps_asg, gnm, wps_for, wp_fnS, wp_fnK, ret_d, ret_lst, keep_refl, keep_app, startE, List.map_cons, List.map_nil, List.replicate_succ, List.replicate_zero, List.cons_append, List.nil_append, List.length_cons, List.length_nil, List.getElem?_cons_zero, List.getElem?_cons_succ, List.set_cons_zero, List.set_cons_succ, Option.bind_some, Nat.reduceAdd, Nat.reduceSub, List.take_length, List.take_left, true_and, and_true, wp_var0, wp_varS, at0, at1, at2, add_ii, add_tt, add_ll, sub_ii, lt_ii, le_ii, gt_ii, ge_ii, neg_i, eq_ii, ne_ii, eq_ss, ne_ss, tr_bl, tr_i, tr_t, tr_l, wp_ixt, wp_ixl, wp_oS, sl_t, sl_l, sl_s, rds_nil, rds_d, omap_some, fzs_nil, fzs_d, fzW_d, wp_andV, wp_orV, wp_notV, wp_iSeq, its_t, its_l, wp_iEnum, en_t, en_l, wp_iZip, seq_t, seq_l, gtu, gscons, gsnil, wps_dput, wp_m0, wp_mm1, wps_par2, wp_yes, wipe0, wipeS, implies_true, forall_const, if_true, if_false, Bool.false_eq_true, Bool.not_true, Bool.not_false, wp_fd0, wp_fd1, mulT_i, mulT_l, wp_lrng, wp_revM, maxT_ii, wps_par3]
      refine wp_lcB id xs (fun y => .bl (lnB y)) ?_ fun c hc M => by simp only [wp_ok, wpo_some, wp_bind, wp_ofE, rd_d, wp_pureD, wp_mD, wp_m1, wp_m2, wp_mB, wp_nil, wp_cons, wp_tup, wp_lst, wp_lstM, wp_ix, wp_sl, wp_oN, wp_call, wp_callK, wp_ifV, wp_tst, wp_tAnd, wp_tOr, wp_tNot, wps_nil, wps_brk, wps_cnt, wps_seq, wps_ret, wps_retN, wps_exp, wps_if, wps_asg, gnm, wps_for, wp_fnS, wp_fnK, ret_d, ret_lst, keep_refl, keep_app, startE, List.map_cons, List.map_nil, List.replicate_succ, List.replicate_zero, List.cons_append, List.nil_append, List.length_cons, List.length_nil, List.getElem?_cons_zero, List.getElem?_cons_succ, List.set_cons_zero, List.set_cons_succ, Option.bind_some, Nat.reduceAdd, Nat.reduceSub, List.take_length, List.take_left, true_and, and_true, wp_var0, wp_varS, at0, at1, at2, add_ii, add_tt, add_ll, sub_ii, lt_ii, le_ii, gt_ii, ge_ii, neg_i, eq_ii, ne_ii, eq_ss, ne_ss, tr_bl, tr_i, tr_t, tr_l, wp_ixt, wp_ixl, wp_oS, sl_t, sl_l, sl_s, rds_nil, rds_d, omap_some, fzs_nil, fzs_d, fzW_d, wp_andV, wp_orV, wp_notV, wp_iSeq, its_t, its_l, wp_iEnum, en_t, en_l, wp_iZip, seq_t, seq_l, gtu, gscons, gsnil, wps_dput, wp_m0, wp_mm1, wps_par2, wp_yes, wipe0, wipeS, implies_true, forall_const, if_true, if_false, Bool.false_eq_true, Bool.not_true, Bool.not_false, wp_fd0, wp_fd1, mulT_i, mulT_l, wp_lrng, wp_revM, maxT_ii, wps_par3, id, wp_eq (q_ln (hg c hc))]
      simp only [wp_ok, wpo_some, wp_bind, wp_ofE, rd_d, wp_pureD, wp_mD, wp_m1, wp_m2, wp_mB, wp_nil, wp_cons, wp_tup, wp_lst, wp_lstM, wp_ix, wp_sl, wp_oN, wp_call, wp_callK, wp_ifV, wp_tst, wp_tAnd, wp_tOr, wp_tNot, wps_nil, wps_brk, wps_cnt, wps_seq, wps_ret, wps_retN, wps_exp, wps_if, wps_asg, gnm, wps_for, wp_fnS, wp_fnK, ret_d, ret_lst, keep_refl, keep_app, startE, List.map_cons, List.map_nil, List.replicate_succ, List.replicate_zero, List.cons_append, List.nil_append, List.length_cons, List.length_nil, List.getElem?_cons_zero, List.getElem?_cons_succ, List.set_cons_zero, List.set_cons_succ, Option.bind_some, Nat.reduceAdd, Nat.reduceSub, List.take_length, List.take_left, true_and, and_true, wp_var0, wp_varS, at0, at1, at2, add_ii, add_tt, add_ll, sub_ii, lt_ii, le_ii, gt_ii, ge_ii, neg_i, eq_ii, ne_ii, eq_ss, ne_ss, tr_bl, tr_i, tr_t, tr_l, wp_ixt, wp_ixl, wp_oS, sl_t, sl_l, sl_s, rds_nil, rds_d, omap_some, fzs_nil, fzs_d, fzW_d, wp_andV, wp_orV, wp_notV, wp_iSeq, its_t, its_l, wp_iEnum, en_t, en_l, wp_iZip, seq_t, seq_l, gtu, gscons, gsnil, wps_dput, wp_m0, wp_mm1, wps_par2, wp_yes, wipe0, wipeS, implies_true, forall_const, if_true, if_false, Bool.false_eq_true, Bool.not_true, Bool.not_false, wp_fd0, wp_fd1, mulT_i, mulT_l, wp_lrng, wp_revM, maxT_ii, wps_par3, List.map_id, all_map, Bool.true_and]
      exact hz
    · simp only [wp_ok, wpo_some, wp_bind, wp_ofE, rd_d, wp_pureD, wp_mD, wp_m1, wp_m2, wp_mB, wp_nil, wp_cons, wp_tup, wp_lst, wp_lstM, wp_ix, wp_sl, wp_oN, wp_call, wp_callK, wp_ifV, wp_tst, wp_tAnd, wp_tOr, wp_tNot, wps_nil, wps_brk, wps_cnt, wps_seq, wps_ret, wps_retN, wps_exp, wps_if, wps_asg, gnm, wps_for, wp_fnS, wp_fnK, ret_d, ret_lst, keep_refl, keep_app, startE, List.map_cons, List.map_nil, List.replicate_succ, List.replicate_zero, List.cons_append, List.nil_append, List.length_cons, List.length_nil, List.getElem?_cons_zero, List.getElem?_cons_succ, List.set_cons_zero, List.set_cons_succ, Option.bind_some, Nat.reduceAdd, Nat.reduceSub, List.take_length, List.take_left, true_and, and_true, wp_var0, wp_varS, at0, at1, at2, add_ii, add_tt, add_ll, sub_ii, lt_ii, le_ii, gt_ii, ge_ii, neg_i, eq_ii, ne_ii, eq_ss, ne_ss, tr_bl, tr_i, tr_t, tr_l, wp_ixt, wp_ixl, wp_oS, sl_t, sl_l, sl_s, rds_nil, rds_d, omap_some, fzs_nil, fzs_d, fzW_d, wp_andV, wp_orV, wp_notV, wp_iSeq, its_t, its_l, wp_iEnum, en_t, en_l, wp_iZip, seq_t, seq_l, gtu, gscons, gsnil, wps_dput, wp_m0, wp_mm1, wps_par2, wp_yes, wipe0, wipeS, implies_true, forall_const, if_true, if_false, Bool.false_eq_true, Bool.not_true, Bool.not_false, wp_fd0, wp_fd1, mulT_i, mulT_l, wp_lrng, wp_revM, maxT_ii, wps_par3]
      rfl
  · simp only [Bool.not_eq_true] at ht
    rw [ht]
    have : rowB x = false := by cases x <;> first | rfl | simp [isTup] at ht
    rw [this])
end
end MP.Fk40
namespace MP.Fk40
open PySem PySem.Spec PyProof.Rows L2 MP
section
variable {G : Cst} {L : LH} {x y : D} {Q : W → LH → Prop}
theorem any_all {xs : List D} {f g : D → Bool} (h : ∀ c, f c = !g c) : (!xs.any f) = xs.all g := by
  rw [List.all_eq_not_any_not]
  have : f = fun c => !g c := funext h
  rw [this]
theorem q_lw (h : gd (some G.cLine) x = true) : s__law_are_weights G [.d x] L = .ok (.d (.bl (wB x))) L := Wp.eq (by
  simp only [s__law_are_weights, b__law_are_weights, wp_ok, wpo_some, wp_bind, wp_ofE, rd_d, wp_pureD, wp_mD, wp_m1, wp_m2, wp_mB, wp_nil, wp_cons, wp_tup, wp_lst, wp_lstM, wp_ix, wp_sl, wp_oN, wp_call, wp_callK, wp_ifV, wp_tst, wp_tAnd, wp_tOr, wp_tNot, wps_nil, wps_brk, wps_cnt, wps_seq, wps_ret, wps_retN, wps_exp, wps_if, wps_asg, gnm, wps_for, wp_fnS, wp_fnK, ret_d, ret_lst, keep_refl, keep_app, startE, List.map_cons, List.map_nil, List.replicate_succ, List.replicate_zero, List.cons_append, List.nil_append, List.length_cons, List.length_nil, List.getElem?_cons_zero, List.getElem?_cons_succ, List.set_cons_zero, List.set_cons_succ, Option.bind_some, Nat.reduceAdd, Nat.reduceSub, List.take_length, List.take_left, true_and, and_true, wp_var0, wp_varS, at0, at1, at2, add_ii, add_tt, add_ll, sub_ii, lt_ii, le_ii, gt_ii, ge_ii, neg_i, eq_ii, ne_ii, eq_ss, ne_ss, tr_bl, tr_i, tr_t, tr_l, wp_ixt, wp_ixl, wp_oS, sl_t, sl_l, sl_s, rds_nil, rds_d, omap_some, fzs_nil, fzs_d, fzW_d, wp_andV, wp_orV, wp_notV, wp_iSeq, its_t, its_l, wp_iEnum, en_t, en_l, wp_iZip, seq_t, seq_l, gtu, gscons, gsnil, wps_dput, wp_m0, wp_mm1, wps_par2, wp_yes, wipe0, wipeS, implies_true, forall_const, if_true, if_false, Bool.false_eq_true, Bool.not_true, Bool.not_false, wp_fd0, wp_fd1, mulT_i, mulT_l, wp_lrng, wp_revM, maxT_ii, wps_par3, isi_tup (gd_kn h)]
  by_cases ht : isTup x = true
  · obtain ⟨xs, rfl⟩ := isT_un ht
    obtain ⟨hz, hg⟩ := gd_tup h
    rw [ht, if_neg (by decide)]
    simp only [wp_ok, wpo_some, wp_bind, wp_ofE, rd_d, wp_pureD, wp_mD, wp_m1, wp_m2, wp_mB, wp_nil, wp_cons, wp_tup, wp_lst, wp_lstM, wp_ix, wp_sl, wp_oN, wp_call, wp_callK, wp_ifV, wp_tst, wp_tAnd, wp_tOr, wp_tNot, wps_nil, wps_brk, wps_cnt, wps_seq, wps_ret, wps_retN, wps_exp, wps_if, wps_asg, gnm, wps_for, wp_fnS, wp_fnK, ret_d, ret_lst, keep_refl, keep_app, startE, List.map_cons, List.map_nil, List.replicate_succ, List.replicate_zero, List.cons_append, List.nil_append, List.length_cons, List.length_nil, List.getElem?_cons_zero, List.getElem?_cons_succ, List.set_cons_zero, List.set_cons_succ, Option.bind_some, Nat.reduceAdd, Nat.reduceSub, List.take_length, List.take_left, true_and, and_true, wp_var0, wp_varS, at0, at1, at2, add_ii, add_tt, add_ll, sub_ii, lt_ii, le_ii, gt_ii, ge_ii, neg_i, eq_ii, ne_ii, eq_ss, ne_ss, tr_bl, tr_i, tr_t, tr_l, wp_ixt, wp_ixl, wp_oS, sl_t, sl_l, sl_s, rds_nil, rds_d, omap_some, fzs_nil, fzs_d, fzW_d, wp_andV, wp_orV, wp_notV, wp_iSeq, its_t, its_l, wp_iEnum, en_t, en_l, wp_iZip, seq_t, seq_l, gtu, gscons, gsnil, wps_dput, wp_m0, wp_mm1, wps_par2, wp_yes, wipe0, wipeS, implies_true, forall_const, if_true, if_false, Bool.false_eq_true, Bool.not_true, Bool.not_false, wp_fd0, wp_fd1, mulT_i, mulT_l, wp_lrng, wp_revM, maxT_ii, wps_par3, eq_nt]
    have e : wB (.tup xs) = (!xs.isEmpty && xs.all i1) := rfl
    rw [e]
    refine ⟨szl, ?_⟩
    cases hem : xs.isEmpty
    · rw [if_neg (by decide)]
      refine wp_lcA id xs (fun y => !i1 y) id ?_ fun c hc M => ?_
      · simp only [wp_ok, wpo_some, wp_bind, wp_ofE, rd_d, wp_pureD, wp_mD, wp_m1, wp_m2, wp_mB, wp_nil, wp_cons, wp_tup, wp_lst, wp_lstM, wp_ix, wp_sl, wp_oN, wp_call, wp_callK, wp_ifV, wp_tst, wp_tAnd, wp_tOr, wp_tNot, wps_nil, wps_brk, wps_cnt, wps_seq, wps_ret, wps_retN, wps_exp, wps_if, wps_asg, gnm, wps_for, wp_fnS, wp_fnK, ret_d, ret_lst, keep_refl, keep_app, startE, List.map_cons, List.map_nil, List.replicate_succ, List.replicate_zero, List.cons_append, List.nil_append, List.length_cons, List.length_nil, List.getElem?_cons_zero, List.getElem?_cons_succ, List.set_cons_zero, List.set_cons_succ, Option.bind_some, Nat.reduceAdd, Nat.reduceSub, List.take_length, List.take_left, true_and, and_true, wp_var0, wp_varS, at0, at1, at2, add_ii, add_tt, add_ll, sub_ii, lt_ii, le_ii, gt_ii, ge_ii, neg_i, eq_ii, ne_ii, eq_ss, ne_ss, tr_bl, tr_i, tr_t, tr_l, wp_ixt, wp_ixl, wp_oS, sl_t, sl_l, sl_s, rds_nil, rds_d, omap_some, fzs_nil, fzs_d, fzW_d, wp_andV, wp_orV, wp_notV, wp_iSeq, its_t, its_l, wp_iEnum, en_t, en_l, wp_iZip, seq_t, seq_l, gtu, gscons, gsnil, wps_dput, wp_m0, wp_mm1, wps_par2, wp_yes, wipe0, wipeS, implies_true, forall_const, if_true, if_false, Bool.false_eq_true, Bool.not_true, Bool.not_false, wp_fd0, wp_fd1, mulT_i, mulT_l, wp_lrng, wp_revM, maxT_ii, wps_par3, List.map_id, eq_nl, emp_filter', Bool.true_and]
        refine ⟨hz, szl, ?_⟩
        rw [any_all (g := i1) (fun c => rfl)]
      · simp only [wp_ok, wpo_some, wp_bind, wp_ofE, rd_d, wp_pureD, wp_mD, wp_m1, wp_m2, wp_mB, wp_nil, wp_cons, wp_tup, wp_lst, wp_lstM, wp_ix, wp_sl, wp_oN, wp_call, wp_callK, wp_ifV, wp_tst, wp_tAnd, wp_tOr, wp_tNot, wps_nil, wps_brk, wps_cnt, wps_seq, wps_ret, wps_retN, wps_exp, wps_if, wps_asg, gnm, wps_for, wp_fnS, wp_fnK, ret_d, ret_lst, keep_refl, keep_app, startE, List.map_cons, List.map_nil, List.replicate_succ, List.replicate_zero, List.cons_append, List.nil_append, List.length_cons, List.length_nil, List.getElem?_cons_zero, List.getElem?_cons_succ, List.set_cons_zero, List.set_cons_succ, Option.bind_some, Nat.reduceAdd, Nat.reduceSub, List.take_length, List.take_left, true_and, and_true, wp_var0, wp_varS, at0, at1, at2, add_ii, add_tt, add_ll, sub_ii, lt_ii, le_ii, gt_ii, ge_ii, neg_i, eq_ii, ne_ii, eq_ss, ne_ss, tr_bl, tr_i, tr_t, tr_l, wp_ixt, wp_ixl, wp_oS, sl_t, sl_l, sl_s, rds_nil, rds_d, omap_some, fzs_nil, fzs_d, fzW_d, wp_andV, wp_orV, wp_notV, wp_iSeq, its_t, its_l, wp_iEnum, en_t, en_l, wp_iZip, seq_t, seq_l, gtu, gscons, gsnil, wps_dput, wp_m0, wp_mm1, wps_par2, wp_yes, wipe0, wipeS, implies_true, forall_const, if_true, if_false, Bool.false_eq_true, Bool.not_true, Bool.not_false, wp_fd0, wp_fd1, mulT_i, mulT_l, wp_lrng, wp_revM, maxT_ii, wps_par3, id, wp_eq (q_isint (gd_kn (hg c hc)))]
        cases c <;> simp only [isI, i1, wp_ok, wpo_some, wp_bind, wp_ofE, rd_d, wp_pureD, wp_mD, wp_m1, wp_m2, wp_mB, wp_nil, wp_cons, wp_tup, wp_lst, wp_lstM, wp_ix, wp_sl, wp_oN, wp_call, wp_callK, wp_ifV, wp_tst, wp_tAnd, wp_tOr, wp_tNot, wps_nil, wps_brk, wps_cnt, wps_seq, wps_ret, wps_retN, wps_exp, wps_if, wps_asg, gnm, wps_for, wp_fnS, wp_fnK, ret_d, ret_lst, keep_refl, keep_app, startE, List.map_cons, List.map_nil, List.replicate_succ, List.replicate_zero, List.cons_append, List.nil_append, List.length_cons, List.length_nil, List.getElem?_cons_zero, List.getElem?_cons_succ, List.set_cons_zero, List.set_cons_succ, Option.bind_some, Nat.reduceAdd, Nat.reduceSub, List.take_length, List.take_left, true_and, and_true, wp_var0, wp_varS, at0, at1, at2, add_ii, add_tt, add_ll, sub_ii, lt_ii, le_ii, gt_ii, ge_ii, neg_i, eq_ii, ne_ii, eq_ss, ne_ss, tr_bl, tr_i, tr_t, tr_l, wp_ixt, wp_ixl, wp_oS, sl_t, sl_l, sl_s, rds_nil, rds_d, omap_some, fzs_nil, fzs_d, fzW_d, wp_andV, wp_orV, wp_notV, wp_iSeq, its_t, its_l, wp_iEnum, en_t, en_l, wp_iZip, seq_t, seq_l, gtu, gscons, gsnil, wps_dput, wp_m0, wp_mm1, wps_par2, wp_yes, wipe0, wipeS, implies_true, forall_const, if_true, if_false, Bool.false_eq_true, Bool.not_true, Bool.not_false, wp_fd0, wp_fd1, mulT_i, mulT_l, wp_lrng, wp_revM, maxT_ii, wps_par3]
        all_goals first | exact lt1 | rfl | (simp only [Bool.not_true, Bool.false_eq_true, if_false]; exact lt1)
    · rw [if_pos rfl]
      rfl
  · simp only [Bool.not_eq_true] at ht
    rw [ht, if_pos (by decide)]
    have : wB x = false := by cases x <;> first | rfl | simp [isTup] at ht
    rw [this])
theorem t3n {xs : List D} : (!decide ((xs.length : Int) = 3)) = !tN 3 (.tup xs) := by
  have : tN 3 (.tup xs) = decide (xs.length = 3) := rfl
  rw [this, i3]
theorem isI3 {a b c : D} : ([a, b, c].any fun y => !isI y) = !(isI a && isI b && isI c) := by
  simp only [List.any_cons, List.any_nil]
  cases isI a <;> cases isI b <;> cases isI c <;> rfl
theorem q_lar {n : Int} (h : gd (some G.cLine) x = true) : s__law_are_arrivals G [.d (.int n), .d x] L = .ok (.d (.bl (arB n x))) L := Wp.eq (by
  simp only [s__law_are_arrivals, b__law_are_arrivals, wp_ok, wpo_some, wp_bind, wp_ofE, rd_d, wp_pureD, wp_mD, wp_m1, wp_m2, wp_mB, wp_nil, wp_cons, wp_tup, wp_lst, wp_lstM, wp_ix, wp_sl, wp_oN, wp_call, wp_callK, wp_ifV, wp_tst, wp_tAnd, wp_tOr, wp_tNot, wps_nil, wps_brk, wps_cnt, wps_seq, wps_ret, wps_retN, wps_exp, wps_if, wps_asg, gnm, wps_for, wp_fnS, wp_fnK, ret_d, ret_lst, keep_refl, keep_app, startE, List.map_cons, List.map_nil, List.replicate_succ, List.replicate_zero, List.cons_append, List.nil_append, List.length_cons, List.length_nil, List.getElem?_cons_zero, List.getElem?_cons_succ, List.set_cons_zero, List.set_cons_succ, Option.bind_some, Nat.reduceAdd, Nat.reduceSub, List.take_length, List.take_left, true_and, and_true, wp_var0, wp_varS, at0, at1, at2, add_ii, add_tt, add_ll, sub_ii, lt_ii, le_ii, gt_ii, ge_ii, neg_i, eq_ii, ne_ii, eq_ss, ne_ss, tr_bl, tr_i, tr_t, tr_l, wp_ixt, wp_ixl, wp_oS, sl_t, sl_l, sl_s, rds_nil, rds_d, omap_some, fzs_nil, fzs_d, fzW_d, wp_andV, wp_orV, wp_notV, wp_iSeq, its_t, its_l, wp_iEnum, en_t, en_l, wp_iZip, seq_t, seq_l, gtu, gscons, gsnil, wps_dput, wp_m0, wp_mm1, wps_par2, wp_yes, wipe0, wipeS, implies_true, forall_const, if_true, if_false, Bool.false_eq_true, Bool.not_true, Bool.not_false, wp_fd0, wp_fd1, mulT_i, mulT_l, wp_lrng, wp_revM, maxT_ii, wps_par3, isi_tup (gd_kn h)]
  by_cases ht : isTup x = true
  · obtain ⟨xs, rfl⟩ := isT_un ht
    obtain ⟨hz, hg⟩ := gd_tup h
    rw [ht, if_neg (by decide), ← go_ar]
    simp only [wp_ok, wpo_some, wp_bind, wp_ofE, rd_d, wp_pureD, wp_mD, wp_m1, wp_m2, wp_mB, wp_nil, wp_cons, wp_tup, wp_lst, wp_lstM, wp_ix, wp_sl, wp_oN, wp_call, wp_callK, wp_ifV, wp_tst, wp_tAnd, wp_tOr, wp_tNot, wps_nil, wps_brk, wps_cnt, wps_seq, wps_ret, wps_retN, wps_exp, wps_if, wps_asg, gnm, wps_for, wp_fnS, wp_fnK, ret_d, ret_lst, keep_refl, keep_app, startE, List.map_cons, List.map_nil, List.replicate_succ, List.replicate_zero, List.cons_append, List.nil_append, List.length_cons, List.length_nil, List.getElem?_cons_zero, List.getElem?_cons_succ, List.set_cons_zero, List.set_cons_succ, Option.bind_some, Nat.reduceAdd, Nat.reduceSub, List.take_length, List.take_left, true_and, and_true, wp_var0, wp_varS, at0, at1, at2, add_ii, add_tt, add_ll, sub_ii, lt_ii, le_ii, gt_ii, ge_ii, neg_i, eq_ii, ne_ii, eq_ss, ne_ss, tr_bl, tr_i, tr_t, tr_l, wp_ixt, wp_ixl, wp_oS, sl_t, sl_l, sl_s, rds_nil, rds_d, omap_some, fzs_nil, fzs_d, fzW_d, wp_andV, wp_orV, wp_notV, wp_iSeq, its_t, its_l, wp_iEnum, en_t, en_l, wp_iZip, seq_t, seq_l, gtu, gscons, gsnil, wps_dput, wp_m0, wp_mm1, wps_par2, wp_yes, wipe0, wipeS, implies_true, forall_const, if_true, if_false, Bool.false_eq_true, Bool.not_true, Bool.not_false, wp_fd0, wp_fd1, mulT_i, mulT_l, wp_lrng, wp_revM, maxT_ii, wps_par3]
    refine forM_inv (fun ys env L' => L' = L ∧ ∃ last a3 a4, env = [some (.d (.int n)), some (.d (.tup xs)), some (.d (.int last)), a3, a4] ∧ (∀ c ∈ ys, gd (some G.cLine) c = true) ∧ go n last ys = go n 0 xs) ?_ ?_ _ _ _ ⟨rfl, 0, _, _, rfl, hg, rfl⟩
    · rintro c r env L' ⟨rfl, last, a3, a4, rfl, hgr, he⟩
      have hgc := hgr c (List.mem_cons_self ..)
      have hgr' := fun y hy => hgr y (List.mem_cons_of_mem _ hy)
      refine ⟨by simp only [wp_ok, wpo_some, wp_bind, wp_ofE, rd_d, wp_pureD, wp_mD, wp_m1, wp_m2, wp_mB, wp_nil, wp_cons, wp_tup, wp_lst, wp_lstM, wp_ix, wp_sl, wp_oN, wp_call, wp_callK, wp_ifV, wp_tst, wp_tAnd, wp_tOr, wp_tNot, wps_nil, wps_brk, wps_cnt, wps_seq, wps_ret, wps_retN, wps_exp, wps_if, wps_asg, gnm, wps_for, wp_fnS, wp_fnK, ret_d, ret_lst, keep_refl, keep_app, startE, List.map_cons, List.map_nil, List.replicate_succ, List.replicate_zero, List.cons_append, List.nil_append, List.length_cons, List.length_nil, List.getElem?_cons_zero, List.getElem?_cons_succ, List.set_cons_zero, List.set_cons_succ, Option.bind_some, Nat.reduceAdd, Nat.reduceSub, List.take_length, List.take_left, true_and, and_true, wp_var0, wp_varS, at0, at1, at2, add_ii, add_tt, add_ll, sub_ii, lt_ii, le_ii, gt_ii, ge_ii, neg_i, eq_ii, ne_ii, eq_ss, ne_ss, tr_bl, tr_i, tr_t, tr_l, wp_ixt, wp_ixl, wp_oS, sl_t, sl_l, sl_s, rds_nil, rds_d, omap_some, fzs_nil, fzs_d, fzW_d, wp_andV, wp_orV, wp_notV, wp_iSeq, its_t, its_l, wp_iEnum, en_t, en_l, wp_iZip, seq_t, seq_l, gtu, gscons, gsnil, wps_dput, wp_m0, wp_mm1, wps_par2, wp_yes, wipe0, wipeS, implies_true, forall_const, if_true, if_false, Bool.false_eq_true, Bool.not_true, Bool.not_false, wp_fd0, wp_fd1, mulT_i, mulT_l, wp_lrng, wp_revM, maxT_ii, wps_par3], ?_⟩
      simp only [wp_ok, wpo_some, wp_bind, wp_ofE, rd_d, wp_pureD, wp_mD, wp_m1, wp_m2, wp_mB, wp_nil, wp_cons, wp_tup, wp_lst, wp_lstM, wp_ix, wp_sl, wp_oN, wp_call, wp_callK, wp_ifV, wp_tst, wp_tAnd, wp_tOr, wp_tNot, wps_nil, wps_brk, wps_cnt, wps_seq, wps_ret, wps_retN, wps_exp, wps_if, wps_asg, gnm, wps_for, wp_fnS, wp_fnK, ret_d, ret_lst, keep_refl, keep_app, startE, List.map_cons, List.map_nil, List.replicate_succ, List.replicate_zero, List.cons_append, List.nil_append, List.length_cons, List.length_nil, List.getElem?_cons_zero, List.getElem?_cons_succ, List.set_cons_zero, List.set_cons_succ, Option.bind_some, Nat.reduceAdd, Nat.reduceSub, List.take_length, List.take_left, true_and, and_true, wp_var0, wp_varS, at0, at1, at2, add_ii, add_tt, add_ll, sub_ii, lt_ii, le_ii, gt_ii, ge_ii, neg_i, eq_ii, ne_ii, eq_ss, ne_ss, tr_bl, tr_i, tr_t, tr_l, wp_ixt, wp_ixl, wp_oS, sl_t, sl_l, sl_s, rds_nil, rds_d, omap_some, fzs_nil, fzs_d, fzW_d, wp_andV, wp_orV, wp_notV, wp_iSeq, its_t, its_l, wp_iEnum, en_t, en_l, wp_iZip, seq_t, seq_l, gtu, gscons, gsnil, wps_dput, wp_m0, wp_mm1, wps_par2, wp_yes, wipe0, wipeS, implies_true, forall_const, if_true, if_false, Bool.false_eq_true, Bool.not_true, Bool.not_false, wp_fd0, wp_fd1, mulT_i, mulT_l, wp_lrng, wp_revM, maxT_ii, wps_par3, isi_tup (gd_kn hgc)]
      by_cases hc : isTup c = true
      · obtain ⟨ys, rfl⟩ := isT_un hc
        rw [hc, if_neg (by decide), lenD_t, wpo_some, ne_ii, wpo_some, tr_bl, wpo_some, t3n]
        by_cases h3 : tN 3 (.tup ys) = true
        · obtain ⟨a, b, e, h4⟩ := t3_un h3
          cases h4
          obtain ⟨_, hg3⟩ := gd_tup hgc
          have ha := gd_kn (hg3 a (by simp))
          have hb := gd_kn (hg3 b (by simp))
          have hq := gd_kn (hg3 e (by simp))
          rw [h3, if_neg (by decide)]
          refine wp_lcA id [a, b, e] (fun y => !isI y) id ?_ fun c hc M => ?_
          · simp only [wp_ok, wpo_some, wp_bind, wp_ofE, rd_d, wp_pureD, wp_mD, wp_m1, wp_m2, wp_mB, wp_nil, wp_cons, wp_tup, wp_lst, wp_lstM, wp_ix, wp_sl, wp_oN, wp_call, wp_callK, wp_ifV, wp_tst, wp_tAnd, wp_tOr, wp_tNot, wps_nil, wps_brk, wps_cnt, wps_seq, wps_ret, wps_retN, wps_exp, wps_if, wps_asg, gnm, wps_for, wp_fnS, wp_fnK, ret_d, ret_lst, keep_refl, keep_app, startE, List.map_cons, List.map_nil, List.replicate_succ, List.replicate_zero, List.cons_append, List.nil_append, List.length_cons, List.length_nil, List.getElem?_cons_zero, List.getElem?_cons_succ, List.set_cons_zero, List.set_cons_succ, Option.bind_some, Nat.reduceAdd, Nat.reduceSub, List.take_length, List.take_left, true_and, and_true, wp_var0, wp_varS, at0, at1, at2, add_ii, add_tt, add_ll, sub_ii, lt_ii, le_ii, gt_ii, ge_ii, neg_i, eq_ii, ne_ii, eq_ss, ne_ss, tr_bl, tr_i, tr_t, tr_l, wp_ixt, wp_ixl, wp_oS, sl_t, sl_l, sl_s, rds_nil, rds_d, omap_some, fzs_nil, fzs_d, fzW_d, wp_andV, wp_orV, wp_notV, wp_iSeq, its_t, its_l, wp_iEnum, en_t, en_l, wp_iZip, seq_t, seq_l, gtu, gscons, gsnil, wps_dput, wp_m0, wp_mm1, wps_par2, wp_yes, wipe0, wipeS, implies_true, forall_const, if_true, if_false, Bool.false_eq_true, Bool.not_true, Bool.not_false, wp_fd0, wp_fd1, mulT_i, mulT_l, wp_lrng, wp_revM, maxT_ii, wps_par3, List.map_id, ne_nl, emp_filter, isI3]
            refine ⟨rfl, szl, szl, ?_⟩
            by_cases hi : (isI a && isI b && isI e) = true
            · rw [hi, if_neg (by decide)]
              simp only [Bool.and_eq_true] at hi
              obtain ⟨⟨hi1, hi2⟩, hi3⟩ := hi
              obtain ⟨i, rfl⟩ := isI_iff.mp hi1
              obtain ⟨j, rfl⟩ := isI_iff.mp hi2
              obtain ⟨k, rfl⟩ := isI_iff.mp hi3
              simp only [wp_ok, wpo_some, wp_bind, wp_ofE, rd_d, wp_pureD, wp_mD, wp_m1, wp_m2, wp_mB, wp_nil, wp_cons, wp_tup, wp_lst, wp_lstM, wp_ix, wp_sl, wp_oN, wp_call, wp_callK, wp_ifV, wp_tst, wp_tAnd, wp_tOr, wp_tNot, wps_nil, wps_brk, wps_cnt, wps_seq, wps_ret, wps_retN, wps_exp, wps_if, wps_asg, gnm, wps_for, wp_fnS, wp_fnK, ret_d, ret_lst, keep_refl, keep_app, startE, List.map_cons, List.map_nil, List.replicate_succ, List.replicate_zero, List.cons_append, List.nil_append, List.length_cons, List.length_nil, List.getElem?_cons_zero, List.getElem?_cons_succ, List.set_cons_zero, List.set_cons_succ, Option.bind_some, Nat.reduceAdd, Nat.reduceSub, List.take_length, List.take_left, true_and, and_true, wp_var0, wp_varS, at0, at1, at2, add_ii, add_tt, add_ll, sub_ii, lt_ii, le_ii, gt_ii, ge_ii, neg_i, eq_ii, ne_ii, eq_ss, ne_ss, tr_bl, tr_i, tr_t, tr_l, wp_ixt, wp_ixl, wp_oS, sl_t, sl_l, sl_s, rds_nil, rds_d, omap_some, fzs_nil, fzs_d, fzW_d, wp_andV, wp_orV, wp_notV, wp_iSeq, its_t, its_l, wp_iEnum, en_t, en_l, wp_iZip, seq_t, seq_l, gtu, gscons, gsnil, wps_dput, wp_m0, wp_mm1, wps_par2, wp_yes, wipe0, wipeS, implies_true, forall_const, if_true, if_false, Bool.false_eq_true, Bool.not_true, Bool.not_false, wp_fd0, wp_fd1, mulT_i, mulT_l, wp_lrng, wp_revM, maxT_ii, wps_par3]
              rw [go, pk4_t] at he
              have hm : mom (.tup [.int i, .int j, .int k]) = i := rfl
              simp only [hm] at he
              by_cases d1 : i < last
              · rw [if_pos (by simpa using d1)]
                rw [← he, decide_eq_false (by omega)]
                all_goals first | rfl | exact ⟨rfl, rfl⟩
              · rw [if_neg (by simpa using d1)]
                by_cases d2 : j < 0
                · rw [if_pos (by simpa using d2)]
                  rw [← he, decide_eq_false (by omega : ¬ 0 ≤ j)]
                  simp
                · rw [if_neg (by simpa using d2)]
                  by_cases d3 : k < 1
                  · rw [if_pos (by simpa using d3)]
                    rw [← he, decide_eq_false (by omega : ¬ 1 ≤ k)]
                    simp
                  · rw [if_neg (by simpa using d3)]
                    simp only [wp_ok, wpo_some, wp_bind, wp_ofE, rd_d, wp_pureD, wp_mD, wp_m1, wp_m2, wp_mB, wp_nil, wp_cons, wp_tup, wp_lst, wp_lstM, wp_ix, wp_sl, wp_oN, wp_call, wp_callK, wp_ifV, wp_tst, wp_tAnd, wp_tOr, wp_tNot, wps_nil, wps_brk, wps_cnt, wps_seq, wps_ret, wps_retN, wps_exp, wps_if, wps_asg, gnm, wps_for, wp_fnS, wp_fnK, ret_d, ret_lst, keep_refl, keep_app, startE, List.map_cons, List.map_nil, List.replicate_succ, List.replicate_zero, List.cons_append, List.nil_append, List.length_cons, List.length_nil, List.getElem?_cons_zero, List.getElem?_cons_succ, List.set_cons_zero, List.set_cons_succ, Option.bind_some, Nat.reduceAdd, Nat.reduceSub, List.take_length, List.take_left, true_and, and_true, wp_var0, wp_varS, at0, at1, at2, add_ii, add_tt, add_ll, sub_ii, lt_ii, le_ii, gt_ii, ge_ii, neg_i, eq_ii, ne_ii, eq_ss, ne_ss, tr_bl, tr_i, tr_t, tr_l, wp_ixt, wp_ixl, wp_oS, sl_t, sl_l, sl_s, rds_nil, rds_d, omap_some, fzs_nil, fzs_d, fzW_d, wp_andV, wp_orV, wp_notV, wp_iSeq, its_t, its_l, wp_iEnum, en_t, en_l, wp_iZip, seq_t, seq_l, gtu, gscons, gsnil, wps_dput, wp_m0, wp_mm1, wps_par2, wp_yes, wipe0, wipeS, implies_true, forall_const, if_true, if_false, Bool.false_eq_true, Bool.not_true, Bool.not_false, wp_fd0, wp_fd1, mulT_i, mulT_l, wp_lrng, wp_revM, maxT_ii, wps_par3, wp_isN, D.isNon]
                    by_cases d4 : n ≤ j
                    · rw [if_pos (by simpa using d4)]
                      rw [← he, decide_eq_false (by omega : ¬ j < n)]
                      simp
                    · rw [if_neg (by simpa using d4)]
                      refine ⟨i, _, _, rfl, hgr', ?_⟩
                      rw [← he, decide_eq_true (by omega : last ≤ i), decide_eq_true (by omega : 0 ≤ j), decide_eq_true (by omega : 1 ≤ k), decide_eq_true (by omega : j < n)]
                      rfl
            · rw [Bool.not_eq_true] at hi
              rw [hi, if_pos (by decide)]
              have : go n last (.tup [a, b, e] :: r) = false := by
                rw [go, Bool.and_eq_false_iff]
                refine .inl (Bool.eq_false_iff.mpr fun z => ?_)
                obtain ⟨i, j, k, h7⟩ := pk4_un z
                cases h7
                simp [isI] at hi
              rw [← he, this]
              all_goals first | rfl | exact ⟨rfl, rfl⟩
          · have : gd (some G.cLine) c = true := hg3 c hc
            simp only [wp_ok, wpo_some, wp_bind, wp_ofE, rd_d, wp_pureD, wp_mD, wp_m1, wp_m2, wp_mB, wp_nil, wp_cons, wp_tup, wp_lst, wp_lstM, wp_ix, wp_sl, wp_oN, wp_call, wp_callK, wp_ifV, wp_tst, wp_tAnd, wp_tOr, wp_tNot, wps_nil, wps_brk, wps_cnt, wps_seq, wps_ret, wps_retN, wps_exp, wps_if, wps_asg, gnm, wps_for, wp_fnS, wp_fnK, ret_d, ret_lst, keep_refl, keep_app, startE, List.map_cons, List.map_nil, List.replicate_succ, List.replicate_zero, List.cons_append, List.nil_append, List.length_cons, List.length_nil, List.getElem?_cons_zero, List.getElem?_cons_succ, List.set_cons_zero, List.set_cons_succ, Option.bind_some, Nat.reduceAdd, Nat.reduceSub, List.take_length, List.take_left, true_and, and_true, wp_var0, wp_varS, at0, at1, at2, add_ii, add_tt, add_ll, sub_ii, lt_ii, le_ii, gt_ii, ge_ii, neg_i, eq_ii, ne_ii, eq_ss, ne_ss, tr_bl, tr_i, tr_t, tr_l, wp_ixt, wp_ixl, wp_oS, sl_t, sl_l, sl_s, rds_nil, rds_d, omap_some, fzs_nil, fzs_d, fzW_d, wp_andV, wp_orV, wp_notV, wp_iSeq, its_t, its_l, wp_iEnum, en_t, en_l, wp_iZip, seq_t, seq_l, gtu, gscons, gsnil, wps_dput, wp_m0, wp_mm1, wps_par2, wp_yes, wipe0, wipeS, implies_true, forall_const, if_true, if_false, Bool.false_eq_true, Bool.not_true, Bool.not_false, wp_fd0, wp_fd1, mulT_i, mulT_l, wp_lrng, wp_revM, maxT_ii, wps_par3, id, wp_eq (q_isint (gd_kn this))]
        · rw [Bool.not_eq_true] at h3
          rw [h3, if_pos (by decide)]
          have : go n last (.tup ys :: r) = false := by
            rw [go, Bool.and_eq_false_iff]
            refine .inl (Bool.eq_false_iff.mpr fun z => ?_)
            obtain ⟨i, j, k, h7⟩ := pk4_un z
            cases h7
            simp [tN] at h3
          rw [← he, this]
          all_goals first | rfl | exact ⟨rfl, rfl⟩
      · rw [Bool.not_eq_true] at hc
        rw [hc, if_pos (by decide)]
        have : go n last (c :: r) = false := by
          rw [go, Bool.and_eq_false_iff]
          refine .inl (Bool.eq_false_iff.mpr fun z => ?_)
          obtain ⟨i, j, k, h7⟩ := pk4_un z
          rw [h7] at hc
          simp [isTup] at hc
        rw [← he, this]
        all_goals first | rfl | exact ⟨rfl, rfl⟩
    · rintro env L' ⟨rfl, last, a3, a4, rfl, _, he⟩
      refine ⟨by simp only [wp_ok, wpo_some, wp_bind, wp_ofE, rd_d, wp_pureD, wp_mD, wp_m1, wp_m2, wp_mB, wp_nil, wp_cons, wp_tup, wp_lst, wp_lstM, wp_ix, wp_sl, wp_oN, wp_call, wp_callK, wp_ifV, wp_tst, wp_tAnd, wp_tOr, wp_tNot, wps_nil, wps_brk, wps_cnt, wps_seq, wps_ret, wps_retN, wps_exp, wps_if, wps_asg, gnm, wps_for, wp_fnS, wp_fnK, ret_d, ret_lst, keep_refl, keep_app, startE, List.map_cons, List.map_nil, List.replicate_succ, List.replicate_zero, List.cons_append, List.nil_append, List.length_cons, List.length_nil, List.getElem?_cons_zero, List.getElem?_cons_succ, List.set_cons_zero, List.set_cons_succ, Option.bind_some, Nat.reduceAdd, Nat.reduceSub, List.take_length, List.take_left, true_and, and_true, wp_var0, wp_varS, at0, at1, at2, add_ii, add_tt, add_ll, sub_ii, lt_ii, le_ii, gt_ii, ge_ii, neg_i, eq_ii, ne_ii, eq_ss, ne_ss, tr_bl, tr_i, tr_t, tr_l, wp_ixt, wp_ixl, wp_oS, sl_t, sl_l, sl_s, rds_nil, rds_d, omap_some, fzs_nil, fzs_d, fzW_d, wp_andV, wp_orV, wp_notV, wp_iSeq, its_t, its_l, wp_iEnum, en_t, en_l, wp_iZip, seq_t, seq_l, gtu, gscons, gsnil, wps_dput, wp_m0, wp_mm1, wps_par2, wp_yes, wipe0, wipeS, implies_true, forall_const, if_true, if_false, Bool.false_eq_true, Bool.not_true, Bool.not_false, wp_fd0, wp_fd1, mulT_i, mulT_l, wp_lrng, wp_revM, maxT_ii, wps_par3], ?_⟩
      rw [← he]
      simp only [wp_ok, wpo_some, wp_bind, wp_ofE, rd_d, wp_pureD, wp_mD, wp_m1, wp_m2, wp_mB, wp_nil, wp_cons, wp_tup, wp_lst, wp_lstM, wp_ix, wp_sl, wp_oN, wp_call, wp_callK, wp_ifV, wp_tst, wp_tAnd, wp_tOr, wp_tNot, wps_nil, wps_brk, wps_cnt, wps_seq, wps_ret, wps_retN, wps_exp, wps_if, wps_asg, gnm, wps_for, wp_fnS, wp_fnK, ret_d, ret_lst, keep_refl, keep_app, startE, List.map_cons, List.map_nil, List.replicate_succ, List.replicate_zero, List.cons_append, List.nil_append, List.length_cons, List.length_nil, List.getElem?_cons_zero, List.getElem?_cons_succ, List.set_cons_zero, List.set_cons_succ, Option.bind_some, Nat.reduceAdd, Nat.reduceSub, List.take_length, List.take_left, true_and, and_true, wp_var0, wp_varS, at0, at1, at2, add_ii, add_tt, add_ll, sub_ii, lt_ii, le_ii, gt_ii, ge_ii, neg_i, eq_ii, ne_ii, eq_ss, ne_ss, tr_bl, tr_i, tr_t, tr_l, wp_ixt, wp_ixl, wp_oS, sl_t, sl_l, sl_s, rds_nil, rds_d, omap_some, fzs_nil, fzs_d, fzW_d, wp_andV, wp_orV, wp_notV, wp_iSeq, its_t, its_l, wp_iEnum, en_t, en_l, wp_iZip, seq_t, seq_l, gtu, gscons, gsnil, wps_dput, wp_m0, wp_mm1, wps_par2, wp_yes, wipe0, wipeS, implies_true, forall_const, if_true, if_false, Bool.false_eq_true, Bool.not_true, Bool.not_false, wp_fd0, wp_fd1, mulT_i, mulT_l, wp_lrng, wp_revM, maxT_ii, wps_par3, go]
  · simp only [Bool.not_eq_true] at ht
    rw [ht, if_pos (by decide)]
    have : arB n x = false := by cases x <;> first | rfl | simp [isTup] at ht
    rw [this]
    all_goals first | rfl | exact ⟨rfl, rfl⟩)
end
end MP.Fk40
namespace MP.Fk40
open PySem PySem.Spec PyProof.Rows L2 MP
section
variable {G : Cst} {L : LH} {x y : D} {Q : W → LH → Prop}
theorem ar_un {n : Int} (h : arB n x = true) : ∃ xs, x = .tup xs ∧ ∀ p ∈ xs, pkB p = true := by
  simp only [arB, Bool.and_eq_true] at h
  exact aaB_un h.1
theorem t2n {xs : List D} : (!decide ((xs.length : Int) = 2)) = !tN 2 (.tup xs) := by
  have : tN 2 (.tup xs) = decide (xs.length = 2) := rfl
  rw [this]
  congr 1
  exact decide_eq_decide.mpr (by omega)
theorem q_lrow (h : gd (some G.cLine) x = true) : s__law_is_row G [.d x] L = .ok (.d (.bl (rowB x))) L := Wp.eq (by
  simp only [s__law_is_row, b__law_is_row, wp_ok, wpo_some, wp_bind, wp_ofE, rd_d, wp_pureD, wp_mD, wp_m1, wp_m2, wp_mB, wp_nil, wp_cons, wp_tup, wp_lst, wp_lstM, wp_ix, wp_sl, wp_oN, wp_call, wp_callK, wp_ifV, wp_tst, wp_tAnd, wp_tOr, wp_tNot, wps_nil, wps_brk, wps_cnt, wps_seq, wps_ret, wps_retN, wps_exp, wps_if, wps_asg, gnm, wps_for, wp_fnS, wp_fnK, ret_d, ret_lst, keep_refl, keep_app, startE, List.map_cons, List.map_nil, List.replicate_succ, List.replicate_zero, List.cons_append, List.nil_append, List.length_cons, List.length_nil, List.getElem?_cons_zero, List.getElem?_cons_succ, List.set_cons_zero, List.set_cons_succ, Option.bind_some, Nat.reduceAdd, Nat.reduceSub, List.take_length, List.take_left, true_and, and_true, wp_var0, wp_varS, at0, at1, at2, add_ii, add_tt, add_ll, sub_ii, lt_ii, le_ii, gt_ii, ge_ii, neg_i, eq_ii, ne_ii, eq_ss, ne_ss, tr_bl, tr_i, tr_t, tr_l, wp_ixt, wp_ixl, wp_oS, sl_t, sl_l, sl_s, rds_nil, rds_d, omap_some, fzs_nil, fzs_d, fzW_d, wp_andV, wp_orV, wp_notV, wp_iSeq, its_t, its_l, wp_iEnum, en_t, en_l, wp_iZip, seq_t, seq_l, gtu, gscons, gsnil, wps_dput, wp_m0, wp_mm1, wps_par2, wp_yes, wipe0, wipeS, implies_true, forall_const, if_true, if_false, Bool.false_eq_true, Bool.not_true, Bool.not_false, wp_fd0, wp_fd1, mulT_i, mulT_l, wp_lrng, wp_revM, maxT_ii, wps_par3, isi_tup (gd_kn h)]
  by_cases ht : isTup x = true
  · obtain ⟨xs, rfl⟩ := isT_un ht
    obtain ⟨hz, hg⟩ := gd_tup h
    rw [ht, if_neg (by decide)]
    simp only [wp_ok, wpo_some, wp_bind, wp_ofE, rd_d, wp_pureD, wp_mD, wp_m1, wp_m2, wp_mB, wp_nil, wp_cons, wp_tup, wp_lst, wp_lstM, wp_ix, wp_sl, wp_oN, wp_call, wp_callK, wp_ifV, wp_tst, wp_tAnd, wp_tOr, wp_tNot, wps_nil, wps_brk, wps_cnt, wps_seq, wps_ret, wps_retN, wps_exp, wps_if, wps_asg, gnm, wps_for, wp_fnS, wp_fnK, ret_d, ret_lst, keep_refl, keep_app, startE, List.map_cons, List.map_nil, List.replicate_succ, List.replicate_zero, List.cons_append, List.nil_append, List.length_cons, List.length_nil, List.getElem?_cons_zero, List.getElem?_cons_succ, List.set_cons_zero, List.set_cons_succ, Option.bind_some, Nat.reduceAdd, Nat.reduceSub, List.take_length, List.take_left, true_and, and_true, wp_var0, wp_varS, at0, at1, at2, add_ii, add_tt, add_ll, sub_ii, lt_ii, le_ii, gt_ii, ge_ii, neg_i, eq_ii, ne_ii, eq_ss, ne_ss, tr_bl, tr_i, tr_t, tr_l, wp_ixt, wp_ixl, wp_oS, sl_t, sl_l, sl_s, rds_nil, rds_d, omap_some, fzs_nil, fzs_d, fzW_d, wp_andV, wp_orV, wp_notV, wp_iSeq, its_t, its_l, wp_iEnum, en_t, en_l, wp_iZip, seq_t, seq_l, gtu, gscons, gsnil, wps_dput, wp_m0, wp_mm1, wps_par2, wp_yes, wipe0, wipeS, implies_true, forall_const, if_true, if_false, Bool.false_eq_true, Bool.not_true, Bool.not_false, wp_fd0, wp_fd1, mulT_i, mulT_l, wp_lrng, wp_revM, maxT_ii, wps_par3, eq_nt]
    have e : rowB (.tup xs) = (!xs.isEmpty && xs.all lnB) := rfl
    rw [e]
    refine ⟨szl, ?_⟩
    cases hem : xs.isEmpty
    · rw [if_neg (by decide)]
      refine forM_inv (fun ys env L' => L' = L ∧ ∃ a1 a2, env = [some (.d (.tup xs)), a1, a2] ∧ (∀ c ∈ ys, gd (some G.cLine) c = true) ∧ ys.all lnB = xs.all lnB) ?_ ?_ _ _ _ ⟨rfl, _, _, rfl, hg, rfl⟩
      · rintro c r env L' ⟨rfl, a1, a2, rfl, hgr, he⟩
        have hgc := hgr c (List.mem_cons_self ..)
        have hgr' := fun y hy => hgr y (List.mem_cons_of_mem _ hy)
        rw [List.all_cons] at he
        refine ⟨by simp only [wp_ok, wpo_some, wp_bind, wp_ofE, rd_d, wp_pureD, wp_mD, wp_m1, wp_m2, wp_mB, wp_nil, wp_cons, wp_tup, wp_lst, wp_lstM, wp_ix, wp_sl, wp_oN, wp_call, wp_callK, wp_ifV, wp_tst, wp_tAnd, wp_tOr, wp_tNot, wps_nil, wps_brk, wps_cnt, wps_seq, wps_ret, wps_retN, wps_exp, wps_if, wps_asg, gnm, wps_for, wp_fnS, wp_fnK, ret_d, ret_lst, keep_refl, keep_app, startE, List.map_cons, List.map_nil, List.replicate_succ, List.replicate_zero, List.cons_append, List.nil_append, List.length_cons, List.length_nil, List.getElem?_cons_zero, List.getElem?_cons_succ, List.set_cons_zero, List.set_cons_succ, Option.bind_some, Nat.reduceAdd, Nat.reduceSub, List.take_length, List.take_left, true_and, and_true, wp_var0, wp_varS, at0, at1, at2, add_ii, add_tt, add_ll, sub_ii, lt_ii, le_ii, gt_ii, ge_ii, neg_i, eq_ii, ne_ii, eq_ss, ne_ss, tr_bl, tr_i, tr_t, tr_l, wp_ixt, wp_ixl, wp_oS, sl_t, sl_l, sl_s, rds_nil, rds_d, omap_some, fzs_nil, fzs_d, fzW_d, wp_andV, wp_orV, wp_notV, wp_iSeq, its_t, its_l, wp_iEnum, en_t, en_l, wp_iZip, seq_t, seq_l, gtu, gscons, gsnil, wps_dput, wp_m0, wp_mm1, wps_par2, wp_yes, wipe0, wipeS, implies_true, forall_const, if_true, if_false, Bool.false_eq_true, Bool.not_true, Bool.not_false, wp_fd0, wp_fd1, mulT_i, mulT_l, wp_lrng, wp_revM, maxT_ii, wps_par3], ?_⟩
        simp only [wp_ok, wpo_some, wp_bind, wp_ofE, rd_d, wp_pureD, wp_mD, wp_m1, wp_m2, wp_mB, wp_nil, wp_cons, wp_tup, wp_lst, wp_lstM, wp_ix, wp_sl, wp_oN, wp_call, wp_callK, wp_ifV, wp_tst, wp_tAnd, wp_tOr, wp_tNot, wps_nil, wps_brk, wps_cnt, wps_seq, wps_ret, wps_retN, wps_exp, wps_if, wps_asg, gnm, wps_for, wp_fnS, wp_fnK, ret_d, ret_lst, keep_refl, keep_app, startE, List.map_cons, List.map_nil, List.replicate_succ, List.replicate_zero, List.cons_append, List.nil_append, List.length_cons, List.length_nil, List.getElem?_cons_zero, List.getElem?_cons_succ, List.set_cons_zero, List.set_cons_succ, Option.bind_some, Nat.reduceAdd, Nat.reduceSub, List.take_length, List.take_left, true_and, and_true, wp_var0, wp_varS, at0, at1, at2, add_ii, add_tt, add_ll, sub_ii, lt_ii, le_ii, gt_ii, ge_ii, neg_i, eq_ii, ne_ii, eq_ss, ne_ss, tr_bl, tr_i, tr_t, tr_l, wp_ixt, wp_ixl, wp_oS, sl_t, sl_l, sl_s, rds_nil, rds_d, omap_some, fzs_nil, fzs_d, fzW_d, wp_andV, wp_orV, wp_notV, wp_iSeq, its_t, its_l, wp_iEnum, en_t, en_l, wp_iZip, seq_t, seq_l, gtu, gscons, gsnil, wps_dput, wp_m0, wp_mm1, wps_par2, wp_yes, wipe0, wipeS, implies_true, forall_const, if_true, if_false, Bool.false_eq_true, Bool.not_true, Bool.not_false, wp_fd0, wp_fd1, mulT_i, mulT_l, wp_lrng, wp_revM, maxT_ii, wps_par3, isi_tup (gd_kn hgc)]
        by_cases hc : isTup c = true
        · obtain ⟨ys, rfl⟩ := isT_un hc
          rw [hc, if_neg (by decide), lenD_t, wpo_some, ne_ii, wpo_some, tr_bl, wpo_some, t2n]
          by_cases h3 : tN 2 (.tup ys) = true
          · obtain ⟨a, b, h4⟩ := t2_un h3
            cases h4
            obtain ⟨_, hg3⟩ := gd_tup hgc
            have ha := hg3 a (by simp)
            have hb := hg3 b (by simp)
            have hl : lnB (.tup [a, b]) = (wB a && (arB (ts a).length b && (ts b).all fun p => !decide (flw p = 0))) := rfl
            rw [hl] at he
            rw [h3, if_neg (by decide)]
            simp only [wp_ok, wpo_some, wp_bind, wp_ofE, rd_d, wp_pureD, wp_mD, wp_m1, wp_m2, wp_mB, wp_nil, wp_cons, wp_tup, wp_lst, wp_lstM, wp_ix, wp_sl, wp_oN, wp_call, wp_callK, wp_ifV, wp_tst, wp_tAnd, wp_tOr, wp_tNot, wps_nil, wps_brk, wps_cnt, wps_seq, wps_ret, wps_retN, wps_exp, wps_if, wps_asg, gnm, wps_for, wp_fnS, wp_fnK, ret_d, ret_lst, keep_refl, keep_app, startE, List.map_cons, List.map_nil, List.replicate_succ, List.replicate_zero, List.cons_append, List.nil_append, List.length_cons, List.length_nil, List.getElem?_cons_zero, List.getElem?_cons_succ, List.set_cons_zero, List.set_cons_succ, Option.bind_some, Nat.reduceAdd, Nat.reduceSub, List.take_length, List.take_left, true_and, and_true, wp_var0, wp_varS, at0, at1, at2, add_ii, add_tt, add_ll, sub_ii, lt_ii, le_ii, gt_ii, ge_ii, neg_i, eq_ii, ne_ii, eq_ss, ne_ss, tr_bl, tr_i, tr_t, tr_l, wp_ixt, wp_ixl, wp_oS, sl_t, sl_l, sl_s, rds_nil, rds_d, omap_some, fzs_nil, fzs_d, fzW_d, wp_andV, wp_orV, wp_notV, wp_iSeq, its_t, its_l, wp_iEnum, en_t, en_l, wp_iZip, seq_t, seq_l, gtu, gscons, gsnil, wps_dput, wp_m0, wp_mm1, wps_par2, wp_yes, wipe0, wipeS, implies_true, forall_const, if_true, if_false, Bool.false_eq_true, Bool.not_true, Bool.not_false, wp_fd0, wp_fd1, mulT_i, mulT_l, wp_lrng, wp_revM, maxT_ii, wps_par3, wp_eq (q_lw ha)]
            cases hw : wB a
            · rw [if_pos (by decide), ← he, hw]
              rfl
            · rw [if_neg (by decide)]
              obtain ⟨ns, rfl, hne, _⟩ := wB_un hw
              rw [lenD_t, wpo_some, wp_eq (q_lar hb), rd_d, Option.bind_some, tr_bl, wpo_some]
              rw [hw] at he
              simp only [ts, Bool.true_and] at he
              cases har : arB (ns.map D.int).length b
              · rw [if_pos (by decide)]
                refine ⟨Keep.refl', ?_, List.take_length⟩
                rw [← he, har]
                rfl
              · rw [if_neg (by decide)]
                rw [har] at he
                obtain ⟨zs, rfl, hp⟩ := ar_un har
                obtain ⟨hz2, _⟩ := gd_tup hb
                simp only [ts, Bool.true_and] at he
                refine wp_lcA id zs (fun p => decide (flw p = 0)) id ?_ fun c hc M => ?_
                · simp only [wp_ok, wpo_some, wp_bind, wp_ofE, rd_d, wp_pureD, wp_mD, wp_m1, wp_m2, wp_mB, wp_nil, wp_cons, wp_tup, wp_lst, wp_lstM, wp_ix, wp_sl, wp_oN, wp_call, wp_callK, wp_ifV, wp_tst, wp_tAnd, wp_tOr, wp_tNot, wps_nil, wps_brk, wps_cnt, wps_seq, wps_ret, wps_retN, wps_exp, wps_if, wps_asg, gnm, wps_for, wp_fnS, wp_fnK, ret_d, ret_lst, keep_refl, keep_app, startE, List.map_cons, List.map_nil, List.replicate_succ, List.replicate_zero, List.cons_append, List.nil_append, List.length_cons, List.length_nil, List.getElem?_cons_zero, List.getElem?_cons_succ, List.set_cons_zero, List.set_cons_succ, Option.bind_some, Nat.reduceAdd, Nat.reduceSub, List.take_length, List.take_left, true_and, and_true, wp_var0, wp_varS, at0, at1, at2, add_ii, add_tt, add_ll, sub_ii, lt_ii, le_ii, gt_ii, ge_ii, neg_i, eq_ii, ne_ii, eq_ss, ne_ss, tr_bl, tr_i, tr_t, tr_l, wp_ixt, wp_ixl, wp_oS, sl_t, sl_l, sl_s, rds_nil, rds_d, omap_some, fzs_nil, fzs_d, fzW_d, wp_andV, wp_orV, wp_notV, wp_iSeq, its_t, its_l, wp_iEnum, en_t, en_l, wp_iZip, seq_t, seq_l, gtu, gscons, gsnil, wps_dput, wp_m0, wp_mm1, wps_par2, wp_yes, wipe0, wipeS, implies_true, forall_const, if_true, if_false, Bool.false_eq_true, Bool.not_true, Bool.not_false, wp_fd0, wp_fd1, mulT_i, mulT_l, wp_lrng, wp_revM, maxT_ii, wps_par3, List.map_id, ne_nl, emp_filter]
                  refine ⟨hz2, szl, ?_⟩
                  cases han : zs.any fun p => decide (flw p = 0)
                  · rw [if_neg (by decide)]
                    refine ⟨_, _, rfl, hgr', ?_⟩
                    have hz3 : (zs.all fun p => !decide (flw p = 0)) = true := by
                      rw [List.all_eq_not_any_not]
                      simp only [Bool.not_not, han, Bool.not_false]
                    rw [← he, hz3]
                    rfl
                  · have hz3 : (zs.all fun p => !decide (flw p = 0)) = false := by
                      rw [List.all_eq_not_any_not]
                      simp only [Bool.not_not, han, Bool.not_true]
                    rw [if_pos rfl, ← he, hz3]
                    rfl
                · simp only [wp_ok, wpo_some, wp_bind, wp_ofE, rd_d, wp_pureD, wp_mD, wp_m1, wp_m2, wp_mB, wp_nil, wp_cons, wp_tup, wp_lst, wp_lstM, wp_ix, wp_sl, wp_oN, wp_call, wp_callK, wp_ifV, wp_tst, wp_tAnd, wp_tOr, wp_tNot, wps_nil, wps_brk, wps_cnt, wps_seq, wps_ret, wps_retN, wps_exp, wps_if, wps_asg, gnm, wps_for, wp_fnS, wp_fnK, ret_d, ret_lst, keep_refl, keep_app, startE, List.map_cons, List.map_nil, List.replicate_succ, List.replicate_zero, List.cons_append, List.nil_append, List.length_cons, List.length_nil, List.getElem?_cons_zero, List.getElem?_cons_succ, List.set_cons_zero, List.set_cons_succ, Option.bind_some, Nat.reduceAdd, Nat.reduceSub, List.take_length, List.take_left, true_and, and_true, wp_var0, wp_varS, at0, at1, at2, add_ii, add_tt, add_ll, sub_ii, lt_ii, le_ii, gt_ii, ge_ii, neg_i, eq_ii, ne_ii, eq_ss, ne_ss, tr_bl, tr_i, tr_t, tr_l, wp_ixt, wp_ixl, wp_oS, sl_t, sl_l, sl_s, rds_nil, rds_d, omap_some, fzs_nil, fzs_d, fzW_d, wp_andV, wp_orV, wp_notV, wp_iSeq, its_t, its_l, wp_iEnum, en_t, en_l, wp_iZip, seq_t, seq_l, gtu, gscons, gsnil, wps_dput, wp_m0, wp_mm1, wps_par2, wp_yes, wipe0, wipeS, implies_true, forall_const, if_true, if_false, Bool.false_eq_true, Bool.not_true, Bool.not_false, wp_fd0, wp_fd1, mulT_i, mulT_l, wp_lrng, wp_revM, maxT_ii, wps_par3, id, wp_flw (hp c hc)]
          · rw [Bool.not_eq_true] at h3
            rw [h3, if_pos (by decide), ← he, lnB_n h3]
            all_goals first | rfl | exact ⟨rfl, rfl⟩
        · rw [Bool.not_eq_true] at hc
          rw [hc, if_pos (by decide), ← he, lnB_n (by cases c <;> simp_all [tN, isTup])]
          all_goals first | rfl | exact ⟨rfl, rfl⟩
      · rintro env L' ⟨rfl, a1, a2, rfl, _, he⟩
        refine ⟨by simp only [wp_ok, wpo_some, wp_bind, wp_ofE, rd_d, wp_pureD, wp_mD, wp_m1, wp_m2, wp_mB, wp_nil, wp_cons, wp_tup, wp_lst, wp_lstM, wp_ix, wp_sl, wp_oN, wp_call, wp_callK, wp_ifV, wp_tst, wp_tAnd, wp_tOr, wp_tNot, wps_nil, wps_brk, wps_cnt, wps_seq, wps_ret, wps_retN, wps_exp, wps_if, wps_asg, gnm, wps_for, wp_fnS, wp_fnK, ret_d, ret_lst, keep_refl, keep_app, startE, List.map_cons, List.map_nil, List.replicate_succ, List.replicate_zero, List.cons_append, List.nil_append, List.length_cons, List.length_nil, List.getElem?_cons_zero, List.getElem?_cons_succ, List.set_cons_zero, List.set_cons_succ, Option.bind_some, Nat.reduceAdd, Nat.reduceSub, List.take_length, List.take_left, true_and, and_true, wp_var0, wp_varS, at0, at1, at2, add_ii, add_tt, add_ll, sub_ii, lt_ii, le_ii, gt_ii, ge_ii, neg_i, eq_ii, ne_ii, eq_ss, ne_ss, tr_bl, tr_i, tr_t, tr_l, wp_ixt, wp_ixl, wp_oS, sl_t, sl_l, sl_s, rds_nil, rds_d, omap_some, fzs_nil, fzs_d, fzW_d, wp_andV, wp_orV, wp_notV, wp_iSeq, its_t, its_l, wp_iEnum, en_t, en_l, wp_iZip, seq_t, seq_l, gtu, gscons, gsnil, wps_dput, wp_m0, wp_mm1, wps_par2, wp_yes, wipe0, wipeS, implies_true, forall_const, if_true, if_false, Bool.false_eq_true, Bool.not_true, Bool.not_false, wp_fd0, wp_fd1, mulT_i, mulT_l, wp_lrng, wp_revM, maxT_ii, wps_par3], ?_⟩
        rw [← he]
        simp only [wp_ok, wpo_some, wp_bind, wp_ofE, rd_d, wp_pureD, wp_mD, wp_m1, wp_m2, wp_mB, wp_nil, wp_cons, wp_tup, wp_lst, wp_lstM, wp_ix, wp_sl, wp_oN, wp_call, wp_callK, wp_ifV, wp_tst, wp_tAnd, wp_tOr, wp_tNot, wps_nil, wps_brk, wps_cnt, wps_seq, wps_ret, wps_retN, wps_exp, wps_if, wps_asg, gnm, wps_for, wp_fnS, wp_fnK, ret_d, ret_lst, keep_refl, keep_app, startE, List.map_cons, List.map_nil, List.replicate_succ, List.replicate_zero, List.cons_append, List.nil_append, List.length_cons, List.length_nil, List.getElem?_cons_zero, List.getElem?_cons_succ, List.set_cons_zero, List.set_cons_succ, Option.bind_some, Nat.reduceAdd, Nat.reduceSub, List.take_length, List.take_left, true_and, and_true, wp_var0, wp_varS, at0, at1, at2, add_ii, add_tt, add_ll, sub_ii, lt_ii, le_ii, gt_ii, ge_ii, neg_i, eq_ii, ne_ii, eq_ss, ne_ss, tr_bl, tr_i, tr_t, tr_l, wp_ixt, wp_ixl, wp_oS, sl_t, sl_l, sl_s, rds_nil, rds_d, omap_some, fzs_nil, fzs_d, fzW_d, wp_andV, wp_orV, wp_notV, wp_iSeq, its_t, its_l, wp_iEnum, en_t, en_l, wp_iZip, seq_t, seq_l, gtu, gscons, gsnil, wps_dput, wp_m0, wp_mm1, wps_par2, wp_yes, wipe0, wipeS, implies_true, forall_const, if_true, if_false, Bool.false_eq_true, Bool.not_true, Bool.not_false, wp_fd0, wp_fd1, mulT_i, mulT_l, wp_lrng, wp_revM, maxT_ii, wps_par3, List.all_nil, Bool.not_false, Bool.true_and]
    · rw [if_pos rfl]
      all_goals first | rfl | exact ⟨rfl, rfl⟩
  · simp only [Bool.not_eq_true] at ht
    rw [ht, if_pos (by decide)]
    have : rowB x = false := by cases x <;> first | rfl | simp [isTup] at ht
    rw [this]
    all_goals first | rfl | exact ⟨rfl, rfl⟩)
theorem rowB_un (h : rowB x = true) : ∃ xs, x = .tup xs ∧ ∀ p ∈ xs, ∃ (ns : List Int) (ps : List D), p = .tup [.tup (ns.map D.int), .tup ps] ∧ ns ≠ [] ∧ ∀ q ∈ ps, pkB q = true := by
  cases x <;> simp only [rowB, Bool.and_eq_true] at h <;> try cases h
  rename_i xs _ h2
  refine ⟨xs, rfl, fun p hp => ?_⟩
  have h3 := List.all_eq_true.mp h2 p hp
  have ht : tN 2 p = true := by
    cases hq : tN 2 p with
    | true => rfl
    | false => rw [lnB_n hq] at h3; cases h3
  obtain ⟨a, b, rfl⟩ := t2_un ht
  simp only [lnB, Bool.and_eq_true] at h3
  obtain ⟨hw, har, _⟩ := h3
  obtain ⟨ns, rfl, hne, _⟩ := wB_un hw
  obtain ⟨ps, rfl, hps⟩ := ar_un har
  exact ⟨ns, ps, rfl, hne, hps⟩
def wiB (ns : List Int) (ps : List D) : Bool := !(decide (8 < (ns.length : Int)) || decide (12 < maxI ns)) && !(decide (30 < (ps.length : Int)) || ps.any fun q => match q with | .tup [.int a, .int b, .int c] => decide (2000 < a) || (decide (7 < b) || decide (60 < c)) | _ => false)
theorem q_wi {ns : List Int} {ps : List D} (hn : ns ≠ []) (hl : ps.length ≤ sizeLine) (hp : ∀ q ∈ ps, pkB q = true) : s__law_are_within G [.d (.tup (ns.map D.int)), .d (.tup ps)] L = .ok (.d (.bl (wiB ns ps))) L := Wp.eq (by
  simp only [s__law_are_within, b__law_are_within, wp_ok, wpo_some, wp_bind, wp_ofE, rd_d, wp_pureD, wp_mD, wp_m1, wp_m2, wp_mB, wp_nil, wp_cons, wp_tup, wp_lst, wp_lstM, wp_ix, wp_sl, wp_oN, wp_call, wp_callK, wp_ifV, wp_tst, wp_tAnd, wp_tOr, wp_tNot, wps_nil, wps_brk, wps_cnt, wps_seq, wps_ret, wps_retN, wps_exp, wps_if, wps_asg, gnm, wps_for, wp_fnS, wp_fnK, ret_d, ret_lst, keep_refl, keep_app, startE, List.map_cons, List.map_nil, List.replicate_succ, List.replicate_zero, List.cons_append, List.nil_append, List.length_cons, List.length_nil, List.getElem?_cons_zero, List.getElem?_cons_succ, List.set_cons_zero, List.set_cons_succ, Option.bind_some, Nat.reduceAdd, Nat.reduceSub, List.take_length, List.take_left, true_and, and_true, wp_var0, wp_varS, at0, at1, at2, add_ii, add_tt, add_ll, sub_ii, lt_ii, le_ii, gt_ii, ge_ii, neg_i, eq_ii, ne_ii, eq_ss, ne_ss, tr_bl, tr_i, tr_t, tr_l, wp_ixt, wp_ixl, wp_oS, sl_t, sl_l, sl_s, rds_nil, rds_d, omap_some, fzs_nil, fzs_d, fzW_d, wp_andV, wp_orV, wp_notV, wp_iSeq, its_t, its_l, wp_iEnum, en_t, en_l, wp_iZip, seq_t, seq_l, gtu, gscons, gsnil, wps_dput, wp_m0, wp_mm1, wps_par2, wp_yes, wipe0, wipeS, implies_true, forall_const, if_true, if_false, Bool.false_eq_true, Bool.not_true, Bool.not_false, wp_fd0, wp_fd1, mulT_i, mulT_l, wp_lrng, wp_revM, maxT_ii, wps_par3, wp_isN, D.isNon, lenD_t, List.length_map, maxT_t hn]
  unfold wiB
  cases h1 : decide (8 < (ns.length : Int))
  · rw [if_neg (by decide)]
    cases h2 : decide (12 < maxI ns)
    · rw [if_neg (by decide)]
      cases h3 : decide (30 < (ps.length : Int))
      · rw [if_neg (by decide)]
        refine wp_lcA id ps (fun q => match q with | .tup [.int a, .int b, .int c] => decide (2000 < a) || (decide (7 < b) || decide (60 < c)) | _ => false) id ?_ fun c hc M => ?_
        · simp only [wp_ok, wpo_some, wp_bind, wp_ofE, rd_d, wp_pureD, wp_mD, wp_m1, wp_m2, wp_mB, wp_nil, wp_cons, wp_tup, wp_lst, wp_lstM, wp_ix, wp_sl, wp_oN, wp_call, wp_callK, wp_ifV, wp_tst, wp_tAnd, wp_tOr, wp_tNot, wps_nil, wps_brk, wps_cnt, wps_seq, wps_ret, wps_retN, wps_exp, wps_if, wps_asg, gnm, wps_for, wp_fnS, wp_fnK, ret_d, ret_lst, keep_refl, keep_app, startE, List.map_cons, List.map_nil, List.replicate_succ, List.replicate_zero, List.cons_append, List.nil_append, List.length_cons, List.length_nil, List.getElem?_cons_zero, List.getElem?_cons_succ, List.set_cons_zero, List.set_cons_succ, Option.bind_some, Nat.reduceAdd, Nat.reduceSub, List.take_length, List.take_left, true_and, and_true, wp_var0, wp_varS, at0, at1, at2, add_ii, add_tt, add_ll, sub_ii, lt_ii, le_ii, gt_ii, ge_ii, neg_i, eq_ii, ne_ii, eq_ss, ne_ss, tr_bl, tr_i, tr_t, tr_l, wp_ixt, wp_ixl, wp_oS, sl_t, sl_l, sl_s, rds_nil, rds_d, omap_some, fzs_nil, fzs_d, fzW_d, wp_andV, wp_orV, wp_notV, wp_iSeq, its_t, its_l, wp_iEnum, en_t, en_l, wp_iZip, seq_t, seq_l, gtu, gscons, gsnil, wps_dput, wp_m0, wp_mm1, wps_par2, wp_yes, wipe0, wipeS, implies_true, forall_const, if_true, if_false, Bool.false_eq_true, Bool.not_true, Bool.not_false, wp_fd0, wp_fd1, mulT_i, mulT_l, wp_lrng, wp_revM, maxT_ii, wps_par3, List.map_id, ne_nl, emp_filter]
          refine ⟨hl, szl, ?_⟩
          split
          · rename_i h4
            rw [h4]
            all_goals first | rfl | exact ⟨rfl, rfl⟩
          · rename_i h4
            rw [Bool.not_eq_true] at h4
            rw [h4]
            all_goals first | rfl | exact ⟨rfl, rfl⟩
        · obtain ⟨i, j, k, rfl, _⟩ := pkB_un (hp c hc)
          simp only [wp_ok, wpo_some, wp_bind, wp_ofE, rd_d, wp_pureD, wp_mD, wp_m1, wp_m2, wp_mB, wp_nil, wp_cons, wp_tup, wp_lst, wp_lstM, wp_ix, wp_sl, wp_oN, wp_call, wp_callK, wp_ifV, wp_tst, wp_tAnd, wp_tOr, wp_tNot, wps_nil, wps_brk, wps_cnt, wps_seq, wps_ret, wps_retN, wps_exp, wps_if, wps_asg, gnm, wps_for, wp_fnS, wp_fnK, ret_d, ret_lst, keep_refl, keep_app, startE, List.map_cons, List.map_nil, List.replicate_succ, List.replicate_zero, List.cons_append, List.nil_append, List.length_cons, List.length_nil, List.getElem?_cons_zero, List.getElem?_cons_succ, List.set_cons_zero, List.set_cons_succ, Option.bind_some, Nat.reduceAdd, Nat.reduceSub, List.take_length, List.take_left, true_and, and_true, wp_var0, wp_varS, at0, at1, at2, add_ii, add_tt, add_ll, sub_ii, lt_ii, le_ii, gt_ii, ge_ii, neg_i, eq_ii, ne_ii, eq_ss, ne_ss, tr_bl, tr_i, tr_t, tr_l, wp_ixt, wp_ixl, wp_oS, sl_t, sl_l, sl_s, rds_nil, rds_d, omap_some, fzs_nil, fzs_d, fzW_d, wp_andV, wp_orV, wp_notV, wp_iSeq, its_t, its_l, wp_iEnum, en_t, en_l, wp_iZip, seq_t, seq_l, gtu, gscons, gsnil, wps_dput, wp_m0, wp_mm1, wps_par2, wp_yes, wipe0, wipeS, implies_true, forall_const, if_true, if_false, Bool.false_eq_true, Bool.not_true, Bool.not_false, wp_fd0, wp_fd1, mulT_i, mulT_l, wp_lrng, wp_revM, maxT_ii, wps_par3, id]
          by_cases d1 : decide (2000 < i) = true
          · rw [if_pos d1, d1]; all_goals first | rfl | exact ⟨rfl, rfl⟩
          · rw [if_neg d1]
            rw [Bool.not_eq_true] at d1
            rw [d1]
            by_cases d2 : decide (7 < j) = true
            · rw [if_pos d2, d2]; all_goals first | rfl | exact ⟨rfl, rfl⟩
            · rw [if_neg d2]
              rw [Bool.not_eq_true] at d2
              rw [d2]
              simp
      · rw [if_pos rfl]
        all_goals first | rfl | exact ⟨rfl, rfl⟩
    · rw [if_pos rfl]
      simp
  · rw [if_pos rfl]
    simp)
theorem w_rwi (h : rowB x = true) (hg : gd (some G.cLine) x = true) : Wp (s__law_is_row_within G [.d x, .d (.int 0)] L) fun w L' => ∃ b, w = .d (.bl b) ∧ L' = L := by
  obtain ⟨xs, rfl, hx⟩ := rowB_un h
  obtain ⟨hz, hgx⟩ := gd_tup hg
  simp only [s__law_is_row_within, b__law_is_row_within, wp_ok, wpo_some, wp_bind, wp_ofE, rd_d, wp_pureD, wp_mD, wp_m1, wp_m2, wp_mB, wp_nil, wp_cons, wp_tup, wp_lst, wp_lstM, wp_ix, wp_sl, wp_oN, wp_call, wp_callK, wp_ifV, wp_tst, wp_tAnd, wp_tOr, wp_tNot, wps_nil, wps_brk, wps_cnt, wps_seq, wps_ret, wps_retN, wps_exp, wps_if, wps_asg, gnm, wps_for, wp_fnS, wp_fnK, ret_d, ret_lst, keep_refl, keep_app, startE, List.map_cons, List.map_nil, List.replicate_succ, List.replicate_zero, List.cons_append, List.nil_append, List.length_cons, List.length_nil, List.getElem?_cons_zero, List.getElem?_cons_succ, List.set_cons_zero, List.set_cons_succ, Option.bind_some, Nat.reduceAdd, Nat.reduceSub, List.take_length, List.take_left, true_and, and_true, wp_var0, wp_varS, at0, at1, at2, add_ii, add_tt, add_ll, sub_ii, lt_ii, le_ii, gt_ii, ge_ii, neg_i, eq_ii, ne_ii, eq_ss, ne_ss, tr_bl, tr_i, tr_t, tr_l, wp_ixt, wp_ixl, wp_oS, sl_t, sl_l, sl_s, rds_nil, rds_d, omap_some, fzs_nil, fzs_d, fzW_d, wp_andV, wp_orV, wp_notV, wp_iSeq, its_t, its_l, wp_iEnum, en_t, en_l, wp_iZip, seq_t, seq_l, gtu, gscons, gsnil, wps_dput, wp_m0, wp_mm1, wps_par2, wp_yes, wipe0, wipeS, implies_true, forall_const, if_true, if_false, Bool.false_eq_true, Bool.not_true, Bool.not_false, wp_fd0, wp_fd1, mulT_i, mulT_l, wp_lrng, wp_revM, maxT_ii, wps_par3, lenD_t, gt_ii]
  by_cases hl : decide ((4 : Int) < (xs.length : Int)) = true
  · rw [if_pos hl]
    exact ⟨_, rfl⟩
  · rw [if_neg hl]
    refine wp_lcA id xs (fun p => match p with | .tup [.tup ns, .tup ps] => !wiB ((intsD ns).getD []) ps || decide ((30 : Int) < ps.length + 0) | _ => false) (fun _ => .int 1) ?_ fun c hc M => ?_
    · simp only [wp_ok, wpo_some, wp_bind, wp_ofE, rd_d, wp_pureD, wp_mD, wp_m1, wp_m2, wp_mB, wp_nil, wp_cons, wp_tup, wp_lst, wp_lstM, wp_ix, wp_sl, wp_oN, wp_call, wp_callK, wp_ifV, wp_tst, wp_tAnd, wp_tOr, wp_tNot, wps_nil, wps_brk, wps_cnt, wps_seq, wps_ret, wps_retN, wps_exp, wps_if, wps_asg, gnm, wps_for, wp_fnS, wp_fnK, ret_d, ret_lst, keep_refl, keep_app, startE, List.map_cons, List.map_nil, List.replicate_succ, List.replicate_zero, List.cons_append, List.nil_append, List.length_cons, List.length_nil, List.getElem?_cons_zero, List.getElem?_cons_succ, List.set_cons_zero, List.set_cons_succ, Option.bind_some, Nat.reduceAdd, Nat.reduceSub, List.take_length, List.take_left, true_and, and_true, wp_var0, wp_varS, at0, at1, at2, add_ii, add_tt, add_ll, sub_ii, lt_ii, le_ii, gt_ii, ge_ii, neg_i, eq_ii, ne_ii, eq_ss, ne_ss, tr_bl, tr_i, tr_t, tr_l, wp_ixt, wp_ixl, wp_oS, sl_t, sl_l, sl_s, rds_nil, rds_d, omap_some, fzs_nil, fzs_d, fzW_d, wp_andV, wp_orV, wp_notV, wp_iSeq, its_t, its_l, wp_iEnum, en_t, en_l, wp_iZip, seq_t, seq_l, gtu, gscons, gsnil, wps_dput, wp_m0, wp_mm1, wps_par2, wp_yes, wipe0, wipeS, implies_true, forall_const, if_true, if_false, Bool.false_eq_true, Bool.not_true, Bool.not_false, wp_fd0, wp_fd1, mulT_i, mulT_l, wp_lrng, wp_revM, maxT_ii, wps_par3, List.map_id, eq_nl]
      exact ⟨hz, szl, _, rfl⟩
    · obtain ⟨ns, ps, rfl, hne, hp⟩ := hx c hc
      have hgc := (gd_tup (hgx _ hc)).2
      have hpl := (gd_tup (hgc (.tup ps) (by simp))).1
      simp only [wp_ok, wpo_some, wp_bind, wp_ofE, rd_d, wp_pureD, wp_mD, wp_m1, wp_m2, wp_mB, wp_nil, wp_cons, wp_tup, wp_lst, wp_lstM, wp_ix, wp_sl, wp_oN, wp_call, wp_callK, wp_ifV, wp_tst, wp_tAnd, wp_tOr, wp_tNot, wps_nil, wps_brk, wps_cnt, wps_seq, wps_ret, wps_retN, wps_exp, wps_if, wps_asg, gnm, wps_for, wp_fnS, wp_fnK, ret_d, ret_lst, keep_refl, keep_app, startE, List.map_cons, List.map_nil, List.replicate_succ, List.replicate_zero, List.cons_append, List.nil_append, List.length_cons, List.length_nil, List.getElem?_cons_zero, List.getElem?_cons_succ, List.set_cons_zero, List.set_cons_succ, Option.bind_some, Nat.reduceAdd, Nat.reduceSub, List.take_length, List.take_left, true_and, and_true, wp_var0, wp_varS, at0, at1, at2, add_ii, add_tt, add_ll, sub_ii, lt_ii, le_ii, gt_ii, ge_ii, neg_i, eq_ii, ne_ii, eq_ss, ne_ss, tr_bl, tr_i, tr_t, tr_l, wp_ixt, wp_ixl, wp_oS, sl_t, sl_l, sl_s, rds_nil, rds_d, omap_some, fzs_nil, fzs_d, fzW_d, wp_andV, wp_orV, wp_notV, wp_iSeq, its_t, its_l, wp_iEnum, en_t, en_l, wp_iZip, seq_t, seq_l, gtu, gscons, gsnil, wps_dput, wp_m0, wp_mm1, wps_par2, wp_yes, wipe0, wipeS, implies_true, forall_const, if_true, if_false, Bool.false_eq_true, Bool.not_true, Bool.not_false, wp_fd0, wp_fd1, mulT_i, mulT_l, wp_lrng, wp_revM, maxT_ii, wps_par3, id, wp_eq (q_wi hne hpl hp), lenD_t, intsD_of, Option.getD_some]
      cases wiB ns ps
      · rw [if_pos (by decide)]
        all_goals first | rfl | exact ⟨rfl, rfl⟩
      · rw [if_neg (by decide)]
        simp
end
end MP.Fk40
namespace MP.Fk40
open PySem PySem.Spec PyProof.Rows L2 MP
section
variable {G : Cst} {R L : LH} {n : Nat}
abbrev Tri := Int × Int × Int
def tri (c : Tri) : D := .tup [.int c.1, .int c.2.1, .int c.2.2]
structure OkP (c : Tri) : Prop where
  a0 : 0 ≤ c.1
  a1 : c.1 ≤ 2000
  b0 : 0 ≤ c.2.1
  b1 : c.2.1 ≤ 8
  w0 : 0 ≤ c.2.2
  w1 : c.2.2 ≤ 60
theorem w_weights {k : Nat} {m : Int} (e : (k : Int) = m) (h0 : 1 ≤ k) (h1 : k ≤ 8) (h : Dk (n + 2 * k + 2) R L) : Wp (s__law_weights G [.loc 0, .d (.int m)] L) fun w L' => ∃ ns : List Int, w = .d (.tup (ns.map D.int)) ∧ ns.length = k ∧ (∀ i ∈ ns, 0 ≤ i ∧ i ≤ 12) ∧ Dk n R L' := by
  simp only [s__law_weights, b__law_weights, wp_ok, wpo_some, wp_bind, wp_ofE, rd_d, wp_pureD, wp_mD, wp_m1, wp_m2, wp_mB, wp_nil, wp_cons, wp_tup, wp_lst, wp_lstM, wp_ix, wp_sl, wp_oN, wp_call, wp_callK, wp_ifV, wp_tst, wp_tAnd, wp_tOr, wp_tNot, wps_nil, wps_brk, wps_cnt, wps_seq, wps_ret, wps_retN, wps_exp, wps_if, wps_asg, gnm, wps_for, wp_fnS, wp_fnK, ret_d, ret_lst, keep_refl, keep_app, startE, List.map_cons, List.map_nil, List.replicate_succ, List.replicate_zero, List.cons_append, List.nil_append, List.length_cons, List.length_nil, List.getElem?_cons_zero, List.getElem?_cons_succ, List.set_cons_zero, List.set_cons_succ, Option.bind_some, Nat.reduceAdd, Nat.reduceSub, List.take_length, List.take_left, true_and, and_true, wp_var0, wp_varS, at0, at1, at2, add_ii, add_tt, add_ll, sub_ii, lt_ii, le_ii, gt_ii, ge_ii, neg_i, eq_ii, ne_ii, eq_ss, ne_ss, tr_bl, tr_i, tr_t, tr_l, wp_ixt, wp_ixl, wp_oS, sl_t, sl_l, sl_s, rds_nil, rds_d, omap_some, fzs_nil, fzs_d, fzW_d, wp_andV, wp_orV, wp_notV, wp_iSeq, its_t, its_l, wp_iEnum, en_t, en_l, wp_iZip, seq_t, seq_l, gtu, gscons, gsnil, wps_dput, wp_m0, wp_mm1, wps_par2, wp_yes, wipe0, wipeS, implies_true, forall_const, if_true, if_false, Bool.false_eq_true, Bool.not_true, Bool.not_false, wp_fd0, wp_fd1, mulT_i, mulT_l, wp_lrng, wp_revM, maxT_ii, wps_par3]
  refine (w_draw G (n := n + 2 * k + 1) h (by decide) (by decide)).imp fun w L1 ⟨way, ew, w0, w1, hd⟩ => ?_
  subst ew
  simp only [wp_ok, wpo_some, wp_bind, wp_ofE, rd_d, wp_pureD, wp_mD, wp_m1, wp_m2, wp_mB, wp_nil, wp_cons, wp_tup, wp_lst, wp_lstM, wp_ix, wp_sl, wp_oN, wp_call, wp_callK, wp_ifV, wp_tst, wp_tAnd, wp_tOr, wp_tNot, wps_nil, wps_brk, wps_cnt, wps_seq, wps_ret, wps_retN, wps_exp, wps_if, wps_asg, gnm, wps_for, wp_fnS, wp_fnK, ret_d, ret_lst, keep_refl, keep_app, startE, List.map_cons, List.map_nil, List.replicate_succ, List.replicate_zero, List.cons_append, List.nil_append, List.length_cons, List.length_nil, List.getElem?_cons_zero, List.getElem?_cons_succ, List.set_cons_zero, List.set_cons_succ, Option.bind_some, Nat.reduceAdd, Nat.reduceSub, List.take_length, List.take_left, true_and, and_true, wp_var0, wp_varS, at0, at1, at2, add_ii, add_tt, add_ll, sub_ii, lt_ii, le_ii, gt_ii, ge_ii, neg_i, eq_ii, ne_ii, eq_ss, ne_ss, tr_bl, tr_i, tr_t, tr_l, wp_ixt, wp_ixl, wp_oS, sl_t, sl_l, sl_s, rds_nil, rds_d, omap_some, fzs_nil, fzs_d, fzW_d, wp_andV, wp_orV, wp_notV, wp_iSeq, its_t, its_l, wp_iEnum, en_t, en_l, wp_iZip, seq_t, seq_l, gtu, gscons, gsnil, wps_dput, wp_m0, wp_mm1, wps_par2, wp_yes, wipe0, wipeS, implies_true, forall_const, if_true, if_false, Bool.false_eq_true, Bool.not_true, Bool.not_false, wp_fd0, wp_fd1, mulT_i, mulT_l, wp_lrng, wp_revM, maxT_ii, wps_par3]
  have fin : ∀ (ns : List Int) (L' : LH), ns.length = k → (∀ i ∈ ns, 0 ≤ i ∧ i ≤ 12) → Dk n R L' → Keep L.length L L' ∧ ∃ ns' : List Int, W.d (.tup (ns.map D.int)) = .d (.tup (ns'.map D.int)) ∧ ns'.length = k ∧ (∀ i ∈ ns', 0 ≤ i ∧ i ≤ 12) ∧ Dk n R (L'.take L.length) := fun ns L' h2 h3 h4 => by
    obtain ⟨hk, hd'⟩ := h.fin0 h4
    exact ⟨hk, ns, rfl, h2, h3, hd'⟩
  have hr : (rngD 0 k).length = k := by simp [rngD]
  have hm62 : -(2 ^ 62) ≤ m ∧ m < 2 ^ 62 := by omega
  have hm : m.toNat = k := by omega
  by_cases c0 : decide (way = 0) = true
  · rw [if_pos c0]
    refine (w_draw G (n := n + 2 * k) hd (by decide) (by decide)).imp fun w L2 ⟨r, ew, r0, r1, hd⟩ => ?_
    subst ew
    rw [rd_d, Option.bind_some, add_ii, wpo_some]
    refine ⟨szl, ?_⟩
    rw [mulT_one e h0 (by omega), wpo_some]
    exact fin (List.replicate k (1 + r)) L2 (by simp) (fun i hi => by rw [List.eq_of_mem_replicate hi]; omega) (hd.le (by omega))
  · rw [if_neg c0]
    by_cases c1 : decide (way = 1) = true
    · rw [if_pos c1]
      refine w_lcD (n := n) (c := 1) k (fun z => ∃ i, z = .int i ∧ (0 ≤ i ∧ i ≤ 12)) (hd.le (by omega)) ?_ ?_ ?_
      · simp only [wp_rngI, wp_ok, wpo_some, wp_bind, wp_ofE, rd_d, wp_pureD, wp_mD, wp_m1, wp_m2, wp_mB, wp_nil, wp_cons, wp_tup, wp_lst, wp_lstM, wp_ix, wp_sl, wp_oN, wp_call, wp_callK, wp_ifV, wp_tst, wp_tAnd, wp_tOr, wp_tNot, wps_nil, wps_brk, wps_cnt, wps_seq, wps_ret, wps_retN, wps_exp, wps_if, wps_asg, gnm, wps_for, wp_fnS, wp_fnK, ret_d, ret_lst, keep_refl, keep_app, startE, List.map_cons, List.map_nil, List.replicate_succ, List.replicate_zero, List.cons_append, List.nil_append, List.length_cons, List.length_nil, List.getElem?_cons_zero, List.getElem?_cons_succ, List.set_cons_zero, List.set_cons_succ, Option.bind_some, Nat.reduceAdd, Nat.reduceSub, List.take_length, List.take_left, true_and, and_true, wp_var0, wp_varS, at0, at1, at2, add_ii, add_tt, add_ll, sub_ii, lt_ii, le_ii, gt_ii, ge_ii, neg_i, eq_ii, ne_ii, eq_ss, ne_ss, tr_bl, tr_i, tr_t, tr_l, wp_ixt, wp_ixl, wp_oS, sl_t, sl_l, sl_s, rds_nil, rds_d, omap_some, fzs_nil, fzs_d, fzW_d, wp_andV, wp_orV, wp_notV, wp_iSeq, its_t, its_l, wp_iEnum, en_t, en_l, wp_iZip, seq_t, seq_l, gtu, gscons, gsnil, wps_dput, wp_m0, wp_mm1, wps_par2, wp_yes, wipe0, wipeS, implies_true, forall_const, if_true, if_false, Bool.false_eq_true, Bool.not_true, Bool.not_false, wp_fd0, wp_fd1, mulT_i, mulT_l, wp_lrng, wp_revM, maxT_ii, wps_par3, hm]
        exact ⟨hm62, hr, by rw [sm2]; omega⟩
      · intro x acc q M hM
        simp only [wp_ok, wpo_some, wp_bind, wp_ofE, rd_d, wp_pureD, wp_mD, wp_m1, wp_m2, wp_mB, wp_nil, wp_cons, wp_tup, wp_lst, wp_lstM, wp_ix, wp_sl, wp_oN, wp_call, wp_callK, wp_ifV, wp_tst, wp_tAnd, wp_tOr, wp_tNot, wps_nil, wps_brk, wps_cnt, wps_seq, wps_ret, wps_retN, wps_exp, wps_if, wps_asg, gnm, wps_for, wp_fnS, wp_fnK, ret_d, ret_lst, keep_refl, keep_app, startE, List.map_cons, List.map_nil, List.replicate_succ, List.replicate_zero, List.cons_append, List.nil_append, List.length_cons, List.length_nil, List.getElem?_cons_zero, List.getElem?_cons_succ, List.set_cons_zero, List.set_cons_succ, Option.bind_some, Nat.reduceAdd, Nat.reduceSub, List.take_length, List.take_left, true_and, and_true, wp_var0, wp_varS, at0, at1, at2, add_ii, add_tt, add_ll, sub_ii, lt_ii, le_ii, gt_ii, ge_ii, neg_i, eq_ii, ne_ii, eq_ss, ne_ss, tr_bl, tr_i, tr_t, tr_l, wp_ixt, wp_ixl, wp_oS, sl_t, sl_l, sl_s, rds_nil, rds_d, omap_some, fzs_nil, fzs_d, fzW_d, wp_andV, wp_orV, wp_notV, wp_iSeq, its_t, its_l, wp_iEnum, en_t, en_l, wp_iZip, seq_t, seq_l, gtu, gscons, gsnil, wps_dput, wp_m0, wp_mm1, wps_par2, wp_yes, wipe0, wipeS, implies_true, forall_const, if_true, if_false, Bool.false_eq_true, Bool.not_true, Bool.not_false, wp_fd0, wp_fd1, mulT_i, mulT_l, wp_lrng, wp_revM, maxT_ii, wps_par3, sz0, sz1, sz2, sz3, sz4, sz5, sz6, sz7, sz8, sz9, sz10, sz11, sz12, sz13, sz14, sz15, sz16, sz17, sz18, sz19, sz20, sz21, sz22, sz23, sz24, sz25, sz26, sz27, sz28, sz29, sz30, sz31, sz32, sz33, sz34, sz35, sz36, sz37, sz38, sz39, sz40, sz41, sz42, sz43, sz44, sz45, sz46, sz47, sz48, sz49, sz50, sz51, sz52, sz53, sz54, sz55, sz56, sz57, sz58, sz59, sz60, sz61, sz62, sz63]
        refine (w_pick G (n := q) hM (by simp) (by simp only [List.length_cons, List.length_nil]; decide)).imp fun w M2 ⟨z, hz, ew, hd⟩ => ⟨z, ew, ?_, hd⟩
        simp only [List.mem_cons, List.not_mem_nil, or_false] at hz
        rcases hz with rfl | rfl | rfl | rfl <;> exact ⟨_, rfl, by omega⟩
      · intro zs L2 hl hz hd2
        obtain ⟨ns, rfl, hn⟩ := ints_ex hz
        simp only [wp_ok, wpo_some, wp_bind, wp_ofE, rd_d, wp_pureD, wp_mD, wp_m1, wp_m2, wp_mB, wp_nil, wp_cons, wp_tup, wp_lst, wp_lstM, wp_ix, wp_sl, wp_oN, wp_call, wp_callK, wp_ifV, wp_tst, wp_tAnd, wp_tOr, wp_tNot, wps_nil, wps_brk, wps_cnt, wps_seq, wps_ret, wps_retN, wps_exp, wps_if, wps_asg, gnm, wps_for, wp_fnS, wp_fnK, ret_d, ret_lst, keep_refl, keep_app, startE, List.map_cons, List.map_nil, List.replicate_succ, List.replicate_zero, List.cons_append, List.nil_append, List.length_cons, List.length_nil, List.getElem?_cons_zero, List.getElem?_cons_succ, List.set_cons_zero, List.set_cons_succ, Option.bind_some, Nat.reduceAdd, Nat.reduceSub, List.take_length, List.take_left, true_and, and_true, wp_var0, wp_varS, at0, at1, at2, add_ii, add_tt, add_ll, sub_ii, lt_ii, le_ii, gt_ii, ge_ii, neg_i, eq_ii, ne_ii, eq_ss, ne_ss, tr_bl, tr_i, tr_t, tr_l, wp_ixt, wp_ixl, wp_oS, sl_t, sl_l, sl_s, rds_nil, rds_d, omap_some, fzs_nil, fzs_d, fzW_d, wp_andV, wp_orV, wp_notV, wp_iSeq, its_t, its_l, wp_iEnum, en_t, en_l, wp_iZip, seq_t, seq_l, gtu, gscons, gsnil, wps_dput, wp_m0, wp_mm1, wps_par2, wp_yes, wipe0, wipeS, implies_true, forall_const, if_true, if_false, Bool.false_eq_true, Bool.not_true, Bool.not_false, wp_fd0, wp_fd1, mulT_i, mulT_l, wp_lrng, wp_revM, maxT_ii, wps_par3, tupD_l]
        exact fin ns L2 (by simpa using hl) hn hd2
    · rw [if_neg c1]
      refine w_lcD (n := n) (c := 2) k (fun z => ∃ i, z = .int i ∧ (0 ≤ i ∧ i ≤ 12)) (hd.le (by omega)) ?_ ?_ ?_
      · simp only [wp_rngI, wp_ok, wpo_some, wp_bind, wp_ofE, rd_d, wp_pureD, wp_mD, wp_m1, wp_m2, wp_mB, wp_nil, wp_cons, wp_tup, wp_lst, wp_lstM, wp_ix, wp_sl, wp_oN, wp_call, wp_callK, wp_ifV, wp_tst, wp_tAnd, wp_tOr, wp_tNot, wps_nil, wps_brk, wps_cnt, wps_seq, wps_ret, wps_retN, wps_exp, wps_if, wps_asg, gnm, wps_for, wp_fnS, wp_fnK, ret_d, ret_lst, keep_refl, keep_app, startE, List.map_cons, List.map_nil, List.replicate_succ, List.replicate_zero, List.cons_append, List.nil_append, List.length_cons, List.length_nil, List.getElem?_cons_zero, List.getElem?_cons_succ, List.set_cons_zero, List.set_cons_succ, Option.bind_some, Nat.reduceAdd, Nat.reduceSub, List.take_length, List.take_left, true_and, and_true, wp_var0, wp_varS, at0, at1, at2, add_ii, add_tt, add_ll, sub_ii, lt_ii, le_ii, gt_ii, ge_ii, neg_i, eq_ii, ne_ii, eq_ss, ne_ss, tr_bl, tr_i, tr_t, tr_l, wp_ixt, wp_ixl, wp_oS, sl_t, sl_l, sl_s, rds_nil, rds_d, omap_some, fzs_nil, fzs_d, fzW_d, wp_andV, wp_orV, wp_notV, wp_iSeq, its_t, its_l, wp_iEnum, en_t, en_l, wp_iZip, seq_t, seq_l, gtu, gscons, gsnil, wps_dput, wp_m0, wp_mm1, wps_par2, wp_yes, wipe0, wipeS, implies_true, forall_const, if_true, if_false, Bool.false_eq_true, Bool.not_true, Bool.not_false, wp_fd0, wp_fd1, mulT_i, mulT_l, wp_lrng, wp_revM, maxT_ii, wps_par3, hm]
        exact ⟨hm62, hr, by rw [sm2]; omega⟩
      · intro x acc q M hM
        simp only [wp_ok, wpo_some, wp_bind, wp_ofE, rd_d, wp_pureD, wp_mD, wp_m1, wp_m2, wp_mB, wp_nil, wp_cons, wp_tup, wp_lst, wp_lstM, wp_ix, wp_sl, wp_oN, wp_call, wp_callK, wp_ifV, wp_tst, wp_tAnd, wp_tOr, wp_tNot, wps_nil, wps_brk, wps_cnt, wps_seq, wps_ret, wps_retN, wps_exp, wps_if, wps_asg, gnm, wps_for, wp_fnS, wp_fnK, ret_d, ret_lst, keep_refl, keep_app, startE, List.map_cons, List.map_nil, List.replicate_succ, List.replicate_zero, List.cons_append, List.nil_append, List.length_cons, List.length_nil, List.getElem?_cons_zero, List.getElem?_cons_succ, List.set_cons_zero, List.set_cons_succ, Option.bind_some, Nat.reduceAdd, Nat.reduceSub, List.take_length, List.take_left, true_and, and_true, wp_var0, wp_varS, at0, at1, at2, add_ii, add_tt, add_ll, sub_ii, lt_ii, le_ii, gt_ii, ge_ii, neg_i, eq_ii, ne_ii, eq_ss, ne_ss, tr_bl, tr_i, tr_t, tr_l, wp_ixt, wp_ixl, wp_oS, sl_t, sl_l, sl_s, rds_nil, rds_d, omap_some, fzs_nil, fzs_d, fzW_d, wp_andV, wp_orV, wp_notV, wp_iSeq, its_t, its_l, wp_iEnum, en_t, en_l, wp_iZip, seq_t, seq_l, gtu, gscons, gsnil, wps_dput, wp_m0, wp_mm1, wps_par2, wp_yes, wipe0, wipeS, implies_true, forall_const, if_true, if_false, Bool.false_eq_true, Bool.not_true, Bool.not_false, wp_fd0, wp_fd1, mulT_i, mulT_l, wp_lrng, wp_revM, maxT_ii, wps_par3, sz0, sz1, sz2, sz3, sz4, sz5, sz6, sz7, sz8, sz9, sz10, sz11, sz12, sz13, sz14, sz15, sz16, sz17, sz18, sz19, sz20, sz21, sz22, sz23, sz24, sz25, sz26, sz27, sz28, sz29, sz30, sz31, sz32, sz33, sz34, sz35, sz36, sz37, sz38, sz39, sz40, sz41, sz42, sz43, sz44, sz45, sz46, sz47, sz48, sz49, sz50, sz51, sz52, sz53, sz54, sz55, sz56, sz57, sz58, sz59, sz60, sz61, sz62, sz63]
        refine (w_dp G (n := q) (ns := [3, 5, 12]) (B := 12) hM).imp fun x1 L1 hx => hx.imp fun y M2 ⟨a, ea, a0, a1, hd1⟩ => ?_
        subst ea
        rw [rd_d, Option.bind_some, add_ii, wpo_some]
        exact ⟨_, rfl, ⟨_, rfl, by omega⟩, hd1⟩
      · intro zs L2 hl hz hd2
        obtain ⟨ns, rfl, hn⟩ := ints_ex hz
        simp only [wp_ok, wpo_some, wp_bind, wp_ofE, rd_d, wp_pureD, wp_mD, wp_m1, wp_m2, wp_mB, wp_nil, wp_cons, wp_tup, wp_lst, wp_lstM, wp_ix, wp_sl, wp_oN, wp_call, wp_callK, wp_ifV, wp_tst, wp_tAnd, wp_tOr, wp_tNot, wps_nil, wps_brk, wps_cnt, wps_seq, wps_ret, wps_retN, wps_exp, wps_if, wps_asg, gnm, wps_for, wp_fnS, wp_fnK, ret_d, ret_lst, keep_refl, keep_app, startE, List.map_cons, List.map_nil, List.replicate_succ, List.replicate_zero, List.cons_append, List.nil_append, List.length_cons, List.length_nil, List.getElem?_cons_zero, List.getElem?_cons_succ, List.set_cons_zero, List.set_cons_succ, Option.bind_some, Nat.reduceAdd, Nat.reduceSub, List.take_length, List.take_left, true_and, and_true, wp_var0, wp_varS, at0, at1, at2, add_ii, add_tt, add_ll, sub_ii, lt_ii, le_ii, gt_ii, ge_ii, neg_i, eq_ii, ne_ii, eq_ss, ne_ss, tr_bl, tr_i, tr_t, tr_l, wp_ixt, wp_ixl, wp_oS, sl_t, sl_l, sl_s, rds_nil, rds_d, omap_some, fzs_nil, fzs_d, fzW_d, wp_andV, wp_orV, wp_notV, wp_iSeq, its_t, its_l, wp_iEnum, en_t, en_l, wp_iZip, seq_t, seq_l, gtu, gscons, gsnil, wps_dput, wp_m0, wp_mm1, wps_par2, wp_yes, wipe0, wipeS, implies_true, forall_const, if_true, if_false, Bool.false_eq_true, Bool.not_true, Bool.not_false, wp_fd0, wp_fd1, mulT_i, mulT_l, wp_lrng, wp_revM, maxT_ii, wps_par3, tupD_l]
        exact fin ns L2 (by simpa using hl) hn hd2
end
end MP.Fk40
namespace MP.Fk40
open PySem PySem.Spec PyProof.Rows L2 MP
section
variable {G : Cst} {R L : LH} {n : Nat}
def MidA (fs : List D) (m way most : Int) (l : Nat) (k q : Nat) (R : LH) (env : Ev) (L' : LH) : Prop := ∃ (now : Int) (a7 a8 a9 a10 : Option W) (cs : List Tri), env = [some (.loc 0), some (.d (.lst fs)), some (.d (.int m)), some (.loc l), some (.d (.int now)), some (.d (.int way)), some (.d (.int most)), a7, a8, a9, a10] ∧ (0 ≤ now ∧ now ≤ 2000) ∧ cs.length ≤ k ∧ (∀ c ∈ cs, OkP c) ∧ Dk q (R ++ [.lst (cs.map tri)]) L'
theorem w_arr {k : Nat} {m : Int} (e : (k : Int) = m) (h1 : k ≤ 12) (h : Dk (n + 8 * k + 4) R L) {fs : List D} (hf : fs ≠ []) (hfl : fs.length ≤ 10) (hfi : ∀ x ∈ fs, ∃ i, x = .int i ∧ (0 ≤ i ∧ i ≤ 8)) : Wp (s__law_arrivals G [.loc 0, .d (.lst fs), .d (.int m)] L) fun w L' => ∃ cs : List Tri, w = .d (.tup (cs.map tri)) ∧ cs.length ≤ k ∧ (∀ c ∈ cs, OkP c) ∧ Dk n R L' := by
  rw [s__law_arrivals, wp_fnS]
  unfold b__law_arrivals
  have hL := h.len
  refine wps_mid (fun env L' => ∃ way a6 a7 a8 a9 a10 now, env = [some (.loc 0), some (.d (.lst fs)), some (.d (.int m)), some (.loc L.length), some (.d (.int now)), some (.d (.int way)), a6, a7, a8, a9, a10] ∧ (0 ≤ now ∧ now ≤ 2000) ∧ Dk (n + 8 * k + 2) (R ++ [.lst []]) L') ?_ ?_
  · simp only [wp_ok, wpo_some, wp_bind, wp_ofE, rd_d, wp_pureD, wp_mD, wp_m1, wp_m2, wp_mB, wp_nil, wp_cons, wp_tup, wp_lst, wp_lstM, wp_ix, wp_sl, wp_oN, wp_call, wp_callK, wp_ifV, wp_tst, wp_tAnd, wp_tOr, wp_tNot, wps_nil, wps_brk, wps_cnt, wps_seq, wps_ret, wps_retN, wps_exp, wps_if, wps_asg, gnm, wps_for, wp_fnS, wp_fnK, ret_d, ret_lst, keep_refl, keep_app, startE, List.map_cons, List.map_nil, List.replicate_succ, List.replicate_zero, List.cons_append, List.nil_append, List.length_cons, List.length_nil, List.getElem?_cons_zero, List.getElem?_cons_succ, List.set_cons_zero, List.set_cons_succ, Option.bind_some, Nat.reduceAdd, Nat.reduceSub, List.take_length, List.take_left, true_and, and_true, wp_var0, wp_varS, at0, at1, at2, add_ii, add_tt, add_ll, sub_ii, lt_ii, le_ii, gt_ii, ge_ii, neg_i, eq_ii, ne_ii, eq_ss, ne_ss, tr_bl, tr_i, tr_t, tr_l, wp_ixt, wp_ixl, wp_oS, sl_t, sl_l, sl_s, rds_nil, rds_d, omap_some, fzs_nil, fzs_d, fzW_d, wp_andV, wp_orV, wp_notV, wp_iSeq, its_t, its_l, wp_iEnum, en_t, en_l, wp_iZip, seq_t, seq_l, gtu, gscons, gsnil, wps_dput, wp_m0, wp_mm1, wps_par2, wp_yes, wipe0, wipeS, implies_true, forall_const, if_true, if_false, Bool.false_eq_true, Bool.not_true, Bool.not_false, wp_fd0, wp_fd1, mulT_i, mulT_l, wp_lrng, wp_revM, maxT_ii, wps_par3, sz0, sz1, sz2, sz3, sz4, sz5, sz6, sz7, sz8, sz9, sz10, sz11, sz12, sz13, sz14, sz15, sz16, sz17, sz18, sz19, sz20, sz21, sz22, sz23, sz24, sz25, sz26, sz27, sz28, sz29, sz30, sz31, sz32, sz33, sz34, sz35, sz36, sz37, sz38, sz39, sz40, sz41, sz42, sz43, sz44, sz45, sz46, sz47, sz48, sz49, sz50, sz51, sz52, sz53, sz54, sz55, sz56, sz57, sz58, sz59, sz60, sz61, sz62, sz63]
    refine (w_pick G (n := n + 8 * k + 3) (h.push _) (by simp) (by simp only [List.length_cons, List.length_nil]; decide)).imp fun w L1 ⟨z, hz, ew, hd⟩ => ?_
    subst ew
    refine (w_draw G (n := n + 8 * k + 2) hd (by decide) (by decide)).imp fun w L2 ⟨way, ew, y0, y1, hd⟩ => ?_
    subst ew
    simp only [List.mem_cons, List.not_mem_nil, or_false] at hz
    rcases hz with rfl | rfl | rfl | rfl <;> exact ⟨_, _, _, _, _, _, _, rfl, by omega, hd⟩
  rintro env L1 ⟨way, a6, a7, a8, a9, a10, now, rfl, hn, hd⟩
  refine wps_mid (fun env L' => ∃ most, (1 ≤ most ∧ most ≤ 60) ∧ MidA fs m way most L.length 0 (n + 8 * k) R env L') ?_ ?_
  · simp only [wp_ok, wpo_some, wp_bind, wp_ofE, rd_d, wp_pureD, wp_mD, wp_m1, wp_m2, wp_mB, wp_nil, wp_cons, wp_tup, wp_lst, wp_lstM, wp_ix, wp_sl, wp_oN, wp_call, wp_callK, wp_ifV, wp_tst, wp_tAnd, wp_tOr, wp_tNot, wps_nil, wps_brk, wps_cnt, wps_seq, wps_ret, wps_retN, wps_exp, wps_if, wps_asg, gnm, wps_for, wp_fnS, wp_fnK, ret_d, ret_lst, keep_refl, keep_app, startE, List.map_cons, List.map_nil, List.replicate_succ, List.replicate_zero, List.cons_append, List.nil_append, List.length_cons, List.length_nil, List.getElem?_cons_zero, List.getElem?_cons_succ, List.set_cons_zero, List.set_cons_succ, Option.bind_some, Nat.reduceAdd, Nat.reduceSub, List.take_length, List.take_left, true_and, and_true, wp_var0, wp_varS, at0, at1, at2, add_ii, add_tt, add_ll, sub_ii, lt_ii, le_ii, gt_ii, ge_ii, neg_i, eq_ii, ne_ii, eq_ss, ne_ss, tr_bl, tr_i, tr_t, tr_l, wp_ixt, wp_ixl, wp_oS, sl_t, sl_l, sl_s, rds_nil, rds_d, omap_some, fzs_nil, fzs_d, fzW_d, wp_andV, wp_orV, wp_notV, wp_iSeq, its_t, its_l, wp_iEnum, en_t, en_l, wp_iZip, seq_t, seq_l, gtu, gscons, gsnil, wps_dput, wp_m0, wp_mm1, wps_par2, wp_yes, wipe0, wipeS, implies_true, forall_const, if_true, if_false, Bool.false_eq_true, Bool.not_true, Bool.not_false, wp_fd0, wp_fd1, mulT_i, mulT_l, wp_lrng, wp_revM, maxT_ii, wps_par3, sz0, sz1, sz2, sz3, sz4, sz5, sz6, sz7, sz8, sz9, sz10, sz11, sz12, sz13, sz14, sz15, sz16, sz17, sz18, sz19, sz20, sz21, sz22, sz23, sz24, sz25, sz26, sz27, sz28, sz29, sz30, sz31, sz32, sz33, sz34, sz35, sz36, sz37, sz38, sz39, sz40, sz41, sz42, sz43, sz44, sz45, sz46, sz47, sz48, sz49, sz50, sz51, sz52, sz53, sz54, sz55, sz56, sz57, sz58, sz59, sz60, sz61, sz62, sz63]
    refine (w_pick G (n := n + 8 * k + 1) hd (by simp) (by simp only [List.length_cons, List.length_nil]; decide)).imp fun w L2 ⟨z, hz, ew, hd⟩ => ?_
    subst ew
    have hd' : Dk (n + 8 * k) (R ++ [.lst (([] : List Tri).map tri)]) L2 := hd.le (by omega)
    simp only [List.mem_cons, List.not_mem_nil, or_false] at hz
    rcases hz with rfl | rfl | rfl | rfl | rfl <;> exact ⟨_, ⟨by decide, by decide⟩, _, _, _, _, _, [], rfl, hn, Nat.le_refl _, by simp, hd'⟩
  rintro env L1 ⟨most, hmo, now, a7, a8, a9, a10, cs, rfl, hn, hcl, hcs, hd⟩
  refine wps_mid (MidA fs m way most L.length k n R) ?_ ?_
  · simp only [wp_ok, wpo_some, wp_bind, wp_ofE, rd_d, wp_pureD, wp_mD, wp_m1, wp_m2, wp_mB, wp_nil, wp_cons, wp_tup, wp_lst, wp_lstM, wp_ix, wp_sl, wp_oN, wp_call, wp_callK, wp_ifV, wp_tst, wp_tAnd, wp_tOr, wp_tNot, wps_nil, wps_brk, wps_cnt, wps_seq, wps_ret, wps_retN, wps_exp, wps_if, wps_asg, gnm, wps_for, wp_fnS, wp_fnK, ret_d, ret_lst, keep_refl, keep_app, startE, List.map_cons, List.map_nil, List.replicate_succ, List.replicate_zero, List.cons_append, List.nil_append, List.length_cons, List.length_nil, List.getElem?_cons_zero, List.getElem?_cons_succ, List.set_cons_zero, List.set_cons_succ, Option.bind_some, Nat.reduceAdd, Nat.reduceSub, List.take_length, List.take_left, true_and, and_true, wp_var0, wp_varS, at0, at1, at2, add_ii, add_tt, add_ll, sub_ii, lt_ii, le_ii, gt_ii, ge_ii, neg_i, eq_ii, ne_ii, eq_ss, ne_ss, tr_bl, tr_i, tr_t, tr_l, wp_ixt, wp_ixl, wp_oS, sl_t, sl_l, sl_s, rds_nil, rds_d, omap_some, fzs_nil, fzs_d, fzW_d, wp_andV, wp_orV, wp_notV, wp_iSeq, its_t, its_l, wp_iEnum, en_t, en_l, wp_iZip, seq_t, seq_l, gtu, gscons, gsnil, wps_dput, wp_m0, wp_mm1, wps_par2, wp_yes, wipe0, wipeS, implies_true, forall_const, if_true, if_false, Bool.false_eq_true, Bool.not_true, Bool.not_false, wp_fd0, wp_fd1, mulT_i, mulT_l, wp_lrng, wp_revM, maxT_ii, wps_par3, wp_rngI]
    refine ⟨by omega, ?_⟩
    rw [show m.toNat = k by omega]
    refine forM_inv (fun xs env L' => MidA fs m way most L.length k (n + 8 * xs.length) R env L') ?_ ?_ _ _ _ ?_
    · rintro x r env L' ⟨now, a7, a8, a9, a10, cs, rfl, hn, hcl, hcs, hd⟩
      refine ⟨trivial, ?_⟩
      rw [List.length_cons] at hd
      simp only [gnm, wpo_some, List.set_cons_succ, List.set_cons_zero]
      refine wps_mid (MidA fs m way most L.length k (n + 8 * r.length + 5) R) ?_ ?_
      · simp only [wp_ok, wpo_some, wp_bind, wp_ofE, rd_d, wp_pureD, wp_mD, wp_m1, wp_m2, wp_mB, wp_nil, wp_cons, wp_tup, wp_lst, wp_lstM, wp_ix, wp_sl, wp_oN, wp_call, wp_callK, wp_ifV, wp_tst, wp_tAnd, wp_tOr, wp_tNot, wps_nil, wps_brk, wps_cnt, wps_seq, wps_ret, wps_retN, wps_exp, wps_if, wps_asg, gnm, wps_for, wp_fnS, wp_fnK, ret_d, ret_lst, keep_refl, keep_app, startE, List.map_cons, List.map_nil, List.replicate_succ, List.replicate_zero, List.cons_append, List.nil_append, List.length_cons, List.length_nil, List.getElem?_cons_zero, List.getElem?_cons_succ, List.set_cons_zero, List.set_cons_succ, Option.bind_some, Nat.reduceAdd, Nat.reduceSub, List.take_length, List.take_left, true_and, and_true, wp_var0, wp_varS, at0, at1, at2, add_ii, add_tt, add_ll, sub_ii, lt_ii, le_ii, gt_ii, ge_ii, neg_i, eq_ii, ne_ii, eq_ss, ne_ss, tr_bl, tr_i, tr_t, tr_l, wp_ixt, wp_ixl, wp_oS, sl_t, sl_l, sl_s, rds_nil, rds_d, omap_some, fzs_nil, fzs_d, fzW_d, wp_andV, wp_orV, wp_notV, wp_iSeq, its_t, its_l, wp_iEnum, en_t, en_l, wp_iZip, seq_t, seq_l, gtu, gscons, gsnil, wps_dput, wp_m0, wp_mm1, wps_par2, wp_yes, wipe0, wipeS, implies_true, forall_const, if_true, if_false, Bool.false_eq_true, Bool.not_true, Bool.not_false, wp_fd0, wp_fd1, mulT_i, mulT_l, wp_lrng, wp_revM, maxT_ii, wps_par3]
        by_cases c0 : decide (0 < way) = true
        · rw [if_pos c0]
          rw [mul_sm (by omega) (by omega) (by omega) (by omega), wpo_some, add_ii, wpo_some]
          refine (w_draw G (n := n + 8 * r.length + 7) (hd.le (by omega)) (by omega) (by omega)).imp fun w L2 ⟨d1, ew, y0, y1, hd⟩ => ?_
          subst ew
          have fin : ∀ (z : Int) (L3 : LH), 0 ≤ z → z ≤ 200 → Dk (n + 8 * r.length + 6) (R ++ [.lst (cs.map tri)]) L3 → Wp (s__law_pick G [.loc 0, .d (.lst [.int 0, .int 0, .int 1, .int d1, .int z])] L3) fun y L4 => WpO ((rd L4 y).bind fun y => addD (.int now) y) fun z => WpO (minD [.int 2000, z]) fun z => MidA fs m way most L.length k (n + 8 * r.length + 5) R [some (.loc 0), some (.d (.lst fs)), some (.d (.int m)), some (.loc L.length), some (.d z), some (.d (.int way)), some (.d (.int most)), some (.d x), a8, a9, a10] L4 := fun z L3 z0 z1 hd => by
            refine (w_pick G (n := n + 8 * r.length + 5) hd (by simp) (by simp only [List.length_cons, List.length_nil]; decide)).imp fun w L4 ⟨y, hy, ew, hd⟩ => ?_
            subst ew
            obtain ⟨j, rfl, hj⟩ : ∃ j, y = .int j ∧ 0 ≤ j := by
              simp only [List.mem_cons, List.not_mem_nil, or_false] at hy
              rcases hy with rfl | rfl | rfl | rfl | rfl <;> exact ⟨_, rfl, by omega⟩
            simp only [wp_ok, wpo_some, wp_bind, wp_ofE, rd_d, wp_pureD, wp_mD, wp_m1, wp_m2, wp_mB, wp_nil, wp_cons, wp_tup, wp_lst, wp_lstM, wp_ix, wp_sl, wp_oN, wp_call, wp_callK, wp_ifV, wp_tst, wp_tAnd, wp_tOr, wp_tNot, wps_nil, wps_brk, wps_cnt, wps_seq, wps_ret, wps_retN, wps_exp, wps_if, wps_asg, gnm, wps_for, wp_fnS, wp_fnK, ret_d, ret_lst, keep_refl, keep_app, startE, List.map_cons, List.map_nil, List.replicate_succ, List.replicate_zero, List.cons_append, List.nil_append, List.length_cons, List.length_nil, List.getElem?_cons_zero, List.getElem?_cons_succ, List.set_cons_zero, List.set_cons_succ, Option.bind_some, Nat.reduceAdd, Nat.reduceSub, List.take_length, List.take_left, true_and, and_true, wp_var0, wp_varS, at0, at1, at2, add_ii, add_tt, add_ll, sub_ii, lt_ii, le_ii, gt_ii, ge_ii, neg_i, eq_ii, ne_ii, eq_ss, ne_ss, tr_bl, tr_i, tr_t, tr_l, wp_ixt, wp_ixl, wp_oS, sl_t, sl_l, sl_s, rds_nil, rds_d, omap_some, fzs_nil, fzs_d, fzW_d, wp_andV, wp_orV, wp_notV, wp_iSeq, its_t, its_l, wp_iEnum, en_t, en_l, wp_iZip, seq_t, seq_l, gtu, gscons, gsnil, wps_dput, wp_m0, wp_mm1, wps_par2, wp_yes, wipe0, wipeS, implies_true, forall_const, if_true, if_false, Bool.false_eq_true, Bool.not_true, Bool.not_false, wp_fd0, wp_fd1, mulT_i, mulT_l, wp_lrng, wp_revM, maxT_ii, wps_par3, min_ii]
            exact ⟨_, _, _, _, _, cs, rfl, by omega, hcl, hcs, hd⟩
          by_cases c1 : decide (way < 3) = true
          · rw [if_pos c1]
            refine (w_draw G (n := n + 8 * r.length + 6) hd (by decide) (by decide)).imp fun w L3 ⟨d2, ew, y2, y3, hd⟩ => ?_
            subst ew
            simp only [wp_ok, wpo_some, wp_bind, wp_ofE, rd_d, wp_pureD, wp_mD, wp_m1, wp_m2, wp_mB, wp_nil, wp_cons, wp_tup, wp_lst, wp_lstM, wp_ix, wp_sl, wp_oN, wp_call, wp_callK, wp_ifV, wp_tst, wp_tAnd, wp_tOr, wp_tNot, wps_nil, wps_brk, wps_cnt, wps_seq, wps_ret, wps_retN, wps_exp, wps_if, wps_asg, gnm, wps_for, wp_fnS, wp_fnK, ret_d, ret_lst, keep_refl, keep_app, startE, List.map_cons, List.map_nil, List.replicate_succ, List.replicate_zero, List.cons_append, List.nil_append, List.length_cons, List.length_nil, List.getElem?_cons_zero, List.getElem?_cons_succ, List.set_cons_zero, List.set_cons_succ, Option.bind_some, Nat.reduceAdd, Nat.reduceSub, List.take_length, List.take_left, true_and, and_true, wp_var0, wp_varS, at0, at1, at2, add_ii, add_tt, add_ll, sub_ii, lt_ii, le_ii, gt_ii, ge_ii, neg_i, eq_ii, ne_ii, eq_ss, ne_ss, tr_bl, tr_i, tr_t, tr_l, wp_ixt, wp_ixl, wp_oS, sl_t, sl_l, sl_s, rds_nil, rds_d, omap_some, fzs_nil, fzs_d, fzW_d, wp_andV, wp_orV, wp_notV, wp_iSeq, its_t, its_l, wp_iEnum, en_t, en_l, wp_iZip, seq_t, seq_l, gtu, gscons, gsnil, wps_dput, wp_m0, wp_mm1, wps_par2, wp_yes, wipe0, wipeS, implies_true, forall_const, if_true, if_false, Bool.false_eq_true, Bool.not_true, Bool.not_false, wp_fd0, wp_fd1, mulT_i, mulT_l, wp_lrng, wp_revM, maxT_ii, wps_par3, sz0, sz1, sz2, sz3, sz4, sz5, sz6, sz7, sz8, sz9, sz10, sz11, sz12, sz13, sz14, sz15, sz16, sz17, sz18, sz19, sz20, sz21, sz22, sz23, sz24, sz25, sz26, sz27, sz28, sz29, sz30, sz31, sz32, sz33, sz34, sz35, sz36, sz37, sz38, sz39, sz40, sz41, sz42, sz43, sz44, sz45, sz46, sz47, sz48, sz49, sz50, sz51, sz52, sz53, sz54, sz55, sz56, sz57, sz58, sz59, sz60, sz61, sz62, sz63]
            exact fin d2 L3 y2 (by omega) hd
          · rw [if_neg c1]
            simp only [wp_ok, wpo_some, wp_bind, wp_ofE, rd_d, wp_pureD, wp_mD, wp_m1, wp_m2, wp_mB, wp_nil, wp_cons, wp_tup, wp_lst, wp_lstM, wp_ix, wp_sl, wp_oN, wp_call, wp_callK, wp_ifV, wp_tst, wp_tAnd, wp_tOr, wp_tNot, wps_nil, wps_brk, wps_cnt, wps_seq, wps_ret, wps_retN, wps_exp, wps_if, wps_asg, gnm, wps_for, wp_fnS, wp_fnK, ret_d, ret_lst, keep_refl, keep_app, startE, List.map_cons, List.map_nil, List.replicate_succ, List.replicate_zero, List.cons_append, List.nil_append, List.length_cons, List.length_nil, List.getElem?_cons_zero, List.getElem?_cons_succ, List.set_cons_zero, List.set_cons_succ, Option.bind_some, Nat.reduceAdd, Nat.reduceSub, List.take_length, List.take_left, true_and, and_true, wp_var0, wp_varS, at0, at1, at2, add_ii, add_tt, add_ll, sub_ii, lt_ii, le_ii, gt_ii, ge_ii, neg_i, eq_ii, ne_ii, eq_ss, ne_ss, tr_bl, tr_i, tr_t, tr_l, wp_ixt, wp_ixl, wp_oS, sl_t, sl_l, sl_s, rds_nil, rds_d, omap_some, fzs_nil, fzs_d, fzW_d, wp_andV, wp_orV, wp_notV, wp_iSeq, its_t, its_l, wp_iEnum, en_t, en_l, wp_iZip, seq_t, seq_l, gtu, gscons, gsnil, wps_dput, wp_m0, wp_mm1, wps_par2, wp_yes, wipe0, wipeS, implies_true, forall_const, if_true, if_false, Bool.false_eq_true, Bool.not_true, Bool.not_false, wp_fd0, wp_fd1, mulT_i, mulT_l, wp_lrng, wp_revM, maxT_ii, wps_par3, sz0, sz1, sz2, sz3, sz4, sz5, sz6, sz7, sz8, sz9, sz10, sz11, sz12, sz13, sz14, sz15, sz16, sz17, sz18, sz19, sz20, sz21, sz22, sz23, sz24, sz25, sz26, sz27, sz28, sz29, sz30, sz31, sz32, sz33, sz34, sz35, sz36, sz37, sz38, sz39, sz40, sz41, sz42, sz43, sz44, sz45, sz46, sz47, sz48, sz49, sz50, sz51, sz52, sz53, sz54, sz55, sz56, sz57, sz58, sz59, sz60, sz61, sz62, sz63]
            exact fin 40 L2 (by decide) (by decide) (hd.le (by omega))
        · rw [if_neg c0]
          exact ⟨_, _, _, _, _, cs, rfl, hn, hcl, hcs, hd.le (by omega)⟩
      rintro env L2 ⟨now, a7, a8, a9, a10, cs, rfl, hn, hcl, hcs, hd⟩
      simp only [wp_ok, wpo_some, wp_bind, wp_ofE, rd_d, wp_pureD, wp_mD, wp_m1, wp_m2, wp_mB, wp_nil, wp_cons, wp_tup, wp_lst, wp_lstM, wp_ix, wp_sl, wp_oN, wp_call, wp_callK, wp_ifV, wp_tst, wp_tAnd, wp_tOr, wp_tNot, wps_nil, wps_brk, wps_cnt, wps_seq, wps_ret, wps_retN, wps_exp, wps_if, wps_asg, gnm, wps_for, wp_fnS, wp_fnK, ret_d, ret_lst, keep_refl, keep_app, startE, List.map_cons, List.map_nil, List.replicate_succ, List.replicate_zero, List.cons_append, List.nil_append, List.length_cons, List.length_nil, List.getElem?_cons_zero, List.getElem?_cons_succ, List.set_cons_zero, List.set_cons_succ, Option.bind_some, Nat.reduceAdd, Nat.reduceSub, List.take_length, List.take_left, true_and, and_true, wp_var0, wp_varS, at0, at1, at2, add_ii, add_tt, add_ll, sub_ii, lt_ii, le_ii, gt_ii, ge_ii, neg_i, eq_ii, ne_ii, eq_ss, ne_ss, tr_bl, tr_i, tr_t, tr_l, wp_ixt, wp_ixl, wp_oS, sl_t, sl_l, sl_s, rds_nil, rds_d, omap_some, fzs_nil, fzs_d, fzW_d, wp_andV, wp_orV, wp_notV, wp_iSeq, its_t, its_l, wp_iEnum, en_t, en_l, wp_iZip, seq_t, seq_l, gtu, gscons, gsnil, wps_dput, wp_m0, wp_mm1, wps_par2, wp_yes, wipe0, wipeS, implies_true, forall_const, if_true, if_false, Bool.false_eq_true, Bool.not_true, Bool.not_false, wp_fd0, wp_fd1, mulT_i, mulT_l, wp_lrng, wp_revM, maxT_ii, wps_par3, sz0, sz1, sz2, sz3, sz4, sz5, sz6, sz7, sz8, sz9, sz10, sz11, sz12, sz13, sz14, sz15, sz16, sz17, sz18, sz19, sz20, sz21, sz22, sz23, sz24, sz25, sz26, sz27, sz28, sz29, sz30, sz31, sz32, sz33, sz34, sz35, sz36, sz37, sz38, sz39, sz40, sz41, sz42, sz43, sz44, sz45, sz46, sz47, sz48, sz49, sz50, sz51, sz52, sz53, sz54, sz55, sz56, sz57, sz58, sz59, sz60, sz61, sz62, sz63]
      refine (w_pick G (n := n + 8 * r.length + 4) hd hf (by omega)).imp fun w L3 ⟨y, hy, ew, hd⟩ => ?_
      subst ew
      obtain ⟨fl, rfl, hfl2⟩ := hfi y hy
      refine (w_draw G (n := n + 8 * r.length + 3) hd (by omega) (by omega)).imp fun w L4 ⟨ln, ew, y0, y1, hd⟩ => ?_
      subst ew
      simp only [wp_ok, wpo_some, wp_bind, wp_ofE, rd_d, wp_pureD, wp_mD, wp_m1, wp_m2, wp_mB, wp_nil, wp_cons, wp_tup, wp_lst, wp_lstM, wp_ix, wp_sl, wp_oN, wp_call, wp_callK, wp_ifV, wp_tst, wp_tAnd, wp_tOr, wp_tNot, wps_nil, wps_brk, wps_cnt, wps_seq, wps_ret, wps_retN, wps_exp, wps_if, wps_asg, gnm, wps_for, wp_fnS, wp_fnK, ret_d, ret_lst, keep_refl, keep_app, startE, List.map_cons, List.map_nil, List.replicate_succ, List.replicate_zero, List.cons_append, List.nil_append, List.length_cons, List.length_nil, List.getElem?_cons_zero, List.getElem?_cons_succ, List.set_cons_zero, List.set_cons_succ, Option.bind_some, Nat.reduceAdd, Nat.reduceSub, List.take_length, List.take_left, true_and, and_true, wp_var0, wp_varS, at0, at1, at2, add_ii, add_tt, add_ll, sub_ii, lt_ii, le_ii, gt_ii, ge_ii, neg_i, eq_ii, ne_ii, eq_ss, ne_ss, tr_bl, tr_i, tr_t, tr_l, wp_ixt, wp_ixl, wp_oS, sl_t, sl_l, sl_s, rds_nil, rds_d, omap_some, fzs_nil, fzs_d, fzW_d, wp_andV, wp_orV, wp_notV, wp_iSeq, its_t, its_l, wp_iEnum, en_t, en_l, wp_iZip, seq_t, seq_l, gtu, gscons, gsnil, wps_dput, wp_m0, wp_mm1, wps_par2, wp_yes, wipe0, wipeS, implies_true, forall_const, if_true, if_false, Bool.false_eq_true, Bool.not_true, Bool.not_false, wp_fd0, wp_fd1, mulT_i, mulT_l, wp_lrng, wp_revM, maxT_ii, wps_par3, sz0, sz1, sz2, sz3, sz4, sz5, sz6, sz7, sz8, sz9, sz10, sz11, sz12, sz13, sz14, sz15, sz16, sz17, sz18, sz19, sz20, sz21, sz22, sz23, sz24, sz25, sz26, sz27, sz28, sz29, sz30, sz31, sz32, sz33, sz34, sz35, sz36, sz37, sz38, sz39, sz40, sz41, sz42, sz43, sz44, sz45, sz46, sz47, sz48, sz49, sz50, sz51, sz52, sz53, sz54, sz55, sz56, sz57, sz58, sz59, sz60, sz61, sz62, sz63, wp_rngI]
      refine (w_pick G (n := n + 8 * r.length + 2) hd (by simp) (by simp only [List.length_cons, List.length_nil]; decide)).imp fun w L5 ⟨z, hz, ew, hd⟩ => ?_
      subst ew
      obtain ⟨j, rfl, hj0, hj⟩ : ∃ j, z = .int j ∧ 0 ≤ j ∧ j ≤ 3 := by
        simp only [List.mem_cons, List.not_mem_nil, or_false] at hz
        rcases hz with rfl | rfl | rfl | rfl <;> exact ⟨_, rfl, by decide, by decide⟩
      dsimp only
      refine ⟨by omega, ?_⟩
      refine forM_inv (fun xs env L' => ∃ (a10 : Option W) (cs : List Tri), env = [some (.loc 0), some (.d (.lst fs)), some (.d (.int m)), some (.loc L.length), some (.d (.int now)), some (.d (.int way)), some (.d (.int most)), a7, some (.d (.int fl)), some (.d (.int (1 + ln))), a10] ∧ cs.length ≤ k ∧ (∀ c ∈ cs, OkP c) ∧ Dk (n + 8 * r.length) (R ++ [.lst (cs.map tri)]) L') ?_ ?_ _ _ _ ⟨_, cs, rfl, hcl, hcs, hd.le (by omega)⟩
      · rintro x2 r2 env L6 ⟨a10, cs, rfl, hcl, hcs, hd⟩
        refine ⟨trivial, ?_⟩
        have er : rd L6 (.loc L.length) = some (.lst (cs.map tri)) := by rw [hL]; exact rd_lst hd.top
        simp only [wp_ok, wpo_some, wp_bind, wp_ofE, rd_d, wp_pureD, wp_mD, wp_m1, wp_m2, wp_mB, wp_nil, wp_cons, wp_tup, wp_lst, wp_lstM, wp_ix, wp_sl, wp_oN, wp_call, wp_callK, wp_ifV, wp_tst, wp_tAnd, wp_tOr, wp_tNot, wps_nil, wps_brk, wps_cnt, wps_seq, wps_ret, wps_retN, wps_exp, wps_if, wps_asg, gnm, wps_for, wp_fnS, wp_fnK, ret_d, ret_lst, keep_refl, keep_app, startE, List.map_cons, List.map_nil, List.replicate_succ, List.replicate_zero, List.cons_append, List.nil_append, List.length_cons, List.length_nil, List.getElem?_cons_zero, List.getElem?_cons_succ, List.set_cons_zero, List.set_cons_succ, Option.bind_some, Nat.reduceAdd, Nat.reduceSub, List.take_length, List.take_left, true_and, and_true, wp_var0, wp_varS, at0, at1, at2, add_ii, add_tt, add_ll, sub_ii, lt_ii, le_ii, gt_ii, ge_ii, neg_i, eq_ii, ne_ii, eq_ss, ne_ss, tr_bl, tr_i, tr_t, tr_l, wp_ixt, wp_ixl, wp_oS, sl_t, sl_l, sl_s, rds_nil, rds_d, omap_some, fzs_nil, fzs_d, fzW_d, wp_andV, wp_orV, wp_notV, wp_iSeq, its_t, its_l, wp_iEnum, en_t, en_l, wp_iZip, seq_t, seq_l, gtu, gscons, gsnil, wps_dput, wp_m0, wp_mm1, wps_par2, wp_yes, wipe0, wipeS, implies_true, forall_const, if_true, if_false, Bool.false_eq_true, Bool.not_true, Bool.not_false, wp_fd0, wp_fd1, mulT_i, mulT_l, wp_lrng, wp_revM, maxT_ii, wps_par3]
        rw [rds_w er, rds_nil, Option.map_some, Option.bind_some, lenD_l, wpo_some, List.length_map, lt_ii, wpo_some, tr_bl, wpo_some]
        by_cases c2 : decide ((cs.length : Int) < m) = true
        · rw [if_pos c2]
          have c3 : (cs.length : Int) < m := by simpa using c2
          rw [hL]
          refine ⟨by simp [isLst, rd_lst hd.top], szl, ?_⟩
          skip
          rw [hd.top]
          dsimp only
          rw [appF, if_pos (by rw [sm2, List.length_map]; omega), wpo_some]
          refine ⟨_, cs ++ [(now, fl, 1 + ln)], rfl, by rw [List.length_append, List.length_singleton]; omega, ?_, ?_⟩
          · intro z hz
            rcases List.mem_append.mp hz with hz | hz
            · exact hcs z hz
            · rw [List.mem_singleton.mp hz]
              exact ⟨hn.1, hn.2, hfl2.1, hfl2.2, by dsimp only; omega, by dsimp only; omega⟩
          · rw [List.map_append]
            exact hd.put _
        · rw [if_neg c2]
          exact ⟨_, cs, rfl, hcl, hcs, hd⟩
      · rintro env L6 ⟨a10, cs, rfl, hcl, hcs, hd⟩
        exact ⟨trivial, _, _, _, _, _, cs, rfl, hn, hcl, hcs, hd⟩
    · rintro env L' h
      exact ⟨trivial, by simpa using h⟩
    · exact ⟨_, _, _, _, _, cs, rfl, hn, by omega, hcs, hd.le (by simp only [rngD, List.length_map, List.length_range]; omega)⟩
  rintro env L1 ⟨now, a7, a8, a9, a10, cs, rfl, hn, hcl, hcs, hd⟩
  simp only [wp_ok, wpo_some, wp_bind, wp_ofE, rd_d, wp_pureD, wp_mD, wp_m1, wp_m2, wp_mB, wp_nil, wp_cons, wp_tup, wp_lst, wp_lstM, wp_ix, wp_sl, wp_oN, wp_call, wp_callK, wp_ifV, wp_tst, wp_tAnd, wp_tOr, wp_tNot, wps_nil, wps_brk, wps_cnt, wps_seq, wps_ret, wps_retN, wps_exp, wps_if, wps_asg, gnm, wps_for, wp_fnS, wp_fnK, ret_d, ret_lst, keep_refl, keep_app, startE, List.map_cons, List.map_nil, List.replicate_succ, List.replicate_zero, List.cons_append, List.nil_append, List.length_cons, List.length_nil, List.getElem?_cons_zero, List.getElem?_cons_succ, List.set_cons_zero, List.set_cons_succ, Option.bind_some, Nat.reduceAdd, Nat.reduceSub, List.take_length, List.take_left, true_and, and_true, wp_var0, wp_varS, at0, at1, at2, add_ii, add_tt, add_ll, sub_ii, lt_ii, le_ii, gt_ii, ge_ii, neg_i, eq_ii, ne_ii, eq_ss, ne_ss, tr_bl, tr_i, tr_t, tr_l, wp_ixt, wp_ixl, wp_oS, sl_t, sl_l, sl_s, rds_nil, rds_d, omap_some, fzs_nil, fzs_d, fzW_d, wp_andV, wp_orV, wp_notV, wp_iSeq, its_t, its_l, wp_iEnum, en_t, en_l, wp_iZip, seq_t, seq_l, gtu, gscons, gsnil, wps_dput, wp_m0, wp_mm1, wps_par2, wp_yes, wipe0, wipeS, implies_true, forall_const, if_true, if_false, Bool.false_eq_true, Bool.not_true, Bool.not_false, wp_fd0, wp_fd1, mulT_i, mulT_l, wp_lrng, wp_revM, maxT_ii, wps_par3]
  have er : rd L1 (.loc L.length) = some (.lst (cs.map tri)) := by rw [hL]; exact rd_lst hd.top
  rw [rds_w er, rds_nil, Option.map_some, Option.bind_some, tupD_l, wpo_some]
  obtain ⟨hk, hd'⟩ := h.fin hd
  exact ⟨hk, cs, rfl, hcl, hcs, by simpa using hd'⟩
end
end MP.Fk40
namespace MP.Fk40
open PySem PySem.Spec PyProof.Rows L2 MP
section
variable {G : Cst} {R L : LH} {n : Nat}
abbrev Lin := List Int × List Tri
def lin (r : Lin) : D := .tup [.tup (r.1.map D.int), .tup (r.2.map tri)]
structure OkL (r : Lin) : Prop where
  l0 : 1 ≤ r.1.length
  l1 : r.1.length ≤ 8
  w : ∀ i ∈ r.1, 0 ≤ i ∧ i ≤ 12
  c : r.2.length ≤ 12
  p : ∀ c ∈ r.2, OkP c
theorem rng_in {a : Int} {q : Nat} {x : D} (h : x ∈ rngD a q) : ∃ i, x = .int i ∧ (a ≤ i ∧ i < a + q) := by
  obtain ⟨j, hj, rfl⟩ := List.mem_map.mp h
  have := List.mem_range.mp hj
  exact ⟨_, rfl, by omega⟩
theorem rng_len {a : Int} {q : Nat} : (rngD a q).length = q := by simp [rngD]
theorem w_row {k : Nat} {m mm : Int} (e : (k : Int) = m) (h1 : k ≤ 4) (hmm : 0 ≤ mm ∧ mm ≤ 12) (h : Dk (n + 130 * k) R L) : Wp (s__law_row G [.loc 0, .d (.int m), .d (.int mm)] L) fun w L' => ∃ rs : List Lin, w = .d (.tup (rs.map lin)) ∧ rs.length = k ∧ (∀ r ∈ rs, OkL r) ∧ Dk n R L' := by
  rw [s__law_row, wp_fnS]
  unfold b__law_row
  have hL := h.len
  simp only [wp_ok, wpo_some, wp_bind, wp_ofE, rd_d, wp_pureD, wp_mD, wp_m1, wp_m2, wp_mB, wp_nil, wp_cons, wp_tup, wp_lst, wp_lstM, wp_ix, wp_sl, wp_oN, wp_call, wp_callK, wp_ifV, wp_tst, wp_tAnd, wp_tOr, wp_tNot, wps_nil, wps_brk, wps_cnt, wps_seq, wps_ret, wps_retN, wps_exp, wps_if, wps_asg, gnm, wps_for, wp_fnS, wp_fnK, ret_d, ret_lst, keep_refl, keep_app, startE, List.map_cons, List.map_nil, List.replicate_succ, List.replicate_zero, List.cons_append, List.nil_append, List.length_cons, List.length_nil, List.getElem?_cons_zero, List.getElem?_cons_succ, List.set_cons_zero, List.set_cons_succ, Option.bind_some, Nat.reduceAdd, Nat.reduceSub, List.take_length, List.take_left, true_and, and_true, wp_var0, wp_varS, at0, at1, at2, add_ii, add_tt, add_ll, sub_ii, lt_ii, le_ii, gt_ii, ge_ii, neg_i, eq_ii, ne_ii, eq_ss, ne_ss, tr_bl, tr_i, tr_t, tr_l, wp_ixt, wp_ixl, wp_oS, sl_t, sl_l, sl_s, rds_nil, rds_d, omap_some, fzs_nil, fzs_d, fzW_d, wp_andV, wp_orV, wp_notV, wp_iSeq, its_t, its_l, wp_iEnum, en_t, en_l, wp_iZip, seq_t, seq_l, gtu, gscons, gsnil, wps_dput, wp_m0, wp_mm1, wps_par2, wp_yes, wipe0, wipeS, implies_true, forall_const, if_true, if_false, Bool.false_eq_true, Bool.not_true, Bool.not_false, wp_fd0, wp_fd1, mulT_i, mulT_l, wp_lrng, wp_revM, maxT_ii, wps_par3, wp_rngI]
  refine ⟨szl, by omega, ?_⟩
  rw [show m.toNat = k by omega]
  refine forM_inv (fun xs env L' => ∃ (a4 a5 a6 a7 : Option W) (rs : List Lin), env = [some (.loc 0), some (.d (.int m)), some (.d (.int mm)), some (.loc L.length), a4, a5, a6, a7] ∧ rs.length + xs.length = k ∧ (∀ r ∈ rs, OkL r) ∧ Dk (n + 130 * xs.length) (R ++ [.lst (rs.map lin)]) L') ?_ ?_ _ _ _ ⟨_, _, _, _, [], rfl, by simp [rng_len], by simp, (h.push _).le (by rw [rng_len]; omega)⟩
  · rintro x r env L1 ⟨a4, a5, a6, a7, rs, rfl, hrl, hrs, hd⟩
    refine ⟨trivial, ?_⟩
    rw [List.length_cons] at hd hrl
    simp only [wp_ok, wpo_some, wp_bind, wp_ofE, rd_d, wp_pureD, wp_mD, wp_m1, wp_m2, wp_mB, wp_nil, wp_cons, wp_tup, wp_lst, wp_lstM, wp_ix, wp_sl, wp_oN, wp_call, wp_callK, wp_ifV, wp_tst, wp_tAnd, wp_tOr, wp_tNot, wps_nil, wps_brk, wps_cnt, wps_seq, wps_ret, wps_retN, wps_exp, wps_if, wps_asg, gnm, wps_for, wp_fnS, wp_fnK, ret_d, ret_lst, keep_refl, keep_app, startE, List.map_cons, List.map_nil, List.replicate_succ, List.replicate_zero, List.cons_append, List.nil_append, List.length_cons, List.length_nil, List.getElem?_cons_zero, List.getElem?_cons_succ, List.set_cons_zero, List.set_cons_succ, Option.bind_some, Nat.reduceAdd, Nat.reduceSub, List.take_length, List.take_left, true_and, and_true, wp_var0, wp_varS, at0, at1, at2, add_ii, add_tt, add_ll, sub_ii, lt_ii, le_ii, gt_ii, ge_ii, neg_i, eq_ii, ne_ii, eq_ss, ne_ss, tr_bl, tr_i, tr_t, tr_l, wp_ixt, wp_ixl, wp_oS, sl_t, sl_l, sl_s, rds_nil, rds_d, omap_some, fzs_nil, fzs_d, fzW_d, wp_andV, wp_orV, wp_notV, wp_iSeq, its_t, its_l, wp_iEnum, en_t, en_l, wp_iZip, seq_t, seq_l, gtu, gscons, gsnil, wps_dput, wp_m0, wp_mm1, wps_par2, wp_yes, wipe0, wipeS, implies_true, forall_const, if_true, if_false, Bool.false_eq_true, Bool.not_true, Bool.not_false, wp_fd0, wp_fd1, mulT_i, mulT_l, wp_lrng, wp_revM, maxT_ii, wps_par3, sz0, sz1, sz2, sz3, sz4, sz5, sz6, sz7, sz8, sz9, sz10, sz11, sz12, sz13, sz14, sz15, sz16, sz17, sz18, sz19, sz20, sz21, sz22, sz23, sz24, sz25, sz26, sz27, sz28, sz29, sz30, sz31, sz32, sz33, sz34, sz35, sz36, sz37, sz38, sz39, sz40, sz41, sz42, sz43, sz44, sz45, sz46, sz47, sz48, sz49, sz50, sz51, sz52, sz53, sz54, sz55, sz56, sz57, sz58, sz59, sz60, sz61, sz62, sz63]
    refine (w_dp G (n := n + 130 * r.length + 128) (ns := [4, 4, 8]) (B := 8) (hd.le (by omega))).imp fun x1 L2 hx => hx.imp fun y L3 ⟨a, ea, a0, a1, hd1⟩ => ?_
    subst ea
    rw [rd_d, Option.bind_some, add_ii, wpo_some]
    obtain ⟨q, hq⟩ : ∃ q : Nat, (q : Int) = 1 + a := ⟨(1 + a).toNat, by omega⟩
    refine (w_weights (n := n + 130 * r.length + 110) hq (by omega) (by omega) (hd1.le (by omega))).imp fun w L4 ⟨ns, ew, hnl, hns, hd2⟩ => ?_
    subst ew
    simp only [wp_ok, wpo_some, wp_bind, wp_ofE, rd_d, wp_pureD, wp_mD, wp_m1, wp_m2, wp_mB, wp_nil, wp_cons, wp_tup, wp_lst, wp_lstM, wp_ix, wp_sl, wp_oN, wp_call, wp_callK, wp_ifV, wp_tst, wp_tAnd, wp_tOr, wp_tNot, wps_nil, wps_brk, wps_cnt, wps_seq, wps_ret, wps_retN, wps_exp, wps_if, wps_asg, gnm, wps_for, wp_fnS, wp_fnK, ret_d, ret_lst, keep_refl, keep_app, startE, List.map_cons, List.map_nil, List.replicate_succ, List.replicate_zero, List.cons_append, List.nil_append, List.length_cons, List.length_nil, List.getElem?_cons_zero, List.getElem?_cons_succ, List.set_cons_zero, List.set_cons_succ, Option.bind_some, Nat.reduceAdd, Nat.reduceSub, List.take_length, List.take_left, true_and, and_true, wp_var0, wp_varS, at0, at1, at2, add_ii, add_tt, add_ll, sub_ii, lt_ii, le_ii, gt_ii, ge_ii, neg_i, eq_ii, ne_ii, eq_ss, ne_ss, tr_bl, tr_i, tr_t, tr_l, wp_ixt, wp_ixl, wp_oS, sl_t, sl_l, sl_s, rds_nil, rds_d, omap_some, fzs_nil, fzs_d, fzW_d, wp_andV, wp_orV, wp_notV, wp_iSeq, its_t, its_l, wp_iEnum, en_t, en_l, wp_iZip, seq_t, seq_l, gtu, gscons, gsnil, wps_dput, wp_m0, wp_mm1, wps_par2, wp_yes, wipe0, wipeS, implies_true, forall_const, if_true, if_false, Bool.false_eq_true, Bool.not_true, Bool.not_false, wp_fd0, wp_fd1, mulT_i, mulT_l, wp_lrng, wp_revM, maxT_ii, wps_par3, lenD_t, List.length_map, ne_nl]
    refine ⟨by omega, ?_⟩
    have fin : ∀ (cs : List Tri) (L5 : LH) (b4 b6 : Option W), cs.length ≤ 12 → (∀ c ∈ cs, OkP c) → Dk (n + 130 * r.length) (R ++ [.lst (rs.map lin)]) L5 → isLst L5 (.loc L.length) = true ∧ (match L5[L.length]? with
      | some (.lst xs) => WpO (appF xs (.tup [.tup (ns.map D.int), .tup (cs.map tri)])) fun q => ∃ (a4 a5 a6 a7 : Option W) (rs : List Lin), [some (W.loc 0), some (.d (.int m)), some (.d (.int mm)), some (.loc L.length), b4, some (.d (.tup (ns.map D.int))), b6, some (.d (.tup (cs.map tri)))] = [some (.loc 0), some (.d (.int m)), some (.d (.int mm)), some (.loc L.length), a4, a5, a6, a7] ∧ rs.length + r.length = k ∧ (∀ r ∈ rs, OkL r) ∧ Dk (n + 130 * r.length) (R ++ [.lst (rs.map lin)]) (L5.set L.length (.lst q.1))
      | _ => False) := fun cs L5 b4 b6 hcl hcs hd3 => by
      rw [hL]
      refine ⟨by simp [isLst, rd_lst hd3.top], ?_⟩
      rw [hd3.top]
      dsimp only
      rw [appF, if_pos (by rw [sm2, List.length_map]; omega), wpo_some]
      refine ⟨_, _, _, _, rs ++ [(ns, cs)], rfl, by rw [List.length_append, List.length_singleton]; omega, ?_, ?_⟩
      · intro z hz
        rcases List.mem_append.mp hz with hz | hz
        · exact hrs z hz
        · rw [List.mem_singleton.mp hz]
          exact ⟨by dsimp only; omega, by dsimp only; omega, hns, hcl, hcs⟩
      · rw [List.map_append]
        exact hd3.put _
    by_cases c0 : (!(rngD 1 ((ns.length : Int) - 1).toNat).isEmpty) = true
    · rw [if_pos c0]
      refine (w_draw G (n := n + 130 * r.length + 109) hd2 (by omega) (by omega)).imp fun w L5 ⟨d, ew, d0, d1, hd3⟩ => ?_
      subst ew
      obtain ⟨j, hj⟩ : ∃ j : Nat, (j : Int) = d := ⟨d.toNat, by omega⟩
      refine (w_arr (n := n + 130 * r.length) hj (by omega) (hd3.le (by omega)) (by intro z; rw [z] at c0; simp at c0) (by rw [rng_len]; omega) (fun x hx => by
        obtain ⟨i, e1, e2⟩ := rng_in hx
        exact ⟨i, e1, by omega⟩)).imp fun w L6 ⟨cs, ew, hcl, hcs, hd4⟩ => ?_
      subst ew
      simp only [wp_ok, wpo_some, wp_bind, wp_ofE, rd_d, wp_pureD, wp_mD, wp_m1, wp_m2, wp_mB, wp_nil, wp_cons, wp_tup, wp_lst, wp_lstM, wp_ix, wp_sl, wp_oN, wp_call, wp_callK, wp_ifV, wp_tst, wp_tAnd, wp_tOr, wp_tNot, wps_nil, wps_brk, wps_cnt, wps_seq, wps_ret, wps_retN, wps_exp, wps_if, wps_asg, gnm, wps_for, wp_fnS, wp_fnK, ret_d, ret_lst, keep_refl, keep_app, startE, List.map_cons, List.map_nil, List.replicate_succ, List.replicate_zero, List.cons_append, List.nil_append, List.length_cons, List.length_nil, List.getElem?_cons_zero, List.getElem?_cons_succ, List.set_cons_zero, List.set_cons_succ, Option.bind_some, Nat.reduceAdd, Nat.reduceSub, List.take_length, List.take_left, true_and, and_true, wp_var0, wp_varS, at0, at1, at2, add_ii, add_tt, add_ll, sub_ii, lt_ii, le_ii, gt_ii, ge_ii, neg_i, eq_ii, ne_ii, eq_ss, ne_ss, tr_bl, tr_i, tr_t, tr_l, wp_ixt, wp_ixl, wp_oS, sl_t, sl_l, sl_s, rds_nil, rds_d, omap_some, fzs_nil, fzs_d, fzW_d, wp_andV, wp_orV, wp_notV, wp_iSeq, its_t, its_l, wp_iEnum, en_t, en_l, wp_iZip, seq_t, seq_l, gtu, gscons, gsnil, wps_dput, wp_m0, wp_mm1, wps_par2, wp_yes, wipe0, wipeS, implies_true, forall_const, if_true, if_false, Bool.false_eq_true, Bool.not_true, Bool.not_false, wp_fd0, wp_fd1, mulT_i, mulT_l, wp_lrng, wp_revM, maxT_ii, wps_par3]
      obtain ⟨f1, f2⟩ := fin cs L6 (some (.d x)) (some (.d (.lst (rngD 1 ((ns.length : Int) - 1).toNat)))) (by omega) hcs hd4
      exact ⟨f1, szl, f2⟩
    · rw [if_neg c0]
      obtain ⟨f1, f2⟩ := fin [] L4 (some (.d x)) (some (.d (.lst (rngD 1 ((ns.length : Int) - 1).toNat)))) (by decide) (by simp) (hd2.le (by omega))
      exact ⟨f1, szl, f2⟩
  · rintro env L1 ⟨a4, a5, a6, a7, rs, rfl, hrl, hrs, hd⟩
    refine ⟨trivial, ?_⟩
    simp only [wp_ok, wpo_some, wp_bind, wp_ofE, rd_d, wp_pureD, wp_mD, wp_m1, wp_m2, wp_mB, wp_nil, wp_cons, wp_tup, wp_lst, wp_lstM, wp_ix, wp_sl, wp_oN, wp_call, wp_callK, wp_ifV, wp_tst, wp_tAnd, wp_tOr, wp_tNot, wps_nil, wps_brk, wps_cnt, wps_seq, wps_ret, wps_retN, wps_exp, wps_if, wps_asg, gnm, wps_for, wp_fnS, wp_fnK, ret_d, ret_lst, keep_refl, keep_app, startE, List.map_cons, List.map_nil, List.replicate_succ, List.replicate_zero, List.cons_append, List.nil_append, List.length_cons, List.length_nil, List.getElem?_cons_zero, List.getElem?_cons_succ, List.set_cons_zero, List.set_cons_succ, Option.bind_some, Nat.reduceAdd, Nat.reduceSub, List.take_length, List.take_left, true_and, and_true, wp_var0, wp_varS, at0, at1, at2, add_ii, add_tt, add_ll, sub_ii, lt_ii, le_ii, gt_ii, ge_ii, neg_i, eq_ii, ne_ii, eq_ss, ne_ss, tr_bl, tr_i, tr_t, tr_l, wp_ixt, wp_ixl, wp_oS, sl_t, sl_l, sl_s, rds_nil, rds_d, omap_some, fzs_nil, fzs_d, fzW_d, wp_andV, wp_orV, wp_notV, wp_iSeq, its_t, its_l, wp_iEnum, en_t, en_l, wp_iZip, seq_t, seq_l, gtu, gscons, gsnil, wps_dput, wp_m0, wp_mm1, wps_par2, wp_yes, wipe0, wipeS, implies_true, forall_const, if_true, if_false, Bool.false_eq_true, Bool.not_true, Bool.not_false, wp_fd0, wp_fd1, mulT_i, mulT_l, wp_lrng, wp_revM, maxT_ii, wps_par3]
    have er : rd L1 (.loc L.length) = some (.lst (rs.map lin)) := by rw [hL]; exact rd_lst hd.top
    rw [rds_w er, rds_nil, Option.map_some, Option.bind_some, tupD_l, wpo_some]
    obtain ⟨hk, hd'⟩ := h.fin hd
    exact ⟨hk, rs, rfl, by simpa using hrl, hrs, by simpa using hd'⟩
end
end MP.Fk40
namespace MP.Fk40
open PySem PySem.Spec PyProof.Rows L2 MP
section
variable {G : Cst} {R L : LH} {n : Nat}
theorem w_wrong {xs ws cs : List D} (h : Dk (n + 25) R L) (hx : Sms 4597 3 xs) (hl : xs.length ≤ 4) (h0 : atI xs 0 = some (.tup [.tup ws, .tup cs])) (htr : trs xs = true) (hm : D.tup [.tup ws, .tup cs] ∈ xs) : Wp (s__law_wrong_row G [.loc 0, .d (.tup xs)] L) fun w L' => ∃ z, w = .d z ∧ Sm 60000 14 z ∧ Dk n R L' := by
  have hL := (hx.mem hm).un_tup
  have hW : Sm 4600 2 (.tup ws) := (hL.mem (by simp)).mono (by omega) (Nat.le_refl _)
  have hC : Sm 4600 2 (.tup cs) := (hL.mem (by simp)).mono (by omega) (Nat.le_refl _)
  have hc1 : ∀ {lo hi : Option Int}, (cutD xs lo hi).length ≤ 4 := Nat.le_trans cut_sub.length_le hl
  have c1 : (xs.length + 1 ≤ sizeLine) = True := szt (by omega)
  have c2 : ((cutD xs none (some 1)).length + 1 ≤ sizeLine) = True := szt (by have := hc1 (lo := none) (hi := some 1); omega)
  have c3 : ((cutD xs (some 1) none).length + 1 ≤ sizeLine) = True := szt (by have := hc1 (lo := some 1) (hi := none); omega)
  have c4 : (1 + (cutD xs (some 1) none).length ≤ sizeLine) = True := szt (by have := hc1 (lo := some 1) (hi := none); omega)
  have c5 : (1 + xs.length ≤ sizeLine) = True := szt (by omega)
  have hk : Sm 4600 4 (.tup xs) := Sm.tup hx
  simp only [s__law_wrong_row, b__law_wrong_row, wp_ok, wpo_some, wp_bind, wp_ofE, rd_d, wp_pureD, wp_mD, wp_m1, wp_m2, wp_mB, wp_nil, wp_cons, wp_tup, wp_lst, wp_lstM, wp_ix, wp_sl, wp_oN, wp_call, wp_callK, wp_ifV, wp_tst, wp_tAnd, wp_tOr, wp_tNot, wps_nil, wps_brk, wps_cnt, wps_seq, wps_ret, wps_retN, wps_exp, wps_if, wps_asg, gnm, wps_for, wp_fnS, wp_fnK, ret_d, ret_lst, keep_refl, keep_app, startE, List.map_cons, List.map_nil, List.replicate_succ, List.replicate_zero, List.cons_append, List.nil_append, List.length_cons, List.length_nil, List.getElem?_cons_zero, List.getElem?_cons_succ, List.set_cons_zero, List.set_cons_succ, Option.bind_some, Nat.reduceAdd, Nat.reduceSub, List.take_length, List.take_left, true_and, and_true, wp_var0, wp_varS, at0, at1, at2, add_ii, add_tt, add_ll, sub_ii, lt_ii, le_ii, gt_ii, ge_ii, neg_i, eq_ii, ne_ii, eq_ss, ne_ss, tr_bl, tr_i, tr_t, tr_l, wp_ixt, wp_ixl, wp_oS, sl_t, sl_l, sl_s, rds_nil, rds_d, omap_some, fzs_nil, fzs_d, fzW_d, wp_andV, wp_orV, wp_notV, wp_iSeq, its_t, its_l, wp_iEnum, en_t, en_l, wp_iZip, seq_t, seq_l, gtu, gscons, gsnil, wps_dput, wp_m0, wp_mm1, wps_par2, wp_yes, wipe0, wipeS, implies_true, forall_const, if_true, if_false, Bool.false_eq_true, Bool.not_true, Bool.not_false, wp_fd0, wp_fd1, mulT_i, mulT_l, wp_lrng, wp_revM, maxT_ii, wps_par3, sz0, sz1, sz2, sz3, sz4, sz5, sz6, sz7, sz8, sz9, sz10, sz11, sz12, sz13, sz14, sz15, sz16, sz17, sz18, sz19, sz20, sz21, sz22, sz23, sz24, sz25, sz26, sz27, sz28, sz29, sz30, sz31, sz32, sz33, sz34, sz35, sz36, sz37, sz38, sz39, sz40, sz41, sz42, sz43, sz44, sz45, sz46, sz47, sz48, sz49, sz50, sz51, sz52, sz53, sz54, sz55, sz56, sz57, sz58, sz59, sz60, sz61, sz62, sz63, h0, lenD_t, listD_t, rev_t, c1, c2, c3, c4, c5]
  have ht : tr (.tup xs) = true := by simpa [tr] using htr
  refine (w_bent 4 (n + 12) 4600 4 _ L (h.le (by omega)) hk ht (by omega) (by omega) (by omega)).imp fun y L1 ⟨z1, e, hz1, hd⟩ => ?_
  subst e
  refine (w_bent 4 (n + 2) 4600 4 _ L1 (hd.le (by omega)) hk ht (by omega) (by omega) (by omega)).imp fun y L2 ⟨z2, e, hz2, hd⟩ => ?_
  subst e
  refine (w_odd (n := n + 1) hd hk (fun i e => by cases e) (by omega)).imp fun y L3 ⟨z3, e, hz3, hd⟩ => ?_
  subst e
  simp only [wp_ok, wpo_some, wp_bind, wp_ofE, rd_d, wp_pureD, wp_mD, wp_m1, wp_m2, wp_mB, wp_nil, wp_cons, wp_tup, wp_lst, wp_lstM, wp_ix, wp_sl, wp_oN, wp_call, wp_callK, wp_ifV, wp_tst, wp_tAnd, wp_tOr, wp_tNot, wps_nil, wps_brk, wps_cnt, wps_seq, wps_ret, wps_retN, wps_exp, wps_if, wps_asg, gnm, wps_for, wp_fnS, wp_fnK, ret_d, ret_lst, keep_refl, keep_app, startE, List.map_cons, List.map_nil, List.replicate_succ, List.replicate_zero, List.cons_append, List.nil_append, List.length_cons, List.length_nil, List.getElem?_cons_zero, List.getElem?_cons_succ, List.set_cons_zero, List.set_cons_succ, Option.bind_some, Nat.reduceAdd, Nat.reduceSub, List.take_length, List.take_left, true_and, and_true, wp_var0, wp_varS, at0, at1, at2, add_ii, add_tt, add_ll, sub_ii, lt_ii, le_ii, gt_ii, ge_ii, neg_i, eq_ii, ne_ii, eq_ss, ne_ss, tr_bl, tr_i, tr_t, tr_l, wp_ixt, wp_ixl, wp_oS, sl_t, sl_l, sl_s, rds_nil, rds_d, omap_some, fzs_nil, fzs_d, fzW_d, wp_andV, wp_orV, wp_notV, wp_iSeq, its_t, its_l, wp_iEnum, en_t, en_l, wp_iZip, seq_t, seq_l, gtu, gscons, gsnil, wps_dput, wp_m0, wp_mm1, wps_par2, wp_yes, wipe0, wipeS, implies_true, forall_const, if_true, if_false, Bool.false_eq_true, Bool.not_true, Bool.not_false, wp_fd0, wp_fd1, mulT_i, mulT_l, wp_lrng, wp_revM, maxT_ii, wps_par3, sz0, sz1, sz2, sz3, sz4, sz5, sz6, sz7, sz8, sz9, sz10, sz11, sz12, sz13, sz14, sz15, sz16, sz17, sz18, sz19, sz20, sz21, sz22, sz23, sz24, sz25, sz26, sz27, sz28, sz29, sz30, sz31, sz32, sz33, sz34, sz35, sz36, sz37, sz38, sz39, sz40, sz41, sz42, sz43, sz44, sz45, sz46, sz47, sz48, sz49, sz50, sz51, sz52, sz53, sz54, sz55, sz56, sz57, sz58, sz59, sz60, sz61, sz62, sz63]
  refine (w_pick G (n := n) hd (by simp) (by simp only [List.length_cons, List.length_nil]; decide)).imp fun w L' ⟨z, hz, ew, hd⟩ => ?_
  subst ew
  obtain ⟨hk1, hd4⟩ := h.fin0 hd
  refine ⟨hk1, z, rfl, ?_, hd4⟩
  have hb : ∀ {ys : List D} {w' : Nat}, Sms w' 13 ys → w' ≤ 30000 → Sm 60000 14 (.tup ys) := fun h1 h2 => (Sm.tup h1).mono (by omega) (Nat.le_refl _)
  have hx' : Sms 4597 13 xs := hx.mono (Nat.le_refl _) (by omega)
  have hcut : ∀ {lo hi : Option Int}, Sms 4597 13 (cutD xs lo hi) := hx'.sub cut_sub
  have hW' : ∀ {m : Nat}, 2 ≤ m → Sm 4600 m (.tup ws) := fun q => hW.mono (Nat.le_refl _) q
  have hC' : ∀ {m : Nat}, 2 ≤ m → Sm 4600 m (.tup cs) := fun q => hC.mono (Nat.le_refl _) q
  have one : ∀ {y : D} {w m : Nat}, Sm w m y → Sms (w + 2) m [y] := fun q => (Sms.cons q Sms.nil).mono (by omega) (Nat.le_refl _)
  have p0 : ∀ {i : Int}, 0 ≤ i → i < 1000000 → Sm 400 12 (.tup [.tup [.int 0, .int i, .int 1]]) := fun q1 q2 =>
    (Sm.tup (one (Sm.tup (Sms.cons (sm_i (n := 10) (by omega) (by omega)) (Sms.cons (sm_i q1 (by omega)) (one (sm_i (by omega) (by omega)))))))).mono (by omega) (by omega)
  have hwl : (0 : Int) ≤ (ws.length : Int) ∧ (ws.length : Int) < 1000000 := by
    have := hW.un_tup.len
    omega
  have hCs : Sms 4600 1 cs := hC.un_tup
  simp only [List.mem_cons, List.not_mem_nil, or_false] at hz
  rcases hz with rfl | rfl | rfl | rfl | rfl | rfl | rfl | rfl | rfl | rfl | rfl | rfl | rfl | rfl | rfl | rfl
  · exact ⟨by first | rfl | (simp only [pl, pls]; done) | (simp only [pl, pls]; decide +kernel), by decide +kernel⟩
  · exact hb (hx'.app (one (Sm.tup (Sms.cons (hW' (by omega)) (one (p0 (by omega) (by omega))))))) (by omega)
  · exact hb (hx'.app (one (Sm.tup (Sms.cons (hW' (by omega)) (one (p0 hwl.1 hwl.2)))))) (by omega)
  · exact hb (hx'.app (one (w := 20) (m := 13) ⟨by simp only [pl, pls]; decide +kernel, by decide +kernel⟩)) (by omega)
  · exact (Sm.lst hx').mono (by omega) (by omega)
  · exact hb (hcut.app (one (Sm.lst (Sms.cons (hW' (m := 12) (by omega)) (one (hC' (by omega))))))) (by omega)
  · exact hb (Sms.cons (Sm.tup (one (hW' (m := 12) (by omega)))) hcut) (by omega)
  · exact hb (Sms.cons (hW' (by omega)) (one (hC' (by omega)))) (by omega)
  · exact hb (hcut.app (one (Sm.tup (Sms.cons (hW' (m := 12) (by omega)) (one (Sm.lst (hCs.mono (m := 11) (Nat.le_refl _) (by omega)))))))) (by omega)
  · exact ⟨by simp only [pl, pls]; decide +kernel, by decide +kernel⟩
  · exact ⟨by simp only [pl, pls]; decide +kernel, by decide +kernel⟩
  · exact hb (Sms.cons (w := 200) ⟨by simp only [pl, pls]; decide +kernel, by decide +kernel⟩ hx') (by omega)
  · exact hb (one (Sm.tup (Sms.cons (hW' (m := 12) (by omega)) (one (Sm.tup (hCs.rev.mono (m := 11) (Nat.le_refl _) (by omega))))))) (by omega)
  · exact hz1.mono (by omega) (by omega)
  · exact hz2.mono (by omega) (by omega)
  · exact hz3.mono (by omega) (by omega)
end
end MP.Fk40
namespace MP.Fk40
open PySem PySem.Spec PyProof.Rows L2 MP
section
variable {G : Cst} {R L : LH} {n : Nat} {rs : List Lin}
theorem sm_lin {r : Lin} {m : Nat} (h : OkL r) : Sm 1140 (m + 3) (lin r) := by
  have h1 := Sms.all (w := 22) (n := m + 1) (xs := r.1.map D.int) fun x hx => by
    obtain ⟨i, hi, rfl⟩ := List.mem_map.mp hx
    have := h.w i hi
    exact sm_i (by omega) (by omega)
  have h2 := Sms.all (w := 75) (n := m + 1) (xs := r.2.map tri) fun x hx => by
    obtain ⟨c, hc, rfl⟩ := List.mem_map.mp hx
    obtain ⟨a0, a1, b0, b1, w0, w1⟩ := h.p c hc
    exact Sm.tup (w := 72) (Sms.cons (sm_i (by omega) (by omega)) (Sms.cons (sm_i (by omega) (by omega)) (Sms.cons (sm_i (by omega) (by omega)) Sms.nil)))
  refine (Sm.tup (Sms.cons (Sm.tup h1) (Sms.cons (Sm.tup h2) Sms.nil))).mono ?_ (Nat.le_refl _)
  rw [List.length_map, List.length_map]
  have := h.l1
  have := h.c
  omega
theorem sm_row {m : Nat} (h : ∀ r ∈ rs, OkL r) (hl : rs.length ≤ 4) : Sms 4597 (m + 3) (rs.map lin) := by
  have h1 := Sms.all (w := 1140) (n := m + 3) (xs := rs.map lin) fun x hx => by
    obtain ⟨c, hc, rfl⟩ := List.mem_map.mp hx
    exact sm_lin (h c hc)
  refine h1.mono ?_ (Nat.le_refl _)
  rw [List.length_map]
  omega
theorem tr_row (h : ∀ r ∈ rs, OkL r) : trs (rs.map lin) = true := by
  refine trs_iff.mpr fun x hx => ?_
  obtain ⟨r, hr, rfl⟩ := List.mem_map.mp hx
  have h1 := h r hr
  have e : tr (lin r) = (trs (r.1.map D.int) && (trs (r.2.map tri) && true)) := by simp [lin, tr, trs]
  rw [e, Bool.and_eq_true, Bool.and_eq_true]
  refine ⟨trs_iff.mpr fun y hy => ?_, trs_iff.mpr fun y hy => ?_, rfl⟩
  · obtain ⟨i, hi, rfl⟩ := List.mem_map.mp hy
    have := h1.w i hi
    simp only [tr, decide_eq_true_eq]
    omega
  · obtain ⟨c, hc, rfl⟩ := List.mem_map.mp hy
    obtain ⟨a0, a1, b0, b1, w0, w1⟩ := h1.p c hc
    simp only [tri, tr, trs, Bool.and_eq_true, decide_eq_true_eq, and_true]
    omega
theorem len7 {α : Type} {t : List α} (h : t.length = 7) : ∃ a2 a3 a4 a5 a6 a7 a8, t = [a2, a3, a4, a5, a6, a7, a8] := by
  match t, h with
  | [a2, a3, a4, a5, a6, a7, a8], _ => exact ⟨a2, a3, a4, a5, a6, a7, a8, rfl⟩
theorem pk2 {a : W} : pick ["thing"] ["thing"] [a] = [a] := by kernel_rfl
theorem mul4 : mulT (.lst [.bl false]) (.int 4) = some (.lst [.bl false, .bl false, .bl false, .bl false]) := by kernel_rfl
theorem eq4 : eqD (.lst [.bl false, .bl false, .bl false, .bl false]) (.lst [.bl false, .bl false, .bl false, .bl false]) = some (.bl true) := by kernel_rfl
def MidT (ns : List Int) (i : Int) (k : Nat) (env : Ev) (L : LH) : Prop := ∃ (th : D) (a3 a5 a6 a7 a8 : Option W) (R : LH), Sm 60000 14 th ∧ env = [some (.d (.scr ns)), some (.loc 0), some (.d (.int i)), a3, some (.d th), a5, a6, a7, a8] ∧ Dk k R L
theorem law_true' (G : Cst) (ns : List Int) (h : ns.length ≤ 63) : Wp (s_law G [.d (.scr ns)] []) fun w _ => w = .d (.bl true) := by
  rw [s_law, wp_fnS]
  unfold b_law
  refine wps_mid (fun env L => ∃ t, t.length = 7 ∧ env = some (.d (.scr ns)) :: some (.loc 0) :: t ∧ Dk (2 ^ 59) [] L) ?_ ?_
  · simp only [wp_ok, wpo_some, wp_bind, wp_ofE, rd_d, wp_pureD, wp_mD, wp_m1, wp_m2, wp_mB, wp_nil, wp_cons, wp_tup, wp_lst, wp_lstM, wp_ix, wp_sl, wp_oN, wp_call, wp_callK, wp_ifV, wp_tst, wp_tAnd, wp_tOr, wp_tNot, wps_nil, wps_brk, wps_cnt, wps_seq, wps_ret, wps_retN, wps_exp, wps_if, wps_asg, gnm, wps_for, wp_fnS, wp_fnK, ret_d, ret_lst, keep_refl, keep_app, startE, List.map_cons, List.map_nil, List.replicate_succ, List.replicate_zero, List.cons_append, List.nil_append, List.length_cons, List.length_nil, List.getElem?_cons_zero, List.getElem?_cons_succ, List.set_cons_zero, List.set_cons_succ, Option.bind_some, Nat.reduceAdd, Nat.reduceSub, List.take_length, List.take_left, true_and, and_true, wp_var0, wp_varS, at0, at1, at2, add_ii, add_tt, add_ll, sub_ii, lt_ii, le_ii, gt_ii, ge_ii, neg_i, eq_ii, ne_ii, eq_ss, ne_ss, tr_bl, tr_i, tr_t, tr_l, wp_ixt, wp_ixl, wp_oS, sl_t, sl_l, sl_s, rds_nil, rds_d, omap_some, fzs_nil, fzs_d, fzW_d, wp_andV, wp_orV, wp_notV, wp_iSeq, its_t, its_l, wp_iEnum, en_t, en_l, wp_iZip, seq_t, seq_l, gtu, gscons, gsnil, wps_dput, wp_m0, wp_mm1, wps_par2, wp_yes, wipe0, wipeS, implies_true, forall_const, if_true, if_false, Bool.false_eq_true, Bool.not_true, Bool.not_false, wp_fd0, wp_fd1, mulT_i, mulT_l, wp_lrng, wp_revM, maxT_ii, wps_par3]
    exact (w_deck G h).imp fun w L ⟨e, hd⟩ => by subst e; exact ⟨_, rfl, rfl, hd⟩
  rintro env L ⟨t, ht, rfl, hd⟩
  refine wps_mid (fun env L => (∃ t, t.length = 7 ∧ env = some (.d (.scr ns)) :: some (.loc 0) :: t) ∧ ∃ R, Dk 10 R L) ?_ ?_
  · simp only [wp_ok, wpo_some, wp_bind, wp_ofE, rd_d, wp_pureD, wp_mD, wp_m1, wp_m2, wp_mB, wp_nil, wp_cons, wp_tup, wp_lst, wp_lstM, wp_ix, wp_sl, wp_oN, wp_call, wp_callK, wp_ifV, wp_tst, wp_tAnd, wp_tOr, wp_tNot, wps_nil, wps_brk, wps_cnt, wps_seq, wps_ret, wps_retN, wps_exp, wps_if, wps_asg, gnm, wps_for, wp_fnS, wp_fnK, ret_d, ret_lst, keep_refl, keep_app, startE, List.map_cons, List.map_nil, List.replicate_succ, List.replicate_zero, List.cons_append, List.nil_append, List.length_cons, List.length_nil, List.getElem?_cons_zero, List.getElem?_cons_succ, List.set_cons_zero, List.set_cons_succ, Option.bind_some, Nat.reduceAdd, Nat.reduceSub, List.take_length, List.take_left, true_and, and_true, wp_var0, wp_varS, at0, at1, at2, add_ii, add_tt, add_ll, sub_ii, lt_ii, le_ii, gt_ii, ge_ii, neg_i, eq_ii, ne_ii, eq_ss, ne_ss, tr_bl, tr_i, tr_t, tr_l, wp_ixt, wp_ixl, wp_oS, sl_t, sl_l, sl_s, rds_nil, rds_d, omap_some, fzs_nil, fzs_d, fzW_d, wp_andV, wp_orV, wp_notV, wp_iSeq, its_t, its_l, wp_iEnum, en_t, en_l, wp_iZip, seq_t, seq_l, gtu, gscons, gsnil, wps_dput, wp_m0, wp_mm1, wps_par2, wp_yes, wipe0, wipeS, implies_true, forall_const, if_true, if_false, Bool.false_eq_true, Bool.not_true, Bool.not_false, wp_fd0, wp_fd1, mulT_i, mulT_l, wp_lrng, wp_revM, maxT_ii, wps_par3, wp_rngI]
    refine ⟨by decide, ?_⟩
    refine forM_inv (fun xs env L => (∀ x ∈ xs, ∃ i, x = .int i) ∧ (∃ t, t.length = 7 ∧ env = some (.d (.scr ns)) :: some (.loc 0) :: t) ∧ ∃ R, Dk (600 * xs.length + 10) R L) ?_ ?_ _ _ _ ?_
    · rintro x r env L ⟨hx, ⟨t, ht, rfl⟩, R, hd⟩
      refine ⟨trivial, ?_⟩
      obtain ⟨i, rfl⟩ := hx _ (List.mem_cons_self ..)
      have hx' := fun y hy => hx y (List.mem_cons_of_mem _ hy)
      obtain ⟨a2, a3, a4, a5, a6, a7, a8, rfl⟩ := len7 ht
      rw [List.length_cons] at hd
      simp only [gnm, wpo_some, List.set_cons_succ, List.set_cons_zero]
      refine wps_mid (fun env L => ∃ (rs : List Lin) (R : LH), env = [some (.d (.scr ns)), some (.loc 0), some (.d (.int i)), some (.d (.tup (rs.map lin))), a4, a5, a6, a7, a8] ∧ (1 ≤ rs.length ∧ rs.length ≤ 4) ∧ (∀ r ∈ rs, OkL r) ∧ Dk (600 * r.length + 50) R L) ?_ ?_
      · simp only [wp_ok, wpo_some, wp_bind, wp_ofE, rd_d, wp_pureD, wp_mD, wp_m1, wp_m2, wp_mB, wp_nil, wp_cons, wp_tup, wp_lst, wp_lstM, wp_ix, wp_sl, wp_oN, wp_call, wp_callK, wp_ifV, wp_tst, wp_tAnd, wp_tOr, wp_tNot, wps_nil, wps_brk, wps_cnt, wps_seq, wps_ret, wps_retN, wps_exp, wps_if, wps_asg, gnm, wps_for, wp_fnS, wp_fnK, ret_d, ret_lst, keep_refl, keep_app, startE, List.map_cons, List.map_nil, List.replicate_succ, List.replicate_zero, List.cons_append, List.nil_append, List.length_cons, List.length_nil, List.getElem?_cons_zero, List.getElem?_cons_succ, List.set_cons_zero, List.set_cons_succ, Option.bind_some, Nat.reduceAdd, Nat.reduceSub, List.take_length, List.take_left, true_and, and_true, wp_var0, wp_varS, at0, at1, at2, add_ii, add_tt, add_ll, sub_ii, lt_ii, le_ii, gt_ii, ge_ii, neg_i, eq_ii, ne_ii, eq_ss, ne_ss, tr_bl, tr_i, tr_t, tr_l, wp_ixt, wp_ixl, wp_oS, sl_t, sl_l, sl_s, rds_nil, rds_d, omap_some, fzs_nil, fzs_d, fzW_d, wp_andV, wp_orV, wp_notV, wp_iSeq, its_t, its_l, wp_iEnum, en_t, en_l, wp_iZip, seq_t, seq_l, gtu, gscons, gsnil, wps_dput, wp_m0, wp_mm1, wps_par2, wp_yes, wipe0, wipeS, implies_true, forall_const, if_true, if_false, Bool.false_eq_true, Bool.not_true, Bool.not_false, wp_fd0, wp_fd1, mulT_i, mulT_l, wp_lrng, wp_revM, maxT_ii, wps_par3]
        refine (w_draw G (n := 600 * r.length + 600) (hd.le (by omega)) (by decide) (by decide)).imp fun w L ⟨d, e, d0, d1, hd⟩ => ?_
        subst e
        simp only [wp_ok, wpo_some, wp_bind, wp_ofE, rd_d, wp_pureD, wp_mD, wp_m1, wp_m2, wp_mB, wp_nil, wp_cons, wp_tup, wp_lst, wp_lstM, wp_ix, wp_sl, wp_oN, wp_call, wp_callK, wp_ifV, wp_tst, wp_tAnd, wp_tOr, wp_tNot, wps_nil, wps_brk, wps_cnt, wps_seq, wps_ret, wps_retN, wps_exp, wps_if, wps_asg, gnm, wps_for, wp_fnS, wp_fnK, ret_d, ret_lst, keep_refl, keep_app, startE, List.map_cons, List.map_nil, List.replicate_succ, List.replicate_zero, List.cons_append, List.nil_append, List.length_cons, List.length_nil, List.getElem?_cons_zero, List.getElem?_cons_succ, List.set_cons_zero, List.set_cons_succ, Option.bind_some, Nat.reduceAdd, Nat.reduceSub, List.take_length, List.take_left, true_and, and_true, wp_var0, wp_varS, at0, at1, at2, add_ii, add_tt, add_ll, sub_ii, lt_ii, le_ii, gt_ii, ge_ii, neg_i, eq_ii, ne_ii, eq_ss, ne_ss, tr_bl, tr_i, tr_t, tr_l, wp_ixt, wp_ixl, wp_oS, sl_t, sl_l, sl_s, rds_nil, rds_d, omap_some, fzs_nil, fzs_d, fzW_d, wp_andV, wp_orV, wp_notV, wp_iSeq, its_t, its_l, wp_iEnum, en_t, en_l, wp_iZip, seq_t, seq_l, gtu, gscons, gsnil, wps_dput, wp_m0, wp_mm1, wps_par2, wp_yes, wipe0, wipeS, implies_true, forall_const, if_true, if_false, Bool.false_eq_true, Bool.not_true, Bool.not_false, wp_fd0, wp_fd1, mulT_i, mulT_l, wp_lrng, wp_revM, maxT_ii, wps_par3]
        obtain ⟨q, hq⟩ : ∃ q : Nat, (q : Int) = 1 + d := ⟨(1 + d).toNat, by omega⟩
        have fin : ∀ mm : Int, 0 ≤ mm ∧ mm ≤ 12 → Wp (s__law_row G [.loc 0, .d (.int (1 + d)), .d (.int mm)] L) fun w L1 => ∃ (rs : List Lin) (R : LH), [some (W.d (.scr ns)), some (.loc 0), some (.d (.int i)), some w, a4, a5, a6, a7, a8] = [some (.d (.scr ns)), some (.loc 0), some (.d (.int i)), some (.d (.tup (rs.map lin))), a4, a5, a6, a7, a8] ∧ (1 ≤ rs.length ∧ rs.length ≤ 4) ∧ (∀ r ∈ rs, OkL r) ∧ Dk (600 * r.length + 50) R L1 := fun mm hm =>
          (w_row (n := 600 * r.length + 50) hq (by omega) hm (hd.le (by omega))).imp fun w L1 ⟨rs, e, h1, h2, h3⟩ => by
            subst e
            exact ⟨rs, R, rfl, by omega, h2, h3⟩
        split
        · exact fin 12 (by decide)
        · exact fin 4 (by decide)
      rintro env L ⟨rs, R, rfl, hrl, hrs, hd⟩
      have hxs := sm_row (m := 0) hrs hrl.2
      have hrow : Sm 60000 14 (.tup (rs.map lin)) := (Sm.tup hxs).mono (by omega) (by omega)
      refine wps_mid (MidT ns i (600 * r.length + 10)) ?_ ?_
      · simp only [wp_ok, wpo_some, wp_bind, wp_ofE, rd_d, wp_pureD, wp_mD, wp_m1, wp_m2, wp_mB, wp_nil, wp_cons, wp_tup, wp_lst, wp_lstM, wp_ix, wp_sl, wp_oN, wp_call, wp_callK, wp_ifV, wp_tst, wp_tAnd, wp_tOr, wp_tNot, wps_nil, wps_brk, wps_cnt, wps_seq, wps_ret, wps_retN, wps_exp, wps_if, wps_asg, gnm, wps_for, wp_fnS, wp_fnK, ret_d, ret_lst, keep_refl, keep_app, startE, List.map_cons, List.map_nil, List.replicate_succ, List.replicate_zero, List.cons_append, List.nil_append, List.length_cons, List.length_nil, List.getElem?_cons_zero, List.getElem?_cons_succ, List.set_cons_zero, List.set_cons_succ, Option.bind_some, Nat.reduceAdd, Nat.reduceSub, List.take_length, List.take_left, true_and, and_true, wp_var0, wp_varS, at0, at1, at2, add_ii, add_tt, add_ll, sub_ii, lt_ii, le_ii, gt_ii, ge_ii, neg_i, eq_ii, ne_ii, eq_ss, ne_ss, tr_bl, tr_i, tr_t, tr_l, wp_ixt, wp_ixl, wp_oS, sl_t, sl_l, sl_s, rds_nil, rds_d, omap_some, fzs_nil, fzs_d, fzW_d, wp_andV, wp_orV, wp_notV, wp_iSeq, its_t, its_l, wp_iEnum, en_t, en_l, wp_iZip, seq_t, seq_l, gtu, gscons, gsnil, wps_dput, wp_m0, wp_mm1, wps_par2, wp_yes, wipe0, wipeS, implies_true, forall_const, if_true, if_false, Bool.false_eq_true, Bool.not_true, Bool.not_false, wp_fd0, wp_fd1, mulT_i, mulT_l, wp_lrng, wp_revM, maxT_ii, wps_par3, int_i, mod_ii, show (0 : Int) < 4 by decide]
        split
        · exact ⟨_, _, _, _, _, _, R, hrow, rfl, hd.le (by omega)⟩
        · obtain ⟨r0, rt, rfl⟩ : ∃ r0 rt, rs = r0 :: rt := by
            cases rs with
            | nil => simp at hrl
            | cons r0 rt => exact ⟨r0, rt, rfl⟩
          refine (w_wrong (n := 600 * r.length + 10) (hd.le (by omega)) hxs (by rw [List.length_map]; exact hrl.2) (ws := r0.1.map D.int) (cs := r0.2.map tri) (by rw [List.map_cons]; exact at0) (tr_row hrs) (by rw [List.map_cons]; exact List.mem_cons_self ..)).imp fun w L1 ⟨z, e, hz, hd⟩ => ?_
          subst e
          exact ⟨z, _, _, _, _, _, R, hz, rfl, hd⟩
      rintro env L ⟨th, a3, a5, a6, a7, a8, R, hsm, rfl, hd⟩
      have hgd := gd_of (some G.cLine) th _ _ hsm (by omega)
      have hr := repr_of (hsm.mono (by omega) (by omega) : Sm 16777216 60 th)
      have hr2 : ∀ b : Bool, reprD [.tup [.bl b, .bl b]] = some (.str (shw (.tup [.bl b, .bl b]))) := fun b => repr_of ⟨by simp [pl, pls], by simp [wt, wts]⟩
      simp only [wp_ok, wpo_some, wp_bind, wp_ofE, rd_d, wp_pureD, wp_mD, wp_m1, wp_m2, wp_mB, wp_nil, wp_cons, wp_tup, wp_lst, wp_lstM, wp_ix, wp_sl, wp_oN, wp_call, wp_callK, wp_ifV, wp_tst, wp_tAnd, wp_tOr, wp_tNot, wps_nil, wps_brk, wps_cnt, wps_seq, wps_ret, wps_retN, wps_exp, wps_if, wps_asg, gnm, wps_for, wp_fnS, wp_fnK, ret_d, ret_lst, keep_refl, keep_app, startE, List.map_cons, List.map_nil, List.replicate_succ, List.replicate_zero, List.cons_append, List.nil_append, List.length_cons, List.length_nil, List.getElem?_cons_zero, List.getElem?_cons_succ, List.set_cons_zero, List.set_cons_succ, Option.bind_some, Nat.reduceAdd, Nat.reduceSub, List.take_length, List.take_left, true_and, and_true, wp_var0, wp_varS, at0, at1, at2, add_ii, add_tt, add_ll, sub_ii, lt_ii, le_ii, gt_ii, ge_ii, neg_i, eq_ii, ne_ii, eq_ss, ne_ss, tr_bl, tr_i, tr_t, tr_l, wp_ixt, wp_ixl, wp_oS, sl_t, sl_l, sl_s, rds_nil, rds_d, omap_some, fzs_nil, fzs_d, fzW_d, wp_andV, wp_orV, wp_notV, wp_iSeq, its_t, its_l, wp_iEnum, en_t, en_l, wp_iZip, seq_t, seq_l, gtu, gscons, gsnil, wps_dput, wp_m0, wp_mm1, wps_par2, wp_yes, wipe0, wipeS, implies_true, forall_const, if_true, if_false, Bool.false_eq_true, Bool.not_true, Bool.not_false, wp_fd0, wp_fd1, mulT_i, mulT_l, wp_lrng, wp_revM, maxT_ii, wps_par3, sz0, sz1, sz2, sz3, sz4, sz5, sz6, sz7, sz8, sz9, sz10, sz11, sz12, sz13, sz14, sz15, sz16, sz17, sz18, sz19, sz20, sz21, sz22, sz23, sz24, sz25, sz26, sz27, sz28, sz29, sz30, sz31, sz32, sz33, sz34, sz35, sz36, sz37, sz38, sz39, sz40, sz41, sz42, sz43, sz44, sz45, sz46, sz47, sz48, sz49, sz50, sz51, sz52, sz53, sz54, sz55, sz56, sz57, sz58, sz59, sz60, sz61, sz62, sz63, wp_eq (q_lrow hgd), hr, wp_eq (q_row hgd), pk2, hr2, decide_true]
      have fin : ∀ a b c d e : Option W, (∀ x ∈ r, ∃ i, x = .int i) ∧ (∃ t, t.length = 7 ∧ [some (W.d (.scr ns)), some (.loc 0), some (.d (.int i)), a, some (.d th), b, c, d, e] = some (.d (.scr ns)) :: some (.loc 0) :: t) ∧ ∃ R, Dk (600 * r.length + 10) R L := fun a b c d e => ⟨hx', ⟨_, rfl, rfl⟩, R, hd⟩
      split
      · rename_i hrow
        refine (w_rwi hrow hgd).imp fun w L1 ⟨b, e, e2⟩ => ?_
        subst e
        subst e2
        simp only [wp_ok, wpo_some, wp_bind, wp_ofE, rd_d, wp_pureD, wp_mD, wp_m1, wp_m2, wp_mB, wp_nil, wp_cons, wp_tup, wp_lst, wp_lstM, wp_ix, wp_sl, wp_oN, wp_call, wp_callK, wp_ifV, wp_tst, wp_tAnd, wp_tOr, wp_tNot, wps_nil, wps_brk, wps_cnt, wps_seq, wps_ret, wps_retN, wps_exp, wps_if, wps_asg, gnm, wps_for, wp_fnS, wp_fnK, ret_d, ret_lst, keep_refl, keep_app, startE, List.map_cons, List.map_nil, List.replicate_succ, List.replicate_zero, List.cons_append, List.nil_append, List.length_cons, List.length_nil, List.getElem?_cons_zero, List.getElem?_cons_succ, List.set_cons_zero, List.set_cons_succ, Option.bind_some, Nat.reduceAdd, Nat.reduceSub, List.take_length, List.take_left, true_and, and_true, wp_var0, wp_varS, at0, at1, at2, add_ii, add_tt, add_ll, sub_ii, lt_ii, le_ii, gt_ii, ge_ii, neg_i, eq_ii, ne_ii, eq_ss, ne_ss, tr_bl, tr_i, tr_t, tr_l, wp_ixt, wp_ixl, wp_oS, sl_t, sl_l, sl_s, rds_nil, rds_d, omap_some, fzs_nil, fzs_d, fzW_d, wp_andV, wp_orV, wp_notV, wp_iSeq, its_t, its_l, wp_iEnum, en_t, en_l, wp_iZip, seq_t, seq_l, gtu, gscons, gsnil, wps_dput, wp_m0, wp_mm1, wps_par2, wp_yes, wipe0, wipeS, implies_true, forall_const, if_true, if_false, Bool.false_eq_true, Bool.not_true, Bool.not_false, wp_fd0, wp_fd1, mulT_i, mulT_l, wp_lrng, wp_revM, maxT_ii, wps_par3]
        cases b
        · exact fin _ _ _ _ _
        · exact fin _ _ _ _ _
      · exact fin _ _ _ _ _
    · rintro env L ⟨_, ht, R, hd⟩
      exact ⟨trivial, ht, R, hd.le (by simp)⟩
    · refine ⟨?_, ⟨_, ht, rfl⟩, [], hd.le (by decide)⟩
      intro x hx
      obtain ⟨j, _, rfl⟩ := List.mem_map.mp hx
      exact ⟨_, rfl⟩
  rintro env L ⟨⟨t, ht, rfl⟩, R, hd⟩
  obtain ⟨a2, a3, a4, a5, a6, a7, a8, rfl⟩ := len7 ht
  simp only [wps_seq, wps_asg]
  refine w_line fun fs => ?_
  have k1 : gd (some G.cLine) (.ob G.cLine fs) = true := by simp [gd]
  have k2 : gd (some G.cLine) (.tup [.ob G.cLine fs]) = true := by simp [gd, gds]
  have k3 : gd (some G.cLine) (.tup [.tup [.ob G.cLine fs, .tup []]]) = true := by simp [gd, gds]
  have k4 : gd (some G.cLine) (.tup [.tup [.tup [.int 1], .ob G.cLine fs]]) = true := by simp [gd, gds]
  have e1 : rowB (.ob G.cLine fs) = false := rfl
  have e2 : rowB (.tup [.ob G.cLine fs]) = false := by simp [rowB, lnB]
  have e3 : rowB (.tup [.tup [.ob G.cLine fs, .tup []]]) = false := by simp [rowB, lnB, wB]
  have e4 : rowB (.tup [.tup [.tup [.int 1], .ob G.cLine fs]]) = false := by simp [rowB, lnB, wB, arB, aaB]
  simp only [wp_ok, wpo_some, wp_bind, wp_ofE, rd_d, wp_pureD, wp_mD, wp_m1, wp_m2, wp_mB, wp_nil, wp_cons, wp_tup, wp_lst, wp_lstM, wp_ix, wp_sl, wp_oN, wp_call, wp_callK, wp_ifV, wp_tst, wp_tAnd, wp_tOr, wp_tNot, wps_nil, wps_brk, wps_cnt, wps_seq, wps_ret, wps_retN, wps_exp, wps_if, wps_asg, gnm, wps_for, wp_fnS, wp_fnK, ret_d, ret_lst, keep_refl, keep_app, startE, List.map_cons, List.map_nil, List.replicate_succ, List.replicate_zero, List.cons_append, List.nil_append, List.length_cons, List.length_nil, List.getElem?_cons_zero, List.getElem?_cons_succ, List.set_cons_zero, List.set_cons_succ, Option.bind_some, Nat.reduceAdd, Nat.reduceSub, List.take_length, List.take_left, true_and, and_true, wp_var0, wp_varS, at0, at1, at2, add_ii, add_tt, add_ll, sub_ii, lt_ii, le_ii, gt_ii, ge_ii, neg_i, eq_ii, ne_ii, eq_ss, ne_ss, tr_bl, tr_i, tr_t, tr_l, wp_ixt, wp_ixl, wp_oS, sl_t, sl_l, sl_s, rds_nil, rds_d, omap_some, fzs_nil, fzs_d, fzW_d, wp_andV, wp_orV, wp_notV, wp_iSeq, its_t, its_l, wp_iEnum, en_t, en_l, wp_iZip, seq_t, seq_l, gtu, gscons, gsnil, wps_dput, wp_m0, wp_mm1, wps_par2, wp_yes, wipe0, wipeS, implies_true, forall_const, if_true, if_false, Bool.false_eq_true, Bool.not_true, Bool.not_false, wp_fd0, wp_fd1, mulT_i, mulT_l, wp_lrng, wp_revM, maxT_ii, wps_par3, sz0, sz1, sz2, sz3, sz4, sz5, sz6, sz7, sz8, sz9, sz10, sz11, sz12, sz13, sz14, sz15, sz16, sz17, sz18, sz19, sz20, sz21, sz22, sz23, sz24, sz25, sz26, sz27, sz28, sz29, sz30, sz31, sz32, sz33, sz34, sz35, sz36, sz37, sz38, sz39, sz40, sz41, sz42, sz43, sz44, sz45, sz46, sz47, sz48, sz49, sz50, sz51, sz52, sz53, sz54, sz55, sz56, sz57, sz58, sz59, sz60, sz61, sz62, sz63, pk2, wp_eq (q_row k1), wp_eq (q_row k2), wp_eq (q_row k3), wp_eq (q_row k4), e1, e2, e3, e4, mul4, eq4]
  exact ⟨keep0, rfl⟩
theorem law_true (G : Cst) (ns : List Int) (h : ns.length ≤ 63) : ∃ L, s_law G [.d (.scr ns)] [] = .ok (.d (.bl true)) L := by
  obtain ⟨a, L, e, q⟩ := (law_true' G ns h).of
  exact ⟨L, by rw [e, q]⟩
end
end MP.Fk40
namespace MP.Fk40
open PySem PySem.Spec PyProof.Rows L2 MP
theorem fin {P : Program} {K : PySem.W.Frag} {h : Heap} {mg : Str → Option Value} {fa : Addr} {w : World} (KX : K.In h) (GN : h.Ns mainGlobals mg) (hfa : mg "law" = some (.ref fa))
    {cc_Line : Addr}
    {f_is_tuple : Addr} {od_is_tuple an_is_tuple : Option Addr} {sl_is_tuple : Array (Option Value)} {oc_is_tuple kV_is_tuple dc_is_tuple pm_is_tuple cd_is_tuple ct_is_tuple : Value}
    {f_is_integer : Addr} {od_is_integer an_is_integer : Option Addr} {sl_is_integer : Array (Option Value)} {oc_is_integer kV_is_integer dc_is_integer pm_is_integer cd_is_integer ct_is_integer : Value}
    {f_is_from : Addr} {od_is_from an_is_from : Option Addr} {sl_is_from : Array (Option Value)} {oc_is_from kV_is_from dc_is_from pm_is_from cd_is_from ct_is_from : Value}
    {f_is_weights_value : Addr} {od_is_weights_value an_is_weights_value : Option Addr} {sl_is_weights_value : Array (Option Value)} {oc_is_weights_value kV_is_weights_value dc_is_weights_value pm_is_weights_value cd_is_weights_value ct_is_weights_value : Value}
    {f_is_packet : Addr} {od_is_packet an_is_packet : Option Addr} {sl_is_packet : Array (Option Value)} {oc_is_packet kV_is_packet dc_is_packet pm_is_packet cd_is_packet ct_is_packet : Value}
    {f_are_arrivals : Addr} {od_are_arrivals an_are_arrivals : Option Addr} {sl_are_arrivals : Array (Option Value)} {oc_are_arrivals kV_are_arrivals dc_are_arrivals pm_are_arrivals cd_are_arrivals ct_are_arrivals : Value}
    {f_is_arrivals_value : Addr} {od_is_arrivals_value an_is_arrivals_value : Option Addr} {sl_is_arrivals_value : Array (Option Value)} {oc_is_arrivals_value kV_is_arrivals_value dc_is_arrivals_value pm_is_arrivals_value cd_is_arrivals_value ct_is_arrivals_value : Value}
    {f_is_line : Addr} {od_is_line an_is_line : Option Addr} {sl_is_line : Array (Option Value)} {oc_is_line kV_is_line dc_is_line pm_is_line cd_is_line ct_is_line : Value}
    {f_is_row : Addr} {od_is_row an_is_row : Option Addr} {sl_is_row : Array (Option Value)} {oc_is_row kV_is_row dc_is_row pm_is_row cd_is_row ct_is_row : Value}
    {f_need_weights : Addr} {od_need_weights an_need_weights : Option Addr} {sl_need_weights : Array (Option Value)} {oc_need_weights kV_need_weights dc_need_weights pm_need_weights cd_need_weights ct_need_weights : Value}
    {f_Line___init__ : Addr} {od_Line___init__ an_Line___init__ : Option Addr} {sl_Line___init__ : Array (Option Value)} {oc_Line___init__ kV_Line___init__ dc_Line___init__ pm_Line___init__ cd_Line___init__ ct_Line___init__ : Value}
    {f__law_deck : Addr} {od__law_deck an__law_deck : Option Addr} {sl__law_deck : Array (Option Value)} {oc__law_deck kV__law_deck dc__law_deck pm__law_deck cd__law_deck ct__law_deck : Value}
    {f__law_draw : Addr} {od__law_draw an__law_draw : Option Addr} {sl__law_draw : Array (Option Value)} {oc__law_draw kV__law_draw dc__law_draw pm__law_draw cd__law_draw ct__law_draw : Value}
    {f__law_pick : Addr} {od__law_pick an__law_pick : Option Addr} {sl__law_pick : Array (Option Value)} {oc__law_pick kV__law_pick dc__law_pick pm__law_pick cd__law_pick ct__law_pick : Value}
    {f__law_weights : Addr} {od__law_weights an__law_weights : Option Addr} {sl__law_weights : Array (Option Value)} {oc__law_weights kV__law_weights dc__law_weights pm__law_weights cd__law_weights ct__law_weights : Value}
    {f__law_arrivals : Addr} {od__law_arrivals an__law_arrivals : Option Addr} {sl__law_arrivals : Array (Option Value)} {oc__law_arrivals kV__law_arrivals dc__law_arrivals pm__law_arrivals cd__law_arrivals ct__law_arrivals : Value}
    {f__law_row : Addr} {od__law_row an__law_row : Option Addr} {sl__law_row : Array (Option Value)} {oc__law_row kV__law_row dc__law_row pm__law_row cd__law_row ct__law_row : Value}
    {f__law_is_integer : Addr} {od__law_is_integer an__law_is_integer : Option Addr} {sl__law_is_integer : Array (Option Value)} {oc__law_is_integer kV__law_is_integer dc__law_is_integer pm__law_is_integer cd__law_is_integer ct__law_is_integer : Value}
    {f__law_are_weights : Addr} {od__law_are_weights an__law_are_weights : Option Addr} {sl__law_are_weights : Array (Option Value)} {oc__law_are_weights kV__law_are_weights dc__law_are_weights pm__law_are_weights cd__law_are_weights ct__law_are_weights : Value}
    {f__law_are_arrivals : Addr} {od__law_are_arrivals an__law_are_arrivals : Option Addr} {sl__law_are_arrivals : Array (Option Value)} {oc__law_are_arrivals kV__law_are_arrivals dc__law_are_arrivals pm__law_are_arrivals cd__law_are_arrivals ct__law_are_arrivals : Value}
    {f__law_is_row : Addr} {od__law_is_row an__law_is_row : Option Addr} {sl__law_is_row : Array (Option Value)} {oc__law_is_row kV__law_is_row dc__law_is_row pm__law_is_row cd__law_is_row ct__law_is_row : Value}
    {f__law_are_within : Addr} {od__law_are_within an__law_are_within : Option Addr} {sl__law_are_within : Array (Option Value)} {oc__law_are_within kV__law_are_within dc__law_are_within pm__law_are_within cd__law_are_within ct__law_are_within : Value}
    {f__law_is_row_within : Addr} {od__law_is_row_within an__law_is_row_within : Option Addr} {sl__law_is_row_within : Array (Option Value)} {oc__law_is_row_within kV__law_is_row_within dc__law_is_row_within pm__law_is_row_within cd__law_is_row_within ct__law_is_row_within : Value}
    {f__law_odd : Addr} {od__law_odd an__law_odd : Option Addr} {sl__law_odd : Array (Option Value)} {oc__law_odd kV__law_odd dc__law_odd pm__law_odd cd__law_odd ct__law_odd : Value}
    {f__law_bent : Addr} {od__law_bent an__law_bent : Option Addr} {sl__law_bent : Array (Option Value)} {oc__law_bent kV__law_bent dc__law_bent pm__law_bent cd__law_bent ct__law_bent : Value}
    {f__law_wrong_row : Addr} {od__law_wrong_row an__law_wrong_row : Option Addr} {sl__law_wrong_row : Array (Option Value)} {oc__law_wrong_row kV__law_wrong_row dc__law_wrong_row pm__law_wrong_row cd__law_wrong_row ct__law_wrong_row : Value}
    {f_law : Addr} {od_law an_law : Option Addr} {sl_law : Array (Option Value)} {oc_law kV_law dc_law pm_law cd_law ct_law : Value}
    {sd : Option Addr} {sda : Data} {ssl : Array (Option Value)}
    (ca_Line : PySem.W.nsIn K mainGlobals "Line" = some (some (.ref cc_Line)))
    (a_is_tuple : PySem.W.nsIn K mainGlobals "is_tuple" = some (some (.ref f_is_tuple)))
    (l_is_tuple : K.lookup f_is_tuple = some ⟨oc_is_tuple, od_is_tuple, .func (PySem.W.fnOf "is_tuple" "is_tuple" (defArgs (topS 32)) (defBody (topS 32)) (defScope (topS 32)) .none kV_is_tuple dc_is_tuple pm_is_tuple an_is_tuple cd_is_tuple ct_is_tuple), sl_is_tuple⟩)
    (c_is_tuple : PySem.W.codeIn K cd_is_tuple "is_tuple" = true)
    (k_is_tuple : PySem.W.keepIn K (.ref f_is_tuple) = true)
    (a_is_integer : PySem.W.nsIn K mainGlobals "is_integer" = some (some (.ref f_is_integer)))
    (l_is_integer : K.lookup f_is_integer = some ⟨oc_is_integer, od_is_integer, .func (PySem.W.fnOf "is_integer" "is_integer" (defArgs (topS 30)) (defBody (topS 30)) (defScope (topS 30)) .none kV_is_integer dc_is_integer pm_is_integer an_is_integer cd_is_integer ct_is_integer), sl_is_integer⟩)
    (c_is_integer : PySem.W.codeIn K cd_is_integer "is_integer" = true)
    (k_is_integer : PySem.W.keepIn K (.ref f_is_integer) = true)
    (a_is_from : PySem.W.nsIn K mainGlobals "is_from" = some (some (.ref f_is_from)))
    (l_is_from : K.lookup f_is_from = some ⟨oc_is_from, od_is_from, .func (PySem.W.fnOf "is_from" "is_from" (defArgs (topS 31)) (defBody (topS 31)) (defScope (topS 31)) .none kV_is_from dc_is_from pm_is_from an_is_from cd_is_from ct_is_from), sl_is_from⟩)
    (c_is_from : PySem.W.codeIn K cd_is_from "is_from" = true)
    (k_is_from : PySem.W.keepIn K (.ref f_is_from) = true)
    (a_is_weights_value : PySem.W.nsIn K mainGlobals "is_weights_value" = some (some (.ref f_is_weights_value)))
    (l_is_weights_value : K.lookup f_is_weights_value = some ⟨oc_is_weights_value, od_is_weights_value, .func (PySem.W.fnOf "is_weights_value" "is_weights_value" (defArgs (topS 34)) (defBody (topS 34)) (defScope (topS 34)) .none kV_is_weights_value dc_is_weights_value pm_is_weights_value an_is_weights_value cd_is_weights_value ct_is_weights_value), sl_is_weights_value⟩)
    (c_is_weights_value : PySem.W.codeIn K cd_is_weights_value "is_weights_value" = true)
    (k_is_weights_value : PySem.W.keepIn K (.ref f_is_weights_value) = true)
    (a_is_packet : PySem.W.nsIn K mainGlobals "is_packet" = some (some (.ref f_is_packet)))
    (l_is_packet : K.lookup f_is_packet = some ⟨oc_is_packet, od_is_packet, .func (PySem.W.fnOf "is_packet" "is_packet" (defArgs (topS 36)) (defBody (topS 36)) (defScope (topS 36)) .none kV_is_packet dc_is_packet pm_is_packet an_is_packet cd_is_packet ct_is_packet), sl_is_packet⟩)
    (c_is_packet : PySem.W.codeIn K cd_is_packet "is_packet" = true)
    (k_is_packet : PySem.W.keepIn K (.ref f_is_packet) = true)
    (a_are_arrivals : PySem.W.nsIn K mainGlobals "are_arrivals" = some (some (.ref f_are_arrivals)))
    (l_are_arrivals : K.lookup f_are_arrivals = some ⟨oc_are_arrivals, od_are_arrivals, .func (PySem.W.fnOf "are_arrivals" "are_arrivals" (defArgs (topS 37)) (defBody (topS 37)) (defScope (topS 37)) .none kV_are_arrivals dc_are_arrivals pm_are_arrivals an_are_arrivals cd_are_arrivals ct_are_arrivals), sl_are_arrivals⟩)
    (c_are_arrivals : PySem.W.codeIn K cd_are_arrivals "are_arrivals" = true)
    (k_are_arrivals : PySem.W.keepIn K (.ref f_are_arrivals) = true)
    (a_is_arrivals_value : PySem.W.nsIn K mainGlobals "is_arrivals_value" = some (some (.ref f_is_arrivals_value)))
    (l_is_arrivals_value : K.lookup f_is_arrivals_value = some ⟨oc_is_arrivals_value, od_is_arrivals_value, .func (PySem.W.fnOf "is_arrivals_value" "is_arrivals_value" (defArgs (topS 38)) (defBody (topS 38)) (defScope (topS 38)) .none kV_is_arrivals_value dc_is_arrivals_value pm_is_arrivals_value an_is_arrivals_value cd_is_arrivals_value ct_is_arrivals_value), sl_is_arrivals_value⟩)
    (c_is_arrivals_value : PySem.W.codeIn K cd_is_arrivals_value "is_arrivals_value" = true)
    (k_is_arrivals_value : PySem.W.keepIn K (.ref f_is_arrivals_value) = true)
    (a_is_line : PySem.W.nsIn K mainGlobals "is_line" = some (some (.ref f_is_line)))
    (l_is_line : K.lookup f_is_line = some ⟨oc_is_line, od_is_line, .func (PySem.W.fnOf "is_line" "is_line" (defArgs (topS 42)) (defBody (topS 42)) (defScope (topS 42)) .none kV_is_line dc_is_line pm_is_line an_is_line cd_is_line ct_is_line), sl_is_line⟩)
    (c_is_line : PySem.W.codeIn K cd_is_line "is_line" = true)
    (k_is_line : PySem.W.keepIn K (.ref f_is_line) = true)
    (a_is_row : PySem.W.nsIn K mainGlobals "is_row" = some (some (.ref f_is_row)))
    (l_is_row : K.lookup f_is_row = some ⟨oc_is_row, od_is_row, .func (PySem.W.fnOf "is_row" "is_row" (defArgs (topS 43)) (defBody (topS 43)) (defScope (topS 43)) .none kV_is_row dc_is_row pm_is_row an_is_row cd_is_row ct_is_row), sl_is_row⟩)
    (c_is_row : PySem.W.codeIn K cd_is_row "is_row" = true)
    (k_is_row : PySem.W.keepIn K (.ref f_is_row) = true)
    (a_need_weights : PySem.W.nsIn K mainGlobals "need_weights" = some (some (.ref f_need_weights)))
    (l_need_weights : K.lookup f_need_weights = some ⟨oc_need_weights, od_need_weights, .func (PySem.W.fnOf "need_weights" "need_weights" (defArgs (topS 35)) (defBody (topS 35)) (defScope (topS 35)) .none kV_need_weights dc_need_weights pm_need_weights an_need_weights cd_need_weights ct_need_weights), sl_need_weights⟩)
    (c_need_weights : PySem.W.codeIn K cd_need_weights "need_weights" = true)
    (k_need_weights : PySem.W.keepIn K (.ref f_need_weights) = true)
    (a_Line___init__ : PySem.W.findIn K (.ref cc_Line) "__init__" = some (some (.ref f_Line___init__)))
    (fn_Line___init__ : PySem.W.isFn K (.ref f_Line___init__) = true)
    (l_Line___init__ : K.lookup f_Line___init__ = some ⟨oc_Line___init__, od_Line___init__, .func (PySem.W.fnOf "__init__" "Line.__init__" (defArgs (inClass (topS 46) 0)) (defBody (inClass (topS 46) 0)) (defScope (inClass (topS 46) 0)) .none kV_Line___init__ dc_Line___init__ pm_Line___init__ an_Line___init__ cd_Line___init__ ct_Line___init__), sl_Line___init__⟩)
    (c_Line___init__ : PySem.W.codeIn K cd_Line___init__ "Line.__init__" = true)
    (k_Line___init__ : PySem.W.keepIn K (.ref f_Line___init__) = true)
    (a__law_deck : PySem.W.nsIn K mainGlobals "_law_deck" = some (some (.ref f__law_deck)))
    (l__law_deck : K.lookup f__law_deck = some ⟨oc__law_deck, od__law_deck, .func (PySem.W.fnOf "_law_deck" "_law_deck" (defArgs (topS 48)) (defBody (topS 48)) (defScope (topS 48)) .none kV__law_deck dc__law_deck pm__law_deck an__law_deck cd__law_deck ct__law_deck), sl__law_deck⟩)
    (c__law_deck : PySem.W.codeIn K cd__law_deck "_law_deck" = true)
    (k__law_deck : PySem.W.keepIn K (.ref f__law_deck) = true)
    (a__law_draw : PySem.W.nsIn K mainGlobals "_law_draw" = some (some (.ref f__law_draw)))
    (l__law_draw : K.lookup f__law_draw = some ⟨oc__law_draw, od__law_draw, .func (PySem.W.fnOf "_law_draw" "_law_draw" (defArgs (topS 49)) (defBody (topS 49)) (defScope (topS 49)) .none kV__law_draw dc__law_draw pm__law_draw an__law_draw cd__law_draw ct__law_draw), sl__law_draw⟩)
    (c__law_draw : PySem.W.codeIn K cd__law_draw "_law_draw" = true)
    (k__law_draw : PySem.W.keepIn K (.ref f__law_draw) = true)
    (a__law_pick : PySem.W.nsIn K mainGlobals "_law_pick" = some (some (.ref f__law_pick)))
    (l__law_pick : K.lookup f__law_pick = some ⟨oc__law_pick, od__law_pick, .func (PySem.W.fnOf "_law_pick" "_law_pick" (defArgs (topS 50)) (defBody (topS 50)) (defScope (topS 50)) .none kV__law_pick dc__law_pick pm__law_pick an__law_pick cd__law_pick ct__law_pick), sl__law_pick⟩)
    (c__law_pick : PySem.W.codeIn K cd__law_pick "_law_pick" = true)
    (k__law_pick : PySem.W.keepIn K (.ref f__law_pick) = true)
    (a__law_weights : PySem.W.nsIn K mainGlobals "_law_weights" = some (some (.ref f__law_weights)))
    (l__law_weights : K.lookup f__law_weights = some ⟨oc__law_weights, od__law_weights, .func (PySem.W.fnOf "_law_weights" "_law_weights" (defArgs (topS 52)) (defBody (topS 52)) (defScope (topS 52)) .none kV__law_weights dc__law_weights pm__law_weights an__law_weights cd__law_weights ct__law_weights), sl__law_weights⟩)
    (c__law_weights : PySem.W.codeIn K cd__law_weights "_law_weights" = true)
    (k__law_weights : PySem.W.keepIn K (.ref f__law_weights) = true)
    (a__law_arrivals : PySem.W.nsIn K mainGlobals "_law_arrivals" = some (some (.ref f__law_arrivals)))
    (l__law_arrivals : K.lookup f__law_arrivals = some ⟨oc__law_arrivals, od__law_arrivals, .func (PySem.W.fnOf "_law_arrivals" "_law_arrivals" (defArgs (topS 53)) (defBody (topS 53)) (defScope (topS 53)) .none kV__law_arrivals dc__law_arrivals pm__law_arrivals an__law_arrivals cd__law_arrivals ct__law_arrivals), sl__law_arrivals⟩)
    (c__law_arrivals : PySem.W.codeIn K cd__law_arrivals "_law_arrivals" = true)
    (k__law_arrivals : PySem.W.keepIn K (.ref f__law_arrivals) = true)
    (a__law_row : PySem.W.nsIn K mainGlobals "_law_row" = some (some (.ref f__law_row)))
    (l__law_row : K.lookup f__law_row = some ⟨oc__law_row, od__law_row, .func (PySem.W.fnOf "_law_row" "_law_row" (defArgs (topS 59)) (defBody (topS 59)) (defScope (topS 59)) .none kV__law_row dc__law_row pm__law_row an__law_row cd__law_row ct__law_row), sl__law_row⟩)
    (c__law_row : PySem.W.codeIn K cd__law_row "_law_row" = true)
    (k__law_row : PySem.W.keepIn K (.ref f__law_row) = true)
    (a__law_is_integer : PySem.W.nsIn K mainGlobals "_law_is_integer" = some (some (.ref f__law_is_integer)))
    (l__law_is_integer : K.lookup f__law_is_integer = some ⟨oc__law_is_integer, od__law_is_integer, .func (PySem.W.fnOf "_law_is_integer" "_law_is_integer" (defArgs (topS 51)) (defBody (topS 51)) (defScope (topS 51)) .none kV__law_is_integer dc__law_is_integer pm__law_is_integer an__law_is_integer cd__law_is_integer ct__law_is_integer), sl__law_is_integer⟩)
    (c__law_is_integer : PySem.W.codeIn K cd__law_is_integer "_law_is_integer" = true)
    (k__law_is_integer : PySem.W.keepIn K (.ref f__law_is_integer) = true)
    (a__law_are_weights : PySem.W.nsIn K mainGlobals "_law_are_weights" = some (some (.ref f__law_are_weights)))
    (l__law_are_weights : K.lookup f__law_are_weights = some ⟨oc__law_are_weights, od__law_are_weights, .func (PySem.W.fnOf "_law_are_weights" "_law_are_weights" (defArgs (topS 54)) (defBody (topS 54)) (defScope (topS 54)) .none kV__law_are_weights dc__law_are_weights pm__law_are_weights an__law_are_weights cd__law_are_weights ct__law_are_weights), sl__law_are_weights⟩)
    (c__law_are_weights : PySem.W.codeIn K cd__law_are_weights "_law_are_weights" = true)
    (k__law_are_weights : PySem.W.keepIn K (.ref f__law_are_weights) = true)
    (a__law_are_arrivals : PySem.W.nsIn K mainGlobals "_law_are_arrivals" = some (some (.ref f__law_are_arrivals)))
    (l__law_are_arrivals : K.lookup f__law_are_arrivals = some ⟨oc__law_are_arrivals, od__law_are_arrivals, .func (PySem.W.fnOf "_law_are_arrivals" "_law_are_arrivals" (defArgs (topS 55)) (defBody (topS 55)) (defScope (topS 55)) .none kV__law_are_arrivals dc__law_are_arrivals pm__law_are_arrivals an__law_are_arrivals cd__law_are_arrivals ct__law_are_arrivals), sl__law_are_arrivals⟩)
    (c__law_are_arrivals : PySem.W.codeIn K cd__law_are_arrivals "_law_are_arrivals" = true)
    (k__law_are_arrivals : PySem.W.keepIn K (.ref f__law_are_arrivals) = true)
    (a__law_is_row : PySem.W.nsIn K mainGlobals "_law_is_row" = some (some (.ref f__law_is_row)))
    (l__law_is_row : K.lookup f__law_is_row = some ⟨oc__law_is_row, od__law_is_row, .func (PySem.W.fnOf "_law_is_row" "_law_is_row" (defArgs (topS 60)) (defBody (topS 60)) (defScope (topS 60)) .none kV__law_is_row dc__law_is_row pm__law_is_row an__law_is_row cd__law_is_row ct__law_is_row), sl__law_is_row⟩)
    (c__law_is_row : PySem.W.codeIn K cd__law_is_row "_law_is_row" = true)
    (k__law_is_row : PySem.W.keepIn K (.ref f__law_is_row) = true)
    (a__law_are_within : PySem.W.nsIn K mainGlobals "_law_are_within" = some (some (.ref f__law_are_within)))
    (l__law_are_within : K.lookup f__law_are_within = some ⟨oc__law_are_within, od__law_are_within, .func (PySem.W.fnOf "_law_are_within" "_law_are_within" (defArgs (topS 56)) (defBody (topS 56)) (defScope (topS 56)) .none kV__law_are_within dc__law_are_within pm__law_are_within an__law_are_within cd__law_are_within ct__law_are_within), sl__law_are_within⟩)
    (c__law_are_within : PySem.W.codeIn K cd__law_are_within "_law_are_within" = true)
    (k__law_are_within : PySem.W.keepIn K (.ref f__law_are_within) = true)
    (a__law_is_row_within : PySem.W.nsIn K mainGlobals "_law_is_row_within" = some (some (.ref f__law_is_row_within)))
    (l__law_is_row_within : K.lookup f__law_is_row_within = some ⟨oc__law_is_row_within, od__law_is_row_within, .func (PySem.W.fnOf "_law_is_row_within" "_law_is_row_within" (defArgs (topS 61)) (defBody (topS 61)) (defScope (topS 61)) .none kV__law_is_row_within dc__law_is_row_within pm__law_is_row_within an__law_is_row_within cd__law_is_row_within ct__law_is_row_within), sl__law_is_row_within⟩)
    (c__law_is_row_within : PySem.W.codeIn K cd__law_is_row_within "_law_is_row_within" = true)
    (k__law_is_row_within : PySem.W.keepIn K (.ref f__law_is_row_within) = true)
    (a__law_odd : PySem.W.nsIn K mainGlobals "_law_odd" = some (some (.ref f__law_odd)))
    (l__law_odd : K.lookup f__law_odd = some ⟨oc__law_odd, od__law_odd, .func (PySem.W.fnOf "_law_odd" "_law_odd" (defArgs (topS 57)) (defBody (topS 57)) (defScope (topS 57)) .none kV__law_odd dc__law_odd pm__law_odd an__law_odd cd__law_odd ct__law_odd), sl__law_odd⟩)
    (c__law_odd : PySem.W.codeIn K cd__law_odd "_law_odd" = true)
    (k__law_odd : PySem.W.keepIn K (.ref f__law_odd) = true)
    (a__law_bent : PySem.W.nsIn K mainGlobals "_law_bent" = some (some (.ref f__law_bent)))
    (l__law_bent : K.lookup f__law_bent = some ⟨oc__law_bent, od__law_bent, .func (PySem.W.fnOf "_law_bent" "_law_bent" (defArgs (topS 58)) (defBody (topS 58)) (defScope (topS 58)) .none kV__law_bent dc__law_bent pm__law_bent an__law_bent cd__law_bent ct__law_bent), sl__law_bent⟩)
    (c__law_bent : PySem.W.codeIn K cd__law_bent "_law_bent" = true)
    (k__law_bent : PySem.W.keepIn K (.ref f__law_bent) = true)
    (a__law_wrong_row : PySem.W.nsIn K mainGlobals "_law_wrong_row" = some (some (.ref f__law_wrong_row)))
    (l__law_wrong_row : K.lookup f__law_wrong_row = some ⟨oc__law_wrong_row, od__law_wrong_row, .func (PySem.W.fnOf "_law_wrong_row" "_law_wrong_row" (defArgs (topS 62)) (defBody (topS 62)) (defScope (topS 62)) .none kV__law_wrong_row dc__law_wrong_row pm__law_wrong_row an__law_wrong_row cd__law_wrong_row ct__law_wrong_row), sl__law_wrong_row⟩)
    (c__law_wrong_row : PySem.W.codeIn K cd__law_wrong_row "_law_wrong_row" = true)
    (k__law_wrong_row : PySem.W.keepIn K (.ref f__law_wrong_row) = true)
    (a_law : PySem.W.nsIn K mainGlobals "law" = some (some (.ref f_law)))
    (l_law : K.lookup f_law = some ⟨oc_law, od_law, .func (PySem.W.fnOf "law" "law" (defArgs (topS 63)) (defBody (topS 63)) (defScope (topS 63)) .none kV_law dc_law pm_law an_law cd_law ct_law), sl_law⟩)
    (c_law : PySem.W.codeIn K cd_law "law" = true)
    (k_law : PySem.W.keepIn K (.ref f_law) = true)
    (z_all : PySem.W.nsIn K mainGlobals "all" = some none)
    (z_bool : PySem.W.nsIn K mainGlobals "bool" = some none)
    (z_int : PySem.W.nsIn K mainGlobals "int" = some none)
    (z_isinstance : PySem.W.nsIn K mainGlobals "isinstance" = some none)
    (z_len : PySem.W.nsIn K mainGlobals "len" = some none)
    (z_list : PySem.W.nsIn K mainGlobals "list" = some none)
    (z_max : PySem.W.nsIn K mainGlobals "max" = some none)
    (z_min : PySem.W.nsIn K mainGlobals "min" = some none)
    (z_range : PySem.W.nsIn K mainGlobals "range" = some none)
    (z_repr : PySem.W.nsIn K mainGlobals "repr" = some none)
    (z_str : PySem.W.nsIn K mainGlobals "str" = some none)
    (z_tuple : PySem.W.nsIn K mainGlobals "tuple" = some none)
    (z_zip : PySem.W.nsIn K mainGlobals "zip" = some none)
    (mk_Line : PySem.W.makesIn K cc_Line = true)
    (kp_Line : PySem.W.keepIn K (.ref cc_Line) = true)
    (pg_Line : PySem.W.plainGet K cc_Line Str.empty = true)
    (hd_Line : PySem.W.hasDictIn K cc_Line = true)
    (po_Line : PySem.W.plainOver K cc_Line = true)
    (sa_Line : PySem.W.findIn K (.ref cc_Line) "__setattr__" = some (some (.builtin "object.__setattr__")))
    (na_Line_arrivals : PySem.W.findIn K (.ref cc_Line) "arrivals" = some none)
    (na_Line_starts : PySem.W.findIn K (.ref cc_Line) "starts" = some none)
    (na_Line_time : PySem.W.findIn K (.ref cc_Line) "time" = some none)
    (na_Line_weights : PySem.W.findIn K (.ref cc_Line) "weights" = some none)
    (o_cl : PySem.W.findIn K (.ref cc_Line) "__class__" = some (some (.builtin "object.__class__")))
    (o_sp : PySem.W.specialIn K (.builtin "object.__class__") "__get__" = some (some (.builtin "getset_descriptor.__get__")))
    (o_tk : PySem.W.takesIn K (.builtin "object.__class__") = some true)
    (o_mr : PySem.W.mroIn K cc_Line (.type "object") = some true)
    (o_me : PySem.W.kitOne K (.ref cc_Line) (.ref cc_Line) = some true)
    (o_bool : PySem.W.kitOne K (.ref cc_Line) (.type "bool") = some false)
    (o_int : PySem.W.kitOne K (.ref cc_Line) (.type "int") = some false)
    (o_str : PySem.W.kitOne K (.ref cc_Line) (.type "str") = some false)
    (o_tuple : PySem.W.kitOne K (.ref cc_Line) (.type "tuple") = some false)
    (o_list : PySem.W.kitOne K (.ref cc_Line) (.type "list") = some false)
    (o_dict : PySem.W.kitOne K (.ref cc_Line) (.type "dict") = some false)
    (s_ok : K.lookup sysModules = some ⟨.type "dict", sd, sda, ssl⟩)
    : ∃ (fd : FuncData) (m : Fs), (∀ (s : Shared) (u : Value), BindsTo s fd ⟨[u], []⟩ [("script", u)]) ∧ (∀ ns : List Int, ns.length ≤ 63 → ∃ L, m [.d (.scr ns)] [] = .ok (.d (.bl true)) L) ∧
      ∀ base : Heap, K.In base → base.Ns mainGlobals mg → FnG P w K mg base 11 fa fd ["script"] (SpOf K 1 m) := by
  cases hfa.symm.trans (PySem.W.mg_of KX GN a_law)
  let t : TX K mg ⟨cc_Line, 0, 0⟩ := {
    f_is_tuple := f_is_tuple, d_is_tuple := _, F_is_tuple := fun_mk l_is_tuple c_is_tuple k_is_tuple
    g_is_tuple := PySem.W.mg_of KX GN a_is_tuple
    f_is_integer := f_is_integer, d_is_integer := _, F_is_integer := fun_mk l_is_integer c_is_integer k_is_integer
    g_is_integer := PySem.W.mg_of KX GN a_is_integer
    f_is_from := f_is_from, d_is_from := _, F_is_from := fun_mk l_is_from c_is_from k_is_from
    g_is_from := PySem.W.mg_of KX GN a_is_from
    f_is_weights_value := f_is_weights_value, d_is_weights_value := _, F_is_weights_value := fun_mk l_is_weights_value c_is_weights_value k_is_weights_value
    g_is_weights_value := PySem.W.mg_of KX GN a_is_weights_value
    f_is_packet := f_is_packet, d_is_packet := _, F_is_packet := fun_mk l_is_packet c_is_packet k_is_packet
    g_is_packet := PySem.W.mg_of KX GN a_is_packet
    f_are_arrivals := f_are_arrivals, d_are_arrivals := _, F_are_arrivals := fun_mk l_are_arrivals c_are_arrivals k_are_arrivals
    g_are_arrivals := PySem.W.mg_of KX GN a_are_arrivals
    f_is_arrivals_value := f_is_arrivals_value, d_is_arrivals_value := _, F_is_arrivals_value := fun_mk l_is_arrivals_value c_is_arrivals_value k_is_arrivals_value
    g_is_arrivals_value := PySem.W.mg_of KX GN a_is_arrivals_value
    f_is_line := f_is_line, d_is_line := _, F_is_line := fun_mk l_is_line c_is_line k_is_line
    g_is_line := PySem.W.mg_of KX GN a_is_line
    f_is_row := f_is_row, d_is_row := _, F_is_row := fun_mk l_is_row c_is_row k_is_row
    g_is_row := PySem.W.mg_of KX GN a_is_row
    f_need_weights := f_need_weights, d_need_weights := _, F_need_weights := fun_mk l_need_weights c_need_weights k_need_weights
    g_need_weights := PySem.W.mg_of KX GN a_need_weights
    f_Line___init__ := f_Line___init__, d_Line___init__ := _, F_Line___init__ := fun_mk l_Line___init__ c_Line___init__ k_Line___init__
    f__law_deck := f__law_deck, d__law_deck := _, F__law_deck := fun_mk l__law_deck c__law_deck k__law_deck
    g__law_deck := PySem.W.mg_of KX GN a__law_deck
    f__law_draw := f__law_draw, d__law_draw := _, F__law_draw := fun_mk l__law_draw c__law_draw k__law_draw
    g__law_draw := PySem.W.mg_of KX GN a__law_draw
    f__law_pick := f__law_pick, d__law_pick := _, F__law_pick := fun_mk l__law_pick c__law_pick k__law_pick
    g__law_pick := PySem.W.mg_of KX GN a__law_pick
    f__law_weights := f__law_weights, d__law_weights := _, F__law_weights := fun_mk l__law_weights c__law_weights k__law_weights
    g__law_weights := PySem.W.mg_of KX GN a__law_weights
    f__law_arrivals := f__law_arrivals, d__law_arrivals := _, F__law_arrivals := fun_mk l__law_arrivals c__law_arrivals k__law_arrivals
    g__law_arrivals := PySem.W.mg_of KX GN a__law_arrivals
    f__law_row := f__law_row, d__law_row := _, F__law_row := fun_mk l__law_row c__law_row k__law_row
    g__law_row := PySem.W.mg_of KX GN a__law_row
    f__law_is_integer := f__law_is_integer, d__law_is_integer := _, F__law_is_integer := fun_mk l__law_is_integer c__law_is_integer k__law_is_integer
    g__law_is_integer := PySem.W.mg_of KX GN a__law_is_integer
    f__law_are_weights := f__law_are_weights, d__law_are_weights := _, F__law_are_weights := fun_mk l__law_are_weights c__law_are_weights k__law_are_weights
    g__law_are_weights := PySem.W.mg_of KX GN a__law_are_weights
    f__law_are_arrivals := f__law_are_arrivals, d__law_are_arrivals := _, F__law_are_arrivals := fun_mk l__law_are_arrivals c__law_are_arrivals k__law_are_arrivals
    g__law_are_arrivals := PySem.W.mg_of KX GN a__law_are_arrivals
    f__law_is_row := f__law_is_row, d__law_is_row := _, F__law_is_row := fun_mk l__law_is_row c__law_is_row k__law_is_row
    g__law_is_row := PySem.W.mg_of KX GN a__law_is_row
    f__law_are_within := f__law_are_within, d__law_are_within := _, F__law_are_within := fun_mk l__law_are_within c__law_are_within k__law_are_within
    g__law_are_within := PySem.W.mg_of KX GN a__law_are_within
    f__law_is_row_within := f__law_is_row_within, d__law_is_row_within := _, F__law_is_row_within := fun_mk l__law_is_row_within c__law_is_row_within k__law_is_row_within
    g__law_is_row_within := PySem.W.mg_of KX GN a__law_is_row_within
    f__law_odd := f__law_odd, d__law_odd := _, F__law_odd := fun_mk l__law_odd c__law_odd k__law_odd
    g__law_odd := PySem.W.mg_of KX GN a__law_odd
    f__law_bent := f__law_bent, d__law_bent := _, F__law_bent := fun_mk l__law_bent c__law_bent k__law_bent
    g__law_bent := PySem.W.mg_of KX GN a__law_bent
    f__law_wrong_row := f__law_wrong_row, d__law_wrong_row := _, F__law_wrong_row := fun_mk l__law_wrong_row c__law_wrong_row k__law_wrong_row
    g__law_wrong_row := PySem.W.mg_of KX GN a__law_wrong_row
    f_law := fa, d_law := _, F_law := fun_mk l_law c_law k_law
    g_law := PySem.W.mg_of KX GN a_law
    z_all := PySem.W.mg_none_of KX GN z_all
    z_bool := PySem.W.mg_none_of KX GN z_bool
    z_int := PySem.W.mg_none_of KX GN z_int
    z_isinstance := PySem.W.mg_none_of KX GN z_isinstance
    z_len := PySem.W.mg_none_of KX GN z_len
    z_list := PySem.W.mg_none_of KX GN z_list
    z_max := PySem.W.mg_none_of KX GN z_max
    z_min := PySem.W.mg_none_of KX GN z_min
    z_range := PySem.W.mg_none_of KX GN z_range
    z_repr := PySem.W.mg_none_of KX GN z_repr
    z_str := PySem.W.mg_none_of KX GN z_str
    z_tuple := PySem.W.mg_none_of KX GN z_tuple
    z_zip := PySem.W.mg_none_of KX GN z_zip
    kb_is_row_thing := kb_of (fun_mk l_is_row c_is_row k_is_row) fun _ _ _ _ _ _ ws hl => match ws, hl with | [_], _ => rfl
    mk_Line := ⟨mk_Line, a_Line___init__, fn_Line___init__, kp_Line⟩
    gc_Line := PySem.W.mg_of KX GN ca_Line
    cl_Line := ⟨pg_Line, hd_Line, po_Line, sa_Line⟩
    n_Line_arrivals := na_Line_arrivals
    n_Line_starts := na_Line_starts
    n_Line_time := na_Line_time
    n_Line_weights := na_Line_weights
    sys := ⟨_, s_ok, rfl⟩
    own := fun C e => by cases e; exact ⟨⟨⟨pg_Line, hd_Line, po_Line, sa_Line⟩, o_cl, o_sp, o_tk, o_mr, o_me⟩, fun T hT => by
      simp only [List.mem_cons, List.not_mem_nil, or_false] at hT
      rcases hT with rfl | rfl | rfl | rfl | rfl | rfl
      · exact o_bool
      · exact o_int
      · exact o_str
      · exact o_tuple
      · exact o_list
      · exact o_dict⟩ }
  refine ⟨_, s_law ⟨cc_Line, 0, 0⟩, ?_, fun ns hl => law_true _ ns hl, fun base _ _ => (fx_law (P := P) (w := w) (base := base) t).ok⟩
  exact fun s u => .of_eq rfl
end MP.Fk40
open PySem PySem.W PyProof.Rows
set_option maxHeartbeats 0 in
theorem PySem.Challenge.cw_fairqueue_k40_rows_among_any_values_holds : PySem.Challenge.rw_fairqueue_k40_rows_among_any_values.Holds := by
  w_on; o_law; x_head; (case hw => w_witness2)
  k_fill
  refine MP.walk_g (l := PySem.Challenge.rw_fairqueue_k40_rows_among_any_values) (n := 63) (k := 11) (x := "script") rfl (by decide) rfl ⟨rfl, by decide, by decide⟩ (fun w h Y => by first | exact PySem.W.kIn_of Y | exact PySem.W.km_in_of Y) ?F
  case F =>
    intro w mg fa h KX G hmg
    refine' MP.Fk40.fin KX G hmg ?ca_Line ?a_is_tuple ?l_is_tuple ?c_is_tuple ?k_is_tuple ?a_is_integer ?l_is_integer ?c_is_integer ?k_is_integer ?a_is_from ?l_is_from ?c_is_from ?k_is_from ?a_is_weights_value ?l_is_weights_value ?c_is_weights_value ?k_is_weights_value ?a_is_packet ?l_is_packet ?c_is_packet ?k_is_packet ?a_are_arrivals ?l_are_arrivals ?c_are_arrivals ?k_are_arrivals ?a_is_arrivals_value ?l_is_arrivals_value ?c_is_arrivals_value ?k_is_arrivals_value ?a_is_line ?l_is_line ?c_is_line ?k_is_line ?a_is_row ?l_is_row ?c_is_row ?k_is_row ?a_need_weights ?l_need_weights ?c_need_weights ?k_need_weights ?a_Line___init__ ?fn_Line___init__ ?l_Line___init__ ?c_Line___init__ ?k_Line___init__ ?a__law_deck ?l__law_deck ?c__law_deck ?k__law_deck ?a__law_draw ?l__law_draw ?c__law_draw ?k__law_draw ?a__law_pick ?l__law_pick ?c__law_pick ?k__law_pick ?a__law_weights ?l__law_weights ?c__law_weights ?k__law_weights ?a__law_arrivals ?l__law_arrivals ?c__law_arrivals ?k__law_arrivals ?a__law_row ?l__law_row ?c__law_row ?k__law_row ?a__law_is_integer ?l__law_is_integer ?c__law_is_integer ?k__law_is_integer ?a__law_are_weights ?l__law_are_weights ?c__law_are_weights ?k__law_are_weights ?a__law_are_arrivals ?l__law_are_arrivals ?c__law_are_arrivals ?k__law_are_arrivals ?a__law_is_row ?l__law_is_row ?c__law_is_row ?k__law_is_row ?a__law_are_within ?l__law_are_within ?c__law_are_within ?k__law_are_within ?a__law_is_row_within ?l__law_is_row_within ?c__law_is_row_within ?k__law_is_row_within ?a__law_odd ?l__law_odd ?c__law_odd ?k__law_odd ?a__law_bent ?l__law_bent ?c__law_bent ?k__law_bent ?a__law_wrong_row ?l__law_wrong_row ?c__law_wrong_row ?k__law_wrong_row ?a_law ?l_law ?c_law ?k_law ?z_all ?z_bool ?z_int ?z_isinstance ?z_len ?z_list ?z_max ?z_min ?z_range ?z_repr ?z_str ?z_tuple ?z_zip ?mk_Line ?kp_Line ?pg_Line ?hd_Line ?po_Line ?sa_Line ?na_Line_arrivals ?na_Line_starts ?na_Line_time ?na_Line_weights ?o_cl ?o_sp ?o_tk ?o_mr ?o_me ?o_bool ?o_int ?o_str ?o_tuple ?o_list ?o_dict ?s_ok
    (case ca_Line => first | k_is | kit_is); (case a_is_tuple => first | k_is | kit_is); (case l_is_tuple => first | k_is | kit_is); (case c_is_tuple => first | k_is | kit_is); (case k_is_tuple => first | k_is | kit_is); (case a_is_integer => first | k_is | kit_is); (case l_is_integer => first | k_is | kit_is); (case c_is_integer => first | k_is | kit_is)
    (case k_is_integer => first | k_is | kit_is); (case a_is_from => first | k_is | kit_is); (case l_is_from => first | k_is | kit_is); (case c_is_from => first | k_is | kit_is); (case k_is_from => first | k_is | kit_is); (case a_is_weights_value => first | k_is | kit_is); (case l_is_weights_value => first | k_is | kit_is); (case c_is_weights_value => first | k_is | kit_is)
    (case k_is_weights_value => first | k_is | kit_is); (case a_is_packet => first | k_is | kit_is); (case l_is_packet => first | k_is | kit_is); (case c_is_packet => first | k_is | kit_is); (case k_is_packet => first | k_is | kit_is); (case a_are_arrivals => first | k_is | kit_is); (case l_are_arrivals => first | k_is | kit_is); (case c_are_arrivals => first | k_is | kit_is)
    (case k_are_arrivals => first | k_is | kit_is); (case a_is_arrivals_value => first | k_is | kit_is); (case l_is_arrivals_value => first | k_is | kit_is); (case c_is_arrivals_value => first | k_is | kit_is); (case k_is_arrivals_value => first | k_is | kit_is); (case a_is_line => first | k_is | kit_is); (case l_is_line => first | k_is | kit_is); (case c_is_line => first | k_is | kit_is)
    (case k_is_line => first | k_is | kit_is); (case a_is_row => first | k_is | kit_is); (case l_is_row => first | k_is | kit_is); (case c_is_row => first | k_is | kit_is); (case k_is_row => first | k_is | kit_is); (case a_need_weights => first | k_is | kit_is); (case l_need_weights => first | k_is | kit_is); (case c_need_weights => first | k_is | kit_is)
    (case k_need_weights => first | k_is | kit_is); (case a_Line___init__ => first | k_is | kit_is); (case fn_Line___init__ => first | k_is | kit_is); (case l_Line___init__ => first | k_is | kit_is); (case c_Line___init__ => first | k_is | kit_is); (case k_Line___init__ => first | k_is | kit_is); (case a__law_deck => first | k_is | kit_is); (case l__law_deck => first | k_is | kit_is)
    (case c__law_deck => first | k_is | kit_is); (case k__law_deck => first | k_is | kit_is); (case a__law_draw => first | k_is | kit_is); (case l__law_draw => first | k_is | kit_is); (case c__law_draw => first | k_is | kit_is); (case k__law_draw => first | k_is | kit_is); (case a__law_pick => first | k_is | kit_is); (case l__law_pick => first | k_is | kit_is)
    (case c__law_pick => first | k_is | kit_is); (case k__law_pick => first | k_is | kit_is); (case a__law_weights => first | k_is | kit_is); (case l__law_weights => first | k_is | kit_is); (case c__law_weights => first | k_is | kit_is); (case k__law_weights => first | k_is | kit_is); (case a__law_arrivals => first | k_is | kit_is); (case l__law_arrivals => first | k_is | kit_is)
    (case c__law_arrivals => first | k_is | kit_is); (case k__law_arrivals => first | k_is | kit_is); (case a__law_row => first | k_is | kit_is); (case l__law_row => first | k_is | kit_is); (case c__law_row => first | k_is | kit_is); (case k__law_row => first | k_is | kit_is); (case a__law_is_integer => first | k_is | kit_is); (case l__law_is_integer => first | k_is | kit_is)
    (case c__law_is_integer => first | k_is | kit_is); (case k__law_is_integer => first | k_is | kit_is); (case a__law_are_weights => first | k_is | kit_is); (case l__law_are_weights => first | k_is | kit_is); (case c__law_are_weights => first | k_is | kit_is); (case k__law_are_weights => first | k_is | kit_is); (case a__law_are_arrivals => first | k_is | kit_is); (case l__law_are_arrivals => first | k_is | kit_is)
    (case c__law_are_arrivals => first | k_is | kit_is); (case k__law_are_arrivals => first | k_is | kit_is); (case a__law_is_row => first | k_is | kit_is); (case l__law_is_row => first | k_is | kit_is); (case c__law_is_row => first | k_is | kit_is); (case k__law_is_row => first | k_is | kit_is); (case a__law_are_within => first | k_is | kit_is); (case l__law_are_within => first | k_is | kit_is)
    (case c__law_are_within => first | k_is | kit_is); (case k__law_are_within => first | k_is | kit_is); (case a__law_is_row_within => first | k_is | kit_is); (case l__law_is_row_within => first | k_is | kit_is); (case c__law_is_row_within => first | k_is | kit_is); (case k__law_is_row_within => first | k_is | kit_is); (case a__law_odd => first | k_is | kit_is); (case l__law_odd => first | k_is | kit_is)
    (case c__law_odd => first | k_is | kit_is); (case k__law_odd => first | k_is | kit_is); (case a__law_bent => first | k_is | kit_is); (case l__law_bent => first | k_is | kit_is); (case c__law_bent => first | k_is | kit_is); (case k__law_bent => first | k_is | kit_is); (case a__law_wrong_row => first | k_is | kit_is); (case l__law_wrong_row => first | k_is | kit_is)
    (case c__law_wrong_row => first | k_is | kit_is); (case k__law_wrong_row => first | k_is | kit_is); (case a_law => first | k_is | kit_is); (case l_law => first | k_is | kit_is); (case c_law => first | k_is | kit_is); (case k_law => first | k_is | kit_is); (case z_all => first | k_is | kit_is); (case z_bool => first | k_is | kit_is)
    (case z_int => first | k_is | kit_is); (case z_isinstance => first | k_is | kit_is); (case z_len => first | k_is | kit_is); (case z_list => first | k_is | kit_is); (case z_max => first | k_is | kit_is); (case z_min => first | k_is | kit_is); (case z_range => first | k_is | kit_is); (case z_repr => first | k_is | kit_is)
    (case z_str => first | k_is | kit_is); (case z_tuple => first | k_is | kit_is); (case z_zip => first | k_is | kit_is); (case mk_Line => first | k_is | kit_is); (case kp_Line => first | k_is | kit_is); (case pg_Line => first | k_is | kit_is); (case hd_Line => first | k_is | kit_is); (case po_Line => first | k_is | kit_is)
    (case sa_Line => first | k_is | kit_is); (case na_Line_arrivals => first | k_is | kit_is); (case na_Line_starts => first | k_is | kit_is); (case na_Line_time => first | k_is | kit_is); (case na_Line_weights => first | k_is | kit_is); (case o_cl => first | k_is | kit_is); (case o_sp => first | k_is | kit_is); (case o_tk => first | k_is | kit_is)
    (case o_mr => first | k_is | kit_is); (case o_me => first | k_is | kit_is); (case o_bool => first | k_is | kit_is); (case o_int => first | k_is | kit_is); (case o_str => first | k_is | kit_is); (case o_tuple => first | k_is | kit_is); (case o_list => first | k_is | kit_is); (case o_dict => first | k_is | kit_is)
    (case s_ok => first | k_is | kit_is)
