import PyProof.Rows.All
import Wide.All
import OpenK.AllK
import Wide.FinOn
import HandS.ForMost
import HandS.Exc
import HandS.WordsExc
import HandS.CallSlots
import HandS.TupAny
import HandS.HeadHook1
import HandS.ExcInit
import HandS.Deep
import HandS.Defaults
import HandS.Style
import HandS.DictTup
import HandS.WordsDict
import HandS.ExcSuper
import KE.KSuper
import HandS.ExcField
import HandS.ExcIs
import HandS.ExcValue
import HandS.IsInst
import KE.KExcIs
import PyProof.ReprRoads
import HandS.Ends
import HandS.ExcCtx
import HandS.HotCalls
import HandS.HeadEnd
import HandS.HeadHook2
import PyProof.ReprLen
import HandS.Head0
import HandS.Head1
import HandS.Head2
import PySem.Challenge.RW_amidread_k80_errors
set_option Elab.async false
set_option linter.all false
set_option maxRecDepth 100000
set_option maxHeartbeats 2000000
namespace Am
open PySem L2

/-! ### plain data, and the plain heap -/
inductive D where
  | non | bl (b : Bool) | int (i : Int) | str (s : List Nat) | tup (xs : List D) | ref (n : Nat)
  deriving Inhabited

mutual
def D.beq : D → D → Bool
  | .non, .non => true
  | .bl a, .bl b => a == b
  | .int a, .int b => decide (a = b)
  | .str a, .str b => decide (a = b)
  | .tup a, .tup b => D.beqs a b
  | .ref a, .ref b => decide (a = b)
  | _, _ => false
def D.beqs : List D → List D → Bool
  | [], [] => true
  | a :: as, b :: bs => D.beq a b && D.beqs as bs
  | _, _ => false
end
mutual
theorem D.eq_of_beq : ∀ {a b : D}, D.beq a b = true → a = b
  | .non, b, h => by cases b <;> simp_all [D.beq]
  | .bl x, b, h => by cases b <;> simp_all [D.beq]
  | .int x, b, h => by cases b <;> simp_all [D.beq]
  | .str x, b, h => by cases b <;> simp_all [D.beq]
  | .ref x, b, h => by cases b <;> simp_all [D.beq]
  | .tup xs, b, h => by
    cases b with
    | tup ys => simp only [D.beq] at h; rw [D.eq_of_beqs h]
    | _ => simp [D.beq] at h
theorem D.eq_of_beqs : ∀ {a b : List D}, D.beqs a b = true → a = b
  | [], b, h => by cases b <;> simp_all [D.beqs]
  | x :: xs, b, h => by
    cases b with
    | nil => simp [D.beqs] at h
    | cons y ys =>
      simp only [D.beqs, Bool.and_eq_true] at h
      rw [D.eq_of_beq h.1, D.eq_of_beqs h.2]
end
mutual
theorem D.beq_self : ∀ a : D, D.beq a a = true
  | .non => rfl
  | .bl x => by simp [D.beq]
  | .int x => by simp [D.beq]
  | .str x => by simp [D.beq]
  | .ref x => by simp [D.beq]
  | .tup xs => by simp only [D.beq]; exact D.beqs_self xs
theorem D.beqs_self : ∀ a : List D, D.beqs a a = true
  | [] => rfl
  | x :: xs => by simp only [D.beqs, D.beq_self x, D.beqs_self xs, Bool.and_self]
end
instance : DecidableEq D := fun a b => if h : D.beq a b = true then isTrue (D.eq_of_beq h) else isFalse fun e => h (e ▸ D.beq_self a)

inductive O where
  | lst (xs : List D) | fro (xs : List D) | dic (kvs : List (D × D)) | set (xs : List D)
  | ins (c : String) (fs : List (String × D)) | exc (c : String) (fs : List (String × D))
  deriving DecidableEq, Inhabited
def O.isFro : O → Bool
  | .fro _ => true
  | _ => false
abbrev Hq := List O

inductive R (α : Type) where
  | ok (a : α) (h : Hq) | exc (c : String) (fs : List (String × D)) (h : Hq) | bad
def R.bind {α β : Type} (r : R α) (k : α → Hq → R β) : R β := match r with
  | .ok a h => k a h
  | .exc c fs h => .exc c fs h
  | .bad => .bad
abbrev Ev := List (Option D)
abbrev E := Ev → Hq → R D

/-! ### how the machine bears it -/
def tx (s : List Nat) : Str := ⟨s.toArray⟩
mutual
inductive Rep (μ : Nat → Addr) (N : Nat) (H : Hp) : D → V → Prop
  | non : Rep μ N H .non .non
  | bl (b : Bool) : Rep μ N H (.bl b) (.bl b)
  | int (i : Int) : Rep μ N H (.int i) (.int i)
  | str (s : List Nat) : Rep μ N H (.str s) (.str (tx s))
  | tup {a : Addr} {xs : List D} {vs : List V} : H a = some (.tup vs) → Reps μ N H xs vs → Rep μ N H (.tup xs) (.ref a)
  | ref {n : Nat} : n < N → Rep μ N H (.ref n) (.ref (μ n))
inductive Reps (μ : Nat → Addr) (N : Nat) (H : Hp) : List D → List V → Prop
  | nil : Reps μ N H [] []
  | cons {d : D} {v : V} {ds : List D} {vs : List V} : Rep μ N H d v → Reps μ N H ds vs → Reps μ N H (d :: ds) (v :: vs)
end
/-- from one state to a later one -/
structure Stp (N : Nat) (μ : Nat → Addr) (H : Hp) (N' : Nat) (μ' : Nat → Addr) (H' : Hp) : Prop where
  le : N ≤ N'
  mu : ∀ i, i < N → μ' i = μ i
  tup : ∀ a vs, H a = some (.tup vs) → H' a = some (.tup vs)
theorem Stp.refl {N : Nat} {μ : Nat → Addr} {H : Hp} : Stp N μ H N μ H := ⟨Nat.le_refl _, fun _ _ => rfl, fun _ _ h => h⟩
theorem Stp.trans {N N1 N2 : Nat} {μ μ1 μ2 : Nat → Addr} {H H1 H2 : Hp} (a : Stp N μ H N1 μ1 H1) (b : Stp N1 μ1 H1 N2 μ2 H2) : Stp N μ H N2 μ2 H2 :=
  ⟨Nat.le_trans a.le b.le, fun i hi => (b.mu i (Nat.lt_of_lt_of_le hi a.le)).trans (a.mu i hi), fun x vs h => b.tup x vs (a.tup x vs h)⟩
section
variable {μ μ' : Nat → Addr} {N N' : Nat} {H H' : Hp}
mutual
theorem Rep.mono (st : Stp N μ H N' μ' H') : ∀ {d : D} {v : V}, Rep μ N H d v → Rep μ' N' H' d v
  | _, _, .non => .non
  | _, _, .bl b => .bl b
  | _, _, .int i => .int i
  | _, _, .str s => .str s
  | _, _, .tup h r => .tup (st.tup _ _ h) (Reps.mono st r)
  | _, _, .ref (n := n) h => by
    rw [← st.mu n h]
    exact .ref (Nat.lt_of_lt_of_le h st.le)
theorem Reps.mono (st : Stp N μ H N' μ' H') : ∀ {ds : List D} {vs : List V}, Reps μ N H ds vs → Reps μ' N' H' ds vs
  | _, _, .nil => .nil
  | _, _, .cons h r => .cons (Rep.mono st h) (Reps.mono st r)
end
theorem Reps.length : ∀ {ds : List D} {vs : List V}, Reps μ N H ds vs → ds.length = vs.length
  | _, _, .nil => rfl
  | _, _, .cons _ r => by simp [Reps.length r]
theorem Reps.get : ∀ {ds : List D} {vs : List V} {i : Nat} {d : D}, Reps μ N H ds vs → ds[i]? = some d → ∃ v, vs[i]? = some v ∧ Rep μ N H d v
  | _, _, _, _, .nil, e => by simp at e
  | _, _, 0, _, .cons r _, e => by simp at e; subst e; exact ⟨_, rfl, r⟩
  | _, _, i + 1, d, .cons _ t, e => by
    obtain ⟨v, h1, h2⟩ := Reps.get (i := i) (d := d) t (by simpa using e)
    exact ⟨v, by simpa using h1, h2⟩
theorem Reps.append : ∀ {ds es : List D} {vs us : List V}, Reps μ N H ds vs → Reps μ N H es us → Reps μ N H (ds ++ es) (vs ++ us)
  | _, _, _, _, .nil, s => s
  | _, _, _, _, .cons r t, s => .cons r (Reps.append t s)
theorem Reps.one {d : D} {v : V} (h : Rep μ N H d v) : Reps μ N H [d] [v] := .cons h .nil
theorem Reps.take : ∀ {ds : List D} {vs : List V} (n : Nat), Reps μ N H ds vs → Reps μ N H (ds.take n) (vs.take n)
  | _, _, 0, _ => .nil
  | _, _, _ + 1, .nil => .nil
  | _, _, n + 1, .cons r t => .cons r (Reps.take n t)
theorem Reps.drop : ∀ {ds : List D} {vs : List V} (n : Nat), Reps μ N H ds vs → Reps μ N H (ds.drop n) (vs.drop n)
  | _, _, 0, r => r
  | _, _, _ + 1, .nil => .nil
  | _, _, n + 1, .cons _ t => Reps.drop n t
theorem Reps.reverse : ∀ {ds : List D} {vs : List V}, Reps μ N H ds vs → Reps μ N H ds.reverse vs.reverse
  | _, _, .nil => .nil
  | _, _, .cons r t => by
    rw [List.reverse_cons, List.reverse_cons]
    exact Reps.append (Reps.reverse t) (.one r)
end
/-- fields by their names -/
inductive FRep (μ : Nat → Addr) (N : Nat) (H : Hp) : List (String × D) → List (Str × V) → Prop
  | nil : FRep μ N H [] []
  | cons {f : String} {d : D} {v : V} {fs : List (String × D)} {vs : List (Str × V)} : Rep μ N H d v → FRep μ N H fs vs → FRep μ N H ((f, d) :: fs) ((Str.ofString f, v) :: vs)
theorem FRep.mono {μ μ' : Nat → Addr} {N N' : Nat} {H H' : Hp} (st : Stp N μ H N' μ' H') : ∀ {fs : List (String × D)} {vs : List (Str × V)}, FRep μ N H fs vs → FRep μ' N' H' fs vs
  | _, _, .nil => .nil
  | _, _, .cons h r => .cons (h.mono st) (FRep.mono st r)
end Am

set_option Elab.async false
set_option linter.all false
set_option maxRecDepth 100000
set_option maxHeartbeats 2000000
namespace Am
open PySem L2
def cla (K : PySem.W.Frag) (c : String) : Addr := He.ga K (Str.ofString c)
/-! ### the heaps' relation -/
def keyD : D → Option Key
  | .int i => some (.inl i)
  | .str s => some (.inr (tx s))
  | _ => none
inductive KRep (μ : Nat → Addr) (N : Nat) (H : Hp) : List (D × D) → List (Key × V) → Prop
  | nil : KRep μ N H [] []
  | cons {k d : D} {q : Key} {v : V} {ks : List (D × D)} {qs : List (Key × V)} : keyD k = some q → Rep μ N H d v → KRep μ N H ks qs → KRep μ N H ((k, d) :: ks) ((q, v) :: qs)
theorem KRep.mono {μ μ' : Nat → Addr} {N N' : Nat} {H H' : Hp} (st : Stp N μ H N' μ' H') : ∀ {fs : List (D × D)} {vs : List (Key × V)}, KRep μ N H fs vs → KRep μ' N' H' fs vs
  | _, _, .nil => .nil
  | _, _, .cons e h r => .cons e (h.mono st) (KRep.mono st r)
def ORep (K : PySem.W.Frag) (μ : Nat → Addr) (N : Nat) (H : Hp) (a : Addr) : O → Prop
  | .lst xs => ∃ vs, H a = some (.lst vs) ∧ Reps μ N H xs vs
  | .fro xs => ∃ vs, ((∃ o, H a = some (.frz o (.lst vs))) ∨ ∃ o its n, K.lookup a = some o ∧ o.cls = Value.type "list" ∧ o.dict = none ∧ o.data = Data.seq its n ∧ its.size ≤ sizeLine ∧ Vals vs its.toList) ∧ Reps μ N H xs vs
  | .dic kvs => ∃ kk, H a = some (.dK kk) ∧ KRep μ N H kvs kk
  | .set _ => False
  | .ins c fs => ∃ dx fv, H a = some (.ins (cla K c) dx fv) ∧ FRep μ N H fs fv
  | .exc c fs => ∃ d, H a = some (exo a (cla K c) d) ∧ ((fs = [] ∧ d = none) ∨ ∃ dx fv, d = some dx ∧ H dx = some (exd dx fv) ∧ FRep μ N H fs fv)
structure Rel (K : PySem.W.Frag) (μ : Nat → Addr) (h : Hq) (H : Hp) : Prop where
  inj : ∀ i j oi oj, h[i]? = some oi → h[j]? = some oj → oi.isFro = false → oj.isFro = false → μ i = μ j → i = j
  obj : ∀ i o, h[i]? = some o → ORep K μ h.length H (μ i) o
theorem ORep.mono {K : PySem.W.Frag} {μ μ' : Nat → Addr} {N N' : Nat} {H H' : Hp} {a : Addr} (st : Stp N μ H N' μ' H') (k : ∀ o, H a = some o → H' a = some o) (kx : ∀ b φ, H b = some (.ext φ) → H' b = some (.ext φ)) {o : O} (x : ORep K μ N H a o) : ORep K μ' N' H' a o := by
  cases o with
  | lst xs => obtain ⟨vs, e, r⟩ := x; exact ⟨vs, k _ e, r.mono st⟩
  | fro xs =>
    obtain ⟨vs, e, r⟩ := x
    refine ⟨vs, ?_, r.mono st⟩
    rcases e with ⟨o, e⟩ | e
    · exact .inl ⟨o, k _ e⟩
    · exact .inr e
  | dic kvs => obtain ⟨kk, e, r⟩ := x; exact ⟨kk, k _ e, r.mono st⟩
  | ins c fs => obtain ⟨dx, fv, e, r⟩ := x; exact ⟨dx, fv, k _ e, r.mono st⟩
  | set xs => exact False.elim x
  | exc c fs =>
    obtain ⟨d, e, r⟩ := x
    refine ⟨d, k _ e, ?_⟩
    rcases r with z | ⟨dx, fv, e1, e2, r⟩
    · exact .inl z
    · exact .inr ⟨dx, fv, e1, kx _ _ e2, r.mono st⟩
/-- the machine's tracked object of one that is not frozen -/
theorem ORep.some {K : PySem.W.Frag} {μ : Nat → Addr} {N : Nat} {H : Hp} {a : Addr} {o : O} (x : ORep K μ N H a o) (hf : o.isFro = false) : ∃ u, H a = some u := by
  cases o with
  | lst xs => obtain ⟨vs, e, r⟩ := x; exact ⟨_, e⟩
  | fro xs => cases hf
  | dic kvs => obtain ⟨kk, e, r⟩ := x; exact ⟨_, e⟩
  | ins c fs => obtain ⟨dx, fv, e, r⟩ := x; exact ⟨_, e⟩
  | set xs => exact False.elim x
  | exc c fs => obtain ⟨d, e, _⟩ := x; exact ⟨_, e⟩
inductive SRep (μ : Nat → Addr) (N : Nat) (H : Hp) : Ev → St → Prop
  | nil : SRep μ N H [] []
  | no {x : Option V} {ds : Ev} {vs : St} : SRep μ N H ds vs → SRep μ N H (none :: ds) (x :: vs)
  | yes {d : D} {v : V} {ds : Ev} {vs : St} : Rep μ N H d v → SRep μ N H ds vs → SRep μ N H (some d :: ds) (some v :: vs)
section
variable {μ μ' : Nat → Addr} {N N' : Nat} {H H' : Hp}
theorem SRep.mono (st : Stp N μ H N' μ' H') : ∀ {ds : Ev} {vs : St}, SRep μ N H ds vs → SRep μ' N' H' ds vs
  | _, _, .nil => .nil
  | _, _, .no r => .no (SRep.mono st r)
  | _, _, .yes h r => .yes (h.mono st) (SRep.mono st r)
theorem SRep.get : ∀ {ds : Ev} {vs : St} {i : Nat} {d : D}, SRep μ N H ds vs → ds[i]? = some (some d) → ∃ v, vs[i]? = some (some v) ∧ Rep μ N H d v
  | _, _, _, _, .nil, e => by simp at e
  | _, _, 0, _, .no _, e => by simp at e
  | _, _, 0, _, .yes r _, e => by simp at e; subst e; exact ⟨_, rfl, r⟩
  | _, _, i + 1, d, .no t, e => by
    obtain ⟨v, h1, h2⟩ := SRep.get (i := i) (d := d) t (by simpa using e)
    exact ⟨v, by simpa using h1, h2⟩
  | _, _, i + 1, d, .yes _ t, e => by
    obtain ⟨v, h1, h2⟩ := SRep.get (i := i) (d := d) t (by simpa using e)
    exact ⟨v, by simpa using h1, h2⟩
theorem SRep.set {d : D} {v : V} (r : Rep μ N H d v) : ∀ {ds : Ev} {vs : St} (i : Nat), SRep μ N H ds vs → SRep μ N H (ds.set i (some d)) (vs.set i (some v))
  | _, _, _, .nil => .nil
  | _, _, 0, .no t => .yes r t
  | _, _, 0, .yes _ t => .yes r t
  | _, _, i + 1, .no t => .no (SRep.set r i t)
  | _, _, i + 1, .yes q t => .yes q (SRep.set r i t)
theorem SRep.unset : ∀ {ds : Ev} {vs : St} (i : Nat), SRep μ N H ds vs → SRep μ N H (ds.set i none) vs
  | _, _, _, .nil => .nil
  | _, _, 0, .no t => .no t
  | _, _, 0, .yes _ t => .no t
  | _, _, i + 1, .no t => .no (SRep.unset i t)
  | _, _, i + 1, .yes q t => .yes q (SRep.unset i t)
theorem SRep.length : ∀ {ds : Ev} {vs : St}, SRep μ N H ds vs → ds.length = vs.length
  | _, _, .nil => rfl
  | _, _, .no t => by simp [SRep.length t]
  | _, _, .yes _ t => by simp [SRep.length t]
end
/-! ### readings -/
def XRep (K : PySem.W.Frag) (μ : Nat → Addr) (N : Nat) (H : Hp) (c : String) (fs : List (String × D)) (cls : Value) (dp : Option Addr) : Prop :=
  cls = .ref (cla K c) ∧ ((fs = [] ∧ dp = none) ∨ ∃ d fv, dp = some d ∧ H d = some (.xd fv) ∧ FRep μ N H fs fv)
abbrev RpT (α β : Type) := (Nat → Addr) → Nat → Hp → α → β → Prop
def G {α β : Type} (K : PySem.W.Frag) (W : WX) (σ : St) (N : Nat) (μ : Nat → Addr) (H : Hp) (rp : RpT α β) (r : R α) (Q : β → Hp → Prop) : Prop := match r with
  | .ok a h' => ∀ μ' H' b, Stp N μ H h'.length μ' H' → Rel K μ' h' H' → rp μ' h'.length H' a b → Q b H'
  | .exc c fs h' => ∀ μ' H' cls dp, Stp N μ H h'.length μ' H' → Rel K μ' h' H' → XRep K μ' h'.length H' c fs cls dp → W cls dp σ H'
  | .bad => False
section
variable {K : PySem.W.Frag} {W : WX} {σ : St} {N N1 : Nat} {μ μ1 : Nat → Addr} {H H1 : Hp} {α β γ δ : Type} {rp : RpT α β} {rp' : RpT γ δ}
theorem G.lift {r : R α} {Q : β → Hp → Prop} (st : Stp N μ H N1 μ1 H1) (g : G K W σ N μ H rp r Q) : G K W σ N1 μ1 H1 rp r Q := by
  cases r with
  | ok a h => exact fun μ' H' b s => g μ' H' b (st.trans s)
  | exc c fs h => exact fun μ' H' b dp s => g μ' H' b dp (st.trans s)
  | bad => exact g
theorem G.imp {r : R α} {Q Q' : β → Hp → Prop} (k : ∀ b H', Q b H' → Q' b H') (g : G K W σ N μ H rp r Q) : G K W σ N μ H rp r Q' := by
  cases r with
  | ok a h => exact fun μ' H' b s x y => k _ _ (g μ' H' b s x y)
  | exc c fs h => exact g
  | bad => exact g
theorem G.bind {r : R α} {k : α → Hq → R γ} {Q : δ → Hp → Prop} (g : G K W σ N μ H rp' (r.bind k) Q) :
    G K W σ N μ H rp r (fun b H1 => ∃ μ1 a h1, Stp N μ H h1.length μ1 H1 ∧ Rel K μ1 h1 H1 ∧ rp μ1 h1.length H1 a b ∧ G K W σ h1.length μ1 H1 rp' (k a h1) Q) := by
  cases r with
  | ok a h => exact fun μ' H' b s x y => ⟨μ', a, h, s, x, y, G.lift s g⟩
  | exc c fs h => exact g
  | bad => exact g
end
abbrev rpD : RpT D V := Rep
abbrev rpL : RpT (List D) (List V) := Reps
abbrev rpB : RpT Bool Bool := fun _ _ _ a b => a = b
def tE (K : PySem.W.Frag) (W : WX) (m : E) : TE := fun σ H Q => ∃ μ h ρ, Rel K μ h H ∧ SRep μ h.length H ρ σ ∧ G K W σ h.length μ H rpD (m ρ h) Q
abbrev EA := Ev → Hq → R (List D)
abbrev EB := Ev → Hq → R Bool
def tEA (K : PySem.W.Frag) (W : WX) (m : EA) : TA := fun σ H Q => ∃ μ h ρ, Rel K μ h H ∧ SRep μ h.length H ρ σ ∧ G K W σ h.length μ H rpL (m ρ h) Q
def tEB (K : PySem.W.Frag) (W : WX) (m : EB) : TT := fun σ H Q => ∃ μ h ρ, Rel K μ h H ∧ SRep μ h.length H ρ σ ∧ G K W σ h.length μ H rpB (m ρ h) Q
theorem PE.imp {X : Cx} {e : Expr} {t t' : TE} (h : PE X e t) (k : ∀ σ H Q, t' σ H Q → t σ H Q) : PE X e t' := ⟨fun pins s σ H Q I q => h.run pins s σ H Q I (k σ H Q q)⟩
theorem PT.imp {X : Cx} {e : Expr} {t t' : TT} (h : PT X e t) (k : ∀ σ H Q, t' σ H Q → t σ H Q) : PT X e t' := ⟨fun pins s σ H Q I q => h.run pins s σ H Q I (k σ H Q q)⟩
theorem PW.imp {X : Cx} {e : Expr} {t t' : TT} (h : PW X e t) (k : ∀ σ H Q, t' σ H Q → t σ H Q) : PW X e t' := ⟨fun wh pins s σ H Q I q => h.run wh pins s σ H Q I (k σ H Q q)⟩
theorem PA.imp {X : Cx} {e : List Expr} {t t' : TA} (h : PA X e t) (k : ∀ σ H Q, t' σ H Q → t σ H Q) : PA X e t' := ⟨fun p pins s σ H Q I q => h.run p pins s σ H Q I (k σ H Q q)⟩

/-! ### names, constants, operators -/
def eVar (i : Nat) : E := fun ρ h => match ρ[i]? with
  | some (some d) => .ok d h
  | _ => .bad
def eC (d : D) : E := fun _ h => .ok d h
def R.of {α : Type} : Option (α × Hq) → R α
  | some (a, h) => .ok a h
  | none => .bad
def eBin (f : D → D → Hq → Option (D × Hq)) (a b : E) : E := fun ρ h => (a ρ h).bind fun x h1 => (b ρ h1).bind fun y h2 => .of (f x y h2)
section
variable {X : Cx} {W : WX}
theorem b_var (i : Nat) {x : Str} {pos : Pos} (hN : X.N[i]? = some x := by rfl) (hv : Vis X.env.scope x := by first | exact Or.inl rfl | exact Or.inr (Or.inl rfl) | exact Or.inr (Or.inr rfl)) (hd : (x == ("__debug__" : Str)) = false := by decide)
    (hcd : (x == ("__classdict__" : Str)) = false := by decide) : PE X (.Name x pos) (tE X.K W (eVar i)) :=
  PE.imp (pv i hN hv hd hcd) fun σ H Q ⟨μ, h, ρ, rel, sr, g⟩ => by
    unfold eVar at g
    cases e : ρ[i]? with
    | none => simp only [e] at g; exact g.elim
    | some o => cases o with
      | none => simp only [e] at g; exact g.elim
      | some d =>
        simp only [e] at g
        obtain ⟨v, hv, r⟩ := sr.get e
        exact ⟨v, hv, g μ H v .refl rel r⟩
theorem tC_of {d : D} {v : V} (k : ∀ μ N H, Rep μ N H d v) : ∀ σ H Q, tE X.K W (eC d) σ H Q → tC v σ H Q := fun σ H Q ⟨μ, h, ρ, rel, sr, g⟩ => g μ H v .refl rel (k _ _ _)
theorem b_int {i j pos} : PE X (.Constant (.int i) j pos) (tE X.K W (eC (.int i))) := PE.imp pe_int (tC_of fun _ _ _ => .int i)
theorem b_bl {i j pos} : PE X (.Constant (.bool i) j pos) (tE X.K W (eC (.bl i))) := PE.imp pe_bl (tC_of fun _ _ _ => .bl i)
theorem b_non {j pos} : PE X (.Constant .none j pos) (tE X.K W (eC .non)) := PE.imp pe_non (tC_of fun _ _ _ => .non)
theorem b_str (s : List Nat) {x : Str} {j pos} (hx : x = tx s := by rfl) : PE X (.Constant (.str x) j pos) (tE X.K W (eC (.str s))) := by
  subst hx
  exact PE.imp pe_str (tC_of fun _ _ _ => .str s)
/-- a two-place operation over plain data -/
def rD (K : PySem.W.Frag) (f : D → D → Hq → Option (D × Hq)) : R2 := fun x y H Q => ∃ μ h d e, Rel K μ h H ∧ Rep μ h.length H d x ∧ Rep μ h.length H e y ∧
  ∃ a h', f d e h = some (a, h') ∧ ∀ μ' H' b, Stp h.length μ H h'.length μ' H' → Rel K μ' h' H' → Rep μ' h'.length H' a b → Q b H'
theorem OpR.imp {f : Value → Value → Sem Value} {r r' : R2} (h : OpR X f r) (k : ∀ x y H Q, r' x y H Q → r x y H Q) : OpR X f r' := fun pins s σ H x y v u Q I rx ry q => h pins s σ H x y v u Q I rx ry (k x y H Q q)
theorem eBin_of {f : D → D → Hq → Option (D × Hq)} {a b : E} {σ : St} {H : Hp} {Q : VK} (q : tE X.K W (eBin f a b) σ H Q) : tOp (rD X.K f) (tE X.K W a) (tE X.K W b) σ H Q := by
  obtain ⟨μ, h, ρ, rel, sr, g⟩ := q
  refine ⟨μ, h, ρ, rel, sr, G.imp (fun x H1 z => ?_) (G.bind (rp := rpD) g)⟩
  obtain ⟨μ1, d, h1, st1, rel1, r1, g1⟩ := z
  refine ⟨μ1, h1, ρ, rel1, sr.mono st1, G.imp (fun y H2 z => ?_) (G.bind (rp := rpD) g1)⟩
  obtain ⟨μ2, e, h2, st2, rel2, r2, g2⟩ := z
  refine ⟨μ2, h2, d, e, rel2, r1.mono st2, r2, ?_⟩
  cases q : f d e h2 with
  | none => rw [q] at g2; exact g2.elim
  | some z =>
    obtain ⟨a', h'⟩ := z
    rw [q] at g2
    exact ⟨a', h', rfl, g2⟩
variable {a b : Expr} {ma mb : E} {pos : Pos}
theorem b_bin {op : Operator} {f : D → D → Hq → Option (D × Hq)} (ho : OpR X (binaryOp op) (rD X.K f)) (ha : PE X a (tE X.K W ma)) (hb : PE X b (tE X.K W mb)) : PE X (.BinOp a op b pos) (tE X.K W (eBin f ma mb)) :=
  PE.imp (pe_op ho ha hb) fun _ _ _ => eBin_of
theorem b_cmp {op : CmpOp} {f : D → D → Hq → Option (D × Hq)} (ho : OpR X (compareOp op) (rD X.K f)) (ha : PE X a (tE X.K W ma)) (hb : PE X b (tE X.K W mb)) (hm : behindInMarks op b = false) : PE X (.Compare a [op] [b] pos) (tE X.K W (eBin f ma mb)) :=
  PE.imp (pe_cmpR ho ha hb hm) fun _ _ _ => eBin_of
end
end Am

set_option Elab.async false
set_option linter.all false
set_option maxRecDepth 100000
set_option maxHeartbeats 2000000
namespace Am
open PySem L2
abbrev lim : Nat := 16777216
theorem lim_eq : sizeLine = lim := sizeLine_eq
def mset (μ : Nat → Addr) (n : Nat) (p : Addr) : Nat → Addr := fun i => if i = n then p else μ i
theorem mset_same {μ : Nat → Addr} {n : Nat} {p : Addr} : mset μ n p n = p := if_pos rfl
theorem mset_ne {μ : Nat → Addr} {n i : Nat} {p : Addr} (h : i ≠ n) : mset μ n p i = μ i := if_neg h
section
variable {K : PySem.W.Frag} {μ : Nat → Addr} {h : Hq} {H : Hp} {p : Addr}
theorem stp_new {u : HO} (hp : H p = none) : Stp h.length μ H (h.length + 1) (mset μ h.length p) (upd H p u) :=
  ⟨Nat.le_succ _, fun i hi => mset_ne (Nat.ne_of_lt hi), fun a vs e => by rw [upd_ne (ne_of_none e hp)]; exact e⟩
theorem stp_tup {u : HO} (hp : H p = none) : Stp h.length μ H h.length μ (upd H p u) :=
  ⟨Nat.le_refl _, fun i hi => rfl, fun a vs e => by rw [upd_ne (ne_of_none e hp)]; exact e⟩
theorem up_new {u : HO} (hp : H p = none) {a : Addr} {o : HO} (e : H a = some o) : upd H p u a = some o := by rw [upd_ne (ne_of_none e hp)]; exact e
/-- a new object -/
theorem Rel.new {o : O} {u : HO} (rel : Rel K μ h H) (hp : H p = none) (ho : ORep K (mset μ h.length p) (h.length + 1) (upd H p u) p o) :
    Rel K (mset μ h.length p) (h ++ [o]) (upd H p u) := by
  have old : ∀ i q, i < h.length → (h ++ [o])[i]? = some q → h[i]? = some q := fun i q hi e => by rw [List.getElem?_append_left hi] at e; exact e
  have last : ∀ i q, ¬ i < h.length → (h ++ [o])[i]? = some q → i = h.length ∧ q = o := fun i q hi e => by
    have hl := (List.getElem?_eq_some_iff.mp e).1
    rw [List.length_append, List.length_singleton] at hl
    have : i = h.length := by omega
    subst this
    rw [List.getElem?_append_right (Nat.le_refl _), Nat.sub_self] at e
    exact ⟨rfl, by simpa using e.symm⟩
  have far : ∀ i q, h[i]? = some q → q.isFro = false → μ i ≠ p := fun i q e hf z => by
    obtain ⟨w, hw⟩ := (rel.obj i q e).some hf
    rw [z, hp] at hw; cases hw
  refine ⟨fun i j oi oj ei ej fi fj e => ?_, fun i q e => ?_⟩
  · by_cases hi : i < h.length
    · by_cases hj : j < h.length
      · rw [mset_ne (Nat.ne_of_lt hi), mset_ne (Nat.ne_of_lt hj)] at e
        exact rel.inj i j oi oj (old _ _ hi ei) (old _ _ hj ej) fi fj e
      · obtain ⟨rfl, rfl⟩ := last j oj hj ej
        rw [mset_ne (Nat.ne_of_lt hi), mset_same] at e
        exact (far i oi (old _ _ hi ei) fi e).elim
    · obtain ⟨rfl, rfl⟩ := last i oi hi ei
      by_cases hj : j < h.length
      · rw [mset_same, mset_ne (Nat.ne_of_lt hj)] at e
        exact (far j oj (old _ _ hj ej) fj e.symm).elim
      · obtain ⟨rfl, rfl⟩ := last j oj hj ej
        rfl
  · rw [List.length_append, List.length_singleton]
    by_cases hi : i < h.length
    · rw [mset_ne (Nat.ne_of_lt hi)]
      exact (rel.obj i q (old _ _ hi e)).mono (stp_new hp) (fun _ e => up_new hp e) fun _ _ e => up_new hp e
    · obtain ⟨rfl, rfl⟩ := last i q hi e
      rw [mset_same]
      exact ho
theorem Rel.newTup {vs : List V} (rel : Rel K μ h H) (hp : H p = none) : Rel K μ h (upd H p (.tup vs)) :=
  ⟨rel.inj, fun i q e => (rel.obj i q e).mono (stp_tup hp) (fun _ e => up_new hp e) fun _ _ e => up_new hp e⟩
theorem Rel.newList {xs : List D} {vs : List V} (rel : Rel K μ h H) (hp : H p = none) (r : Reps μ h.length H xs vs) : Rel K (mset μ h.length p) (h ++ [.lst xs]) (upd H p (.lst vs)) :=
  rel.new hp ⟨vs, upd_same, r.mono (stp_new hp)⟩
/-- an object is changed -/
theorem stp_put {n : Nat} {o : O} {u u' : HO} (hu : H (μ n) = some u) (ht : ∀ vs, u ≠ .tup vs) : Stp h.length μ H h.length μ (upd H (μ n) u') :=
  ⟨Nat.le_refl _, fun i hi => rfl, fun a vs e => by rw [upd_ne (ne_of e hu fun z => ht vs z.symm)]; exact e⟩
theorem Rel.put {n : Nat} {o o' : O} {u u' : HO} (rel : Rel K μ h H) (hn : h[n]? = some o) (hf : o.isFro = false) (hf' : o'.isFro = false) (hu : H (μ n) = some u) (ht : ∀ vs, u ≠ .tup vs) (hz : ∀ ob vs, u ≠ .frz ob (.lst vs))
    (ho : ORep K μ h.length (upd H (μ n) u') (μ n) o') (hx : ∀ φ, u ≠ .ext φ := by intro _ z; nomatch z) : Rel K μ (h.set n o') (upd H (μ n) u') := by
  have hl := (List.getElem?_eq_some_iff.mp hn).1
  have there : ∀ i q, i ≠ n → (h.set n o')[i]? = some q → h[i]? = some q := fun i q hi e => by rw [List.getElem?_set_ne (Ne.symm hi)] at e; exact e
  have self : ∀ q, (h.set n o')[n]? = some q → q = o' := fun q e => by rw [List.getElem?_set_self hl] at e; exact (Option.some.inj e).symm
  refine ⟨fun i j oi oj ei ej fi fj e => ?_, fun i q e => ?_⟩
  · by_cases hi : i = n
    · by_cases hj : j = n
      · rw [hi, hj]
      · subst hi
        exact rel.inj i j o oj hn (there _ _ hj ej) hf fj e
    · by_cases hj : j = n
      · subst hj
        exact rel.inj i j oi o (there _ _ hi ei) hn fi hf e
      · exact rel.inj i j oi oj (there _ _ hi ei) (there _ _ hj ej) fi fj e
  · rw [List.length_set]
    by_cases hi : i = n
    · subst hi
      rw [self q e]
      exact ho
    · have e' := there i q hi e
      have x := rel.obj i q e'
      cases hq : q.isFro with
      | false =>
        have ne : μ i ≠ μ n := fun z => hi (rel.inj i n q o e' hn hq hf z)
        exact x.mono (stp_put (o := o) hu ht) (fun _ e => by rw [upd_ne ne]; exact e) fun b φ e => by rw [upd_ne (ne_of e hu fun z => hx φ z.symm)]; exact e
      | true =>
        cases q with
        | fro xs =>
          obtain ⟨vs, c, r⟩ := x
          refine ⟨vs, ?_, r.mono (stp_put (o := o) hu ht)⟩
          rcases c with ⟨ob, c⟩ | c
          · exact .inl ⟨ob, by rw [upd_ne (ne_of c hu fun z => hz ob vs z.symm)]; exact c⟩
          · exact .inr c
        | _ => cases hq
theorem Rel.lst {n : Nat} {xs : List D} (rel : Rel K μ h H) (hn : h[n]? = some (.lst xs)) : ∃ vs, H (μ n) = some (.lst vs) ∧ Reps μ h.length H xs vs := rel.obj n _ hn
theorem Rel.putList {n : Nat} {xs ys : List D} {us vs : List V} (rel : Rel K μ h H) (hn : h[n]? = some (.lst xs)) (hu : H (μ n) = some (.lst us)) (r : Reps μ h.length H ys vs) :
    Rel K μ (h.set n (.lst ys)) (upd H (μ n) (.lst vs)) ∧ Stp h.length μ H (h.set n (.lst ys)).length μ (upd H (μ n) (.lst vs)) := by
  have st : Stp h.length μ H h.length μ (upd H (μ n) (.lst vs)) := stp_put (o := .lst xs) hu fun _ z => nomatch z
  refine ⟨rel.put hn rfl rfl hu (fun _ z => nomatch z) (fun _ _ z => nomatch z) ⟨vs, upd_same, r.mono st⟩, ?_⟩
  rw [List.length_set]
  exact st
/-- the list at n, to be read -/
theorem Rel.seq {n : Nat} {o : O} {xs : List D} (rel : Rel K μ h H) (hn : h[n]? = some o) (ho : o = .lst xs ∨ o = .fro xs) : ∃ vs, SqL K H (μ n) vs ∧ Reps μ h.length H xs vs := by
  have x := rel.obj n o hn
  rcases ho with rfl | rfl
  · obtain ⟨vs, e, r⟩ := x
    exact ⟨vs, .of e, r⟩
  · obtain ⟨vs, e, r⟩ := x
    refine ⟨vs, ?_, r⟩
    rcases e with ⟨ob, e⟩ | e
    · exact .inl (.inr ⟨ob, e⟩)
    · exact .inr e
end

/-! ### operations over plain data -/
abbrev Op2 := D → D → Hq → Option (D × Hq)
def lstOf (h : Hq) : D → Option (List D)
  | .ref n => match h[n]? with
    | some (.lst xs) => some xs
    | some (.fro xs) => some xs
    | _ => none
  | _ => none
/-- a new list -/
def newL (xs : List D) (h : Hq) : Option (D × Hq) := if xs.length ≤ lim then some (.ref h.length, h ++ [.lst xs]) else none
def mutL (h : Hq) : D → Option (List D)
  | .ref n => match h[n]? with
    | some (.lst xs) => some xs
    | _ => none
  | _ => none
theorem mutL_some {h : Hq} {d : D} {xs : List D} (e : mutL h d = some xs) : ∃ n, d = .ref n ∧ h[n]? = some (.lst xs) := by
  cases d with
  | ref n =>
    simp only [mutL] at e
    split at e
    · rename_i q; cases e; exact ⟨n, rfl, q⟩
    · cases e
  | _ => cases e
theorem mutL_ref {h : Hq} {n : Nat} {xs : List D} (e : mutL h (.ref n) = some xs) : h[n]? = some (.lst xs) := by
  obtain ⟨m, e1, e2⟩ := mutL_some e
  cases e1
  exact e2
theorem lstOf_some {h : Hq} {d : D} {xs : List D} (e : lstOf h d = some xs) : ∃ n o, d = .ref n ∧ h[n]? = some o ∧ (o = .lst xs ∨ o = .fro xs) := by
  cases d with
  | ref n =>
    simp only [lstOf] at e
    split at e
    · rename_i q; cases e; exact ⟨n, _, rfl, q, .inl rfl⟩
    · rename_i q; cases e; exact ⟨n, _, rfl, q, .inr rfl⟩
    · cases e
  | _ => cases e
theorem Rel.read {K : PySem.W.Frag} {μ : Nat → Addr} {h : Hq} {H : Hp} {d : D} {v : V} {xs : List D} (rel : Rel K μ h H) (e : lstOf h d = some xs) (r : Rep μ h.length H d v) : ∃ a vs, v = .ref a ∧ SqL K H a vs ∧ Reps μ h.length H xs vs := by
  obtain ⟨n, o, rfl, hn, ho⟩ := lstOf_some e
  cases r
  obtain ⟨vs, hs, r⟩ := rel.seq hn ho
  exact ⟨_, vs, rfl, hs, r⟩
def addD : Op2
  | .int i, .int j, h => some (.int (i + j), h)
  | .str s, .str t, h => if s.length + t.length ≤ lim then some (.str (s ++ t), h) else none
  | .tup xs, .tup ys, h => if xs.length + ys.length ≤ lim then some (.tup (xs ++ ys), h) else none
  | .ref n, .ref m, h => match mutL h (.ref n), mutL h (.ref m) with
    | some xs, some ys => newL (xs ++ ys) h
    | _, _ => none
  | _, _, _ => none
def subD : Op2
  | .int i, .int j, h => some (.int (i - j), h)
  | _, _, _ => none
def isW (i : Int) : Bool := decide (-(2 ^ 64) < i ∧ i < 2 ^ 64)
def mulD : Op2
  | .int i, .int j, h => if isW i || isW j then some (.int (i * j), h) else none
  | .ref n, .int k, h => match mutL h (.ref n) with
    | some xs => if -(2 ^ 63) ≤ k ∧ k < 2 ^ 63 then newL (List.replicate k.toNat xs).flatten h else none
    | _ => none
  | _, _, _ => none
def modD : Op2
  | .int i, .int j, h => if 0 < j then some (.int (i % j), h) else none
  | _, _, _ => none
def divD : Op2
  | .int i, .int j, h => if 0 < j ∧ j < 1073741824 then some (.int (i / j), h) else none
  | _, _, _ => none
def powD : Op2
  | .int i, .int j, h => if 0 ≤ j ∧ j ≤ 1000000 ∧ i.natAbs < 2 ^ 64 then some (.int (i ^ j.toNat), h) else none
  | _, _, _ => none
theorem tx_len (s : List Nat) : (tx s).length = s.length := rfl
theorem tx_app (s t : List Nat) : tx s ++ tx t = tx (s ++ t) := by
  show (⟨s.toArray ++ t.toArray⟩ : Str) = ⟨(s ++ t).toArray⟩
  rw [List.append_toArray]
section
variable {X : Cx} {K : PySem.W.Frag} {μ : Nat → Addr} {h h' : Hq} {H : Hp} {p : Addr} {a : D} {Q : VK} {xs : List D} {vs : List V}
theorem rD_mk {f : Op2} {sem : Value → Value → Sem Value} (k : ∀ (μ : Nat → Addr) (h : Hq) (H : Hp) (d e : D) (x y : V) (a : D) (h' : Hq) (Q : VK), Rel X.K μ h H → Rep μ h.length H d x → Rep μ h.length H e y → f d e h = some (a, h') →
    (∀ μ' H' b, Stp h.length μ H h'.length μ' H' → Rel X.K μ' h' H' → Rep μ' h'.length H' a b → Q b H') → ∃ r, OpR X sem r ∧ r x y H Q) : OpR X sem (rD X.K f) := fun pins s σ H x y v u Q I rx ry q => by
  obtain ⟨μ, h, d, e, rel, r1, r2, a, h', ef, kk⟩ := q
  obtain ⟨r, hr, hq⟩ := k μ h H d e x y a h' Q rel r1 r2 ef kk
  exact hr pins s σ H x y v u Q I rx ry hq
/-- what stays -/
theorem fin_same (rel : Rel K μ h H) {b : V} (r : Rep μ h.length H a b) (k : ∀ μ' H' b, Stp h.length μ H h.length μ' H' → Rel K μ' h H' → Rep μ' h.length H' a b → Q b H') : Q b H := k μ H b .refl rel r
theorem fin_list (rel : Rel K μ h H) (r : Reps μ h.length H xs vs) (e : newL xs h = some (a, h'))
    (k : ∀ μ' H' b, Stp h.length μ H h'.length μ' H' → Rel K μ' h' H' → Rep μ' h'.length H' a b → Q b H') : vs.length ≤ sizeLine ∧ ∀ p, H p = none → Q (.ref p) (upd H p (.lst vs)) := by
  unfold newL at e
  by_cases hz : xs.length ≤ lim
  · rw [if_pos hz] at e
    cases e
    refine ⟨by rw [lim_eq, ← r.length]; exact hz, fun p hp => ?_⟩
    have st := stp_new (μ := μ) (h := h) (u := .lst vs) hp
    have e : (h ++ [O.lst xs]).length = h.length + 1 := by rw [List.length_append, List.length_singleton]
    have rr : Rep (mset μ h.length p) (h ++ [O.lst xs]).length (upd H p (.lst vs)) (.ref h.length) (.ref (mset μ h.length p h.length)) := .ref (by rw [e]; exact Nat.lt_succ_self _)
    rw [mset_same] at rr
    exact k _ _ (.ref p) (by rw [e]; exact st) (rel.newList hp r) rr
  · rw [if_neg hz] at e
    cases e
theorem fin_tup (rel : Rel K μ h H) (r : Reps μ h.length H xs vs) (hp : H p = none)
    (k : ∀ μ' H' b, Stp h.length μ H h.length μ' H' → Rel K μ' h H' → Rep μ' h.length H' (.tup xs) b → Q b H') : Q (.ref p) (upd H p (.tup vs)) :=
  k μ _ _ (stp_tup hp) (rel.newTup hp) (.tup upd_same (r.mono (stp_tup hp)))
theorem o_add : OpR X (binaryOp .Add) (rD X.K addD) := rD_mk fun μ h H d e x y a h' Q rel r1 r2 ef k => by
  cases r1 with
  | int i =>
    cases r2 with
    | int j => cases ef; exact ⟨_, op_add, i, j, rfl, rfl, fin_same rel (.int _) k⟩
    | _ => cases ef
  | str s =>
    cases r2 with
    | str t =>
      simp only [addD] at ef
      by_cases hz : s.length + t.length ≤ lim
      · rw [if_pos hz] at ef; cases ef
        refine ⟨_, op_add_str, _, _, rfl, rfl, by rw [tx_len, tx_len, lim_eq]; exact hz, ?_⟩
        rw [tx_app]
        exact fin_same rel (.str _) k
      · rw [if_neg hz] at ef; cases ef
    | _ => cases ef
  | tup h1 q1 =>
    rename_i xs vs
    cases r2 with
    | tup h2 q2 =>
      rename_i ys us
      simp only [addD] at ef
      by_cases hz : xs.length + ys.length ≤ lim
      · rw [if_pos hz] at ef; cases ef
        refine ⟨_, op_catA, _, _, _, _, rfl, rfl, .of h1, .of h2, by rw [lim_eq, ← q1.length, ← q2.length]; exact hz, fun z => ?_, fun z z2 => ?_, fun _ _ p hp => ?_⟩
        · subst z
          cases q1
          exact fin_same rel (.tup h2 q2) k
        · subst z2
          cases q2
          rw [List.append_nil] at k
          exact fin_same rel (.tup h1 q1) k
        · exact fin_tup rel (q1.append q2) hp k
      · rw [if_neg hz] at ef; cases ef
    | _ => cases ef
  | ref hn =>
    rename_i n
    cases r2 with
    | ref hm =>
      rename_i m
      simp only [addD] at ef
      cases e1 : mutL h (.ref n) with
      | none => rw [e1] at ef; cases ef
      | some xs =>
        cases e2 : mutL h (.ref m) with
        | none => rw [e1, e2] at ef; cases ef
        | some ys =>
          rw [e1, e2] at ef
          obtain ⟨vs, g1, q1⟩ := rel.lst (mutL_ref e1)
          obtain ⟨us, g2, q2⟩ := rel.lst (mutL_ref e2)
          obtain ⟨hz, kk⟩ := fin_list rel (q1.append q2) ef k
          exact ⟨_, op_cat, _, _, vs, us, rfl, rfl, g1, g2, by rw [← List.length_append]; exact hz, kk⟩
    | _ => cases ef
  | _ => cases ef
theorem o_sub : OpR X (binaryOp .Sub) (rD X.K subD) := rD_mk fun μ h H d e x y a h' Q rel r1 r2 ef k => by
  cases r1 with
  | int i =>
    cases r2 with
    | int j => cases ef; exact ⟨_, op_sub, i, j, rfl, rfl, fin_same rel (.int _) k⟩
    | _ => cases ef
  | _ => cases ef
theorem isW_ok {i j : Int} (e : (isW i || isW j) = true) : CMul i j := by
  rcases Bool.or_eq_true_iff.mp e with q | q
  · exact .inl (of_decide_eq_true q)
  · exact .inr (of_decide_eq_true q)
theorem Reps.rep {μ : Nat → Addr} {N : Nat} {H : Hp} {xs : List D} {vs : List V} (r : Reps μ N H xs vs) : ∀ n, Reps μ N H (List.replicate n xs).flatten (List.replicate n vs).flatten
  | 0 => .nil
  | n + 1 => by
    rw [List.replicate_succ, List.replicate_succ, List.flatten_cons, List.flatten_cons]
    exact r.append (Reps.rep r n)
theorem flat_len {α : Type} (xs : List α) : ∀ n, (List.replicate n xs).flatten.length = xs.length * n
  | 0 => by simp
  | n + 1 => by rw [List.replicate_succ, List.flatten_cons, List.length_append, flat_len xs n, Nat.mul_succ]; omega
theorem o_mul : OpR X (binaryOp .Mult) (rD X.K mulD) := rD_mk fun μ h H d e x y a h' Q rel r1 r2 ef k => by
  cases r1 with
  | int i =>
    cases r2 with
    | int j =>
      simp only [mulD] at ef
      cases hc : (isW i || isW j) with
      | true =>
        rw [hc, if_pos rfl] at ef; cases ef
        exact ⟨_, op_mul, i, j, rfl, rfl, isW_ok hc, fin_same rel (.int _) k⟩
      | false => rw [hc] at ef; simp at ef
    | _ => cases ef
  | ref hn =>
    rename_i n
    cases r2 with
    | int j =>
      simp only [mulD] at ef
      cases e1 : mutL h (.ref n) with
      | none => rw [e1] at ef; cases ef
      | some xs =>
        rw [e1] at ef
        simp only at ef
        by_cases hj : -(2 ^ 63) ≤ j ∧ j < 2 ^ 63
        · rw [if_pos hj] at ef
          obtain ⟨vs, g1, q1⟩ := rel.lst (mutL_ref e1)
          obtain ⟨hz, kk⟩ := fin_list rel (q1.rep j.toNat) ef k
          rw [flat_len] at hz
          exact ⟨_, op_rep, _, _, vs, rfl, rfl, g1, hj.1, hj.2, hz, kk⟩
        · rw [if_neg hj] at ef; cases ef
    | _ => cases ef
  | _ => cases ef
theorem o_mod : OpR X (binaryOp .Mod) (rD X.K modD) := rD_mk fun μ h H d e x y a h' Q rel r1 r2 ef k => by
  cases r1 with
  | int i =>
    cases r2 with
    | int j =>
      simp only [modD] at ef
      by_cases hj : 0 < j
      · rw [if_pos hj] at ef; cases ef
        exact ⟨_, op_mod, i, j, rfl, rfl, hj, fin_same rel (.int _) k⟩
      · rw [if_neg hj] at ef; cases ef
    | _ => cases ef
  | _ => cases ef
theorem o_div : OpR X (binaryOp .FloorDiv) (rD X.K divD) := rD_mk fun μ h H d e x y a h' Q rel r1 r2 ef k => by
  cases r1 with
  | int i =>
    cases r2 with
    | int j =>
      simp only [divD] at ef
      by_cases hj : 0 < j ∧ j < 1073741824
      · rw [if_pos hj] at ef; cases ef
        exact ⟨_, op_fdiv, i, j, rfl, rfl, hj, fin_same rel (.int _) k⟩
      · rw [if_neg hj] at ef; cases ef
    | _ => cases ef
  | _ => cases ef
theorem o_pow : OpR X (binaryOp .Pow) (rD X.K powD) := rD_mk fun μ h H d e x y a h' Q rel r1 r2 ef k => by
  cases r1 with
  | int i =>
    cases r2 with
    | int j =>
      simp only [powD] at ef
      by_cases hj : 0 ≤ j ∧ j ≤ 1000000 ∧ i.natAbs < 2 ^ 64
      · rw [if_pos hj] at ef; cases ef
        exact ⟨_, op_pow, i, j, rfl, rfl, hj, fin_same rel (.int _) k⟩
      · rw [if_neg hj] at ef; cases ef
    | _ => cases ef
  | _ => cases ef
end
end Am

set_option Elab.async false
set_option linter.all false
set_option maxRecDepth 100000
set_option maxHeartbeats 2000000
namespace Am
open PySem L2
/-! ### nested data as the model's own -/
/-- no objects within, code points, not too deep; no bools (b = false), no numbers (b = true) -/
def okD (b : Bool) : Nat → D → Bool
  | 0, _ => false
  | _ + 1, .non => true
  | _ + 1, .bl _ => b
  | _ + 1, .int _ => !b
  | _ + 1, .str s => s.all (· < 0x110000)
  | f + 1, .tup xs => xs.all (okD b f)
  | _ + 1, .ref _ => false
def pyF : Nat → D → PyData
  | 0, _ => .none
  | _ + 1, .non => .none
  | _ + 1, .bl b => .bool b
  | _ + 1, .int i => .int i
  | _ + 1, .str s => .str (tx s)
  | f + 1, .tup xs => .tuple (xs.map (pyF f))
  | _ + 1, .ref _ => .none
theorem tx_inj {s t : List Nat} (e : tx s = tx t) : s = t := by
  have := congrArg (fun z : Str => z.cps.toList) e
  simpa [tx] using this
section
variable {K : PySem.W.Frag} {μ : Nat → Addr} {N : Nat} {H : Hp} {b : Bool}
theorem mapF_dp {f : Nat} (hf : ∀ d v, Rep μ N H d v → okD b f d = true → Dp K H v (pyF f d)) : ∀ {xs : List D} {vs : List V}, Reps μ N H xs vs → xs.all (okD b f) = true → DpAll K H vs (xs.map (pyF f))
  | _, _, .nil, _ => .nil
  | _, _, .cons r rs, e => by
    simp only [List.all_cons, Bool.and_eq_true] at e
    exact .cons (hf _ _ r e.1) (mapF_dp hf rs e.2)
theorem okD_dp : ∀ (f : Nat) (d : D) (v : V), Rep μ N H d v → okD b f d = true → Dp K H v (pyF f d)
  | 0, _, _, _, e => by cases e
  | f + 1, _, _, .non, _ => .non
  | f + 1, _, _, .bl b, _ => .bl b
  | f + 1, _, _, .int i, _ => .int i
  | f + 1, _, _, .str s, _ => .str _
  | f + 1, _, _, .tup ha r, e => .tup (.of ha) (mapF_dp (okD_dp f) r (by simpa only [okD] using e))
  | f + 1, _, _, .ref _, e => by cases e
end
theorem eqvAll_map {b : Bool} {f : Nat} (hf : ∀ d e, okD b f d = true → okD b f e = true → PyData.eqv (pyF f d) (pyF f e) = decide (d = e)) : ∀ xs ys : List D, xs.all (okD b f) = true → ys.all (okD b f) = true →
    PyData.eqvAll (xs.map (pyF f)) (ys.map (pyF f)) = decide (xs = ys)
  | [], [], _, _ => rfl
  | [], y :: ys, _, _ => rfl
  | x :: xs, [], _, _ => rfl
  | x :: xs, y :: ys, h1, h2 => by
    simp only [List.all_cons, Bool.and_eq_true] at h1 h2
    simp only [List.map_cons, PyData.eqvAll]
    rw [hf x y h1.1 h2.1, eqvAll_map hf xs ys h1.2 h2.2]
    by_cases e1 : x = y
    · by_cases e2 : xs = ys
      · simp [e1, e2]
      · simp [e1, e2]
    · simp [e1]
theorem eqv_dec {b : Bool} : ∀ (f : Nat) (d e : D), okD b f d = true → okD b f e = true → PyData.eqv (pyF f d) (pyF f e) = decide (d = e)
  | 0, _, _, h, _ => by cases h
  | f + 1, d, e, h1, h2 => by
    cases d with
    | non => cases e <;> first | rfl | (cases h2; done) | simp [pyF, PyData.eqv]
    | bl x =>
      cases e with
      | bl y => simp only [pyF, PyData.eqv]; cases x <;> cases y <;> rfl
      | int y =>
        have z1 : b = true := h1
        subst z1
        cases h2
      | ref n => cases h2
      | _ => simp [pyF, PyData.eqv]
    | int x =>
      cases e with
      | int y =>
        simp only [pyF, PyData.eqv]
        by_cases z : x = y
        · subst z; simp
        · have : ¬ D.int x = D.int y := fun q => z (D.int.inj q)
          simp [z]
      | bl y =>
        have z1 : b = true := h2
        subst z1
        cases h1
      | ref n => cases h2
      | _ => simp [pyF, PyData.eqv]
    | str x =>
      cases e with
      | str y =>
        simp only [pyF, PyData.eqv]
        by_cases z : x = y
        · subst z; simp
        · have q1 : ¬ D.str x = D.str y := fun q => z (D.str.inj q)
          have q2 : ¬ tx x = tx y := fun q => z (tx_inj q)
          rw [decide_eq_false q1]
          exact beq_eq_false_iff_ne.mpr q2
      | ref n => cases h2
      | _ => simp [pyF, PyData.eqv]
    | tup xs =>
      cases e with
      | tup ys =>
        simp only [pyF, PyData.eqv]
        rw [eqvAll_map (eqv_dec f) xs ys (by simpa only [okD] using h1) (by simpa only [okD] using h2)]
        by_cases z : xs = ys
        · subst z; simp
        · have : ¬ D.tup xs = D.tup ys := fun q => z (D.tup.inj q)
          simp [z]
      | ref n => cases h2
      | _ => simp [pyF, PyData.eqv]
    | ref n => cases h1
theorem lay_map {b : Bool} {f : Nat} (hf : ∀ d, okD b f d = true → (pyF f d).canLay0 = true ∧ (pyF f d).depth ≤ f) : ∀ xs : List D, xs.all (okD b f) = true → PyData.canLayAll0 (xs.map (pyF f)) = true ∧ PyData.depthAll (xs.map (pyF f)) ≤ f
  | [], _ => ⟨rfl, Nat.zero_le _⟩
  | x :: xs, h => by
    simp only [List.all_cons, Bool.and_eq_true] at h
    obtain ⟨a1, a2⟩ := hf x h.1
    obtain ⟨b1, b2⟩ := lay_map hf xs h.2
    simp only [List.map_cons, PyData.canLayAll0, PyData.depthAll, a1, b1, Bool.and_self, true_and]
    exact Nat.max_le.mpr ⟨a2, b2⟩
theorem okD_lay {b : Bool} : ∀ (f : Nat) (d : D), okD b f d = true → (pyF f d).canLay0 = true ∧ (pyF f d).depth ≤ f
  | 0, _, h => by cases h
  | f + 1, d, h => by
    cases d with
    | non => exact ⟨rfl, by simp [pyF, PyData.depth]⟩
    | bl x => exact ⟨rfl, by simp [pyF, PyData.depth]⟩
    | int x => exact ⟨rfl, by simp [pyF, PyData.depth]⟩
    | str x => exact ⟨by simpa [pyF, PyData.canLay0, PyData.strOk, tx, okD] using h, by simp [pyF, PyData.depth]⟩
    | tup xs =>
      obtain ⟨a1, a2⟩ := lay_map (okD_lay f) xs (by simpa only [okD] using h)
      exact ⟨by simpa only [pyF, PyData.canLay0] using a1, by simp only [pyF, PyData.depth]; omega⟩
    | ref n => cases h
abbrev dep : Nat := 40
def okB (xs : List D) : Bool := xs.all (okD false dep) || xs.all (okD true dep)
theorem okD_shaped {b : Bool} {d : D} (h : okD b dep d = true) : SeqAt.shaped (pyF dep d) = true := by
  obtain ⟨h1, h2⟩ := okD_lay dep d h
  unfold SeqAt.shaped
  rw [h1, Bool.true_and]
  exact decide_eq_true (Nat.le_trans h2 (by decide))
theorem okL_shaped {b : Bool} {xs : List D} (h : xs.all (okD b dep) = true) : SeqAt.shaped (.list (xs.map (pyF dep))) = true ∧ SeqAt.shaped (.tuple (xs.map (pyF dep))) = true := by
  obtain ⟨h1, h2⟩ := lay_map (okD_lay dep) xs h
  unfold SeqAt.shaped
  constructor
  · simp only [PyData.canLay0, PyData.depth, h1, Bool.true_and]
    exact decide_eq_true (by have : dep = 40 := rfl; omega)
  · simp only [PyData.canLay0, PyData.depth, h1, Bool.true_and]
    exact decide_eq_true (by have : dep = 40 := rfl; omega)
theorem okB_or {xs : List D} (h : okB xs = true) : ∃ b, xs.all (okD b dep) = true := by
  rcases Bool.or_eq_true_iff.mp h with q | q
  · exact ⟨_, q⟩
  · exact ⟨_, q⟩
/-- are two values equal: two lists, or two values without objects -/
def eqP (h : Hq) (d e : D) : Option Bool := match mutL h d, mutL h e with
  | some xs, some ys => if okB (xs ++ ys) then some (decide (xs = ys)) else none
  | _, _ => if okB [d, e] then some (decide (d = e)) else none
def eqD : Op2
  | .int i, .int j, h => some (.bl (decide (i = j)), h)
  | .str s, .str t, h => some (.bl (decide (s = t)), h)
  | .bl s, .bl t, h => some (.bl (decide (s = t)), h)
  | d, e, h => (eqP h d e).map fun b => (.bl b, h)
def neD : Op2
  | .int i, .int j, h => some (.bl (!decide (i = j)), h)
  | .str s, .str t, h => some (.bl (!decide (s = t)), h)
  | .bl s, .bl t, h => some (.bl (!decide (s = t)), h)
  | d, e, h => (eqP h d e).map fun b => (.bl (!b), h)
def cmpI (p : Int → Int → Bool) : Op2
  | .int i, .int j, h => some (.bl (p i j), h)
  | _, _, _ => none
def ltD : Op2
  | .int i, .int j, h => some (.bl (decide (i < j)), h)
  | .str s, .str t, h => some (.bl (decide (s < t)), h)
  | _, _, _ => none
def leD : Op2
  | .int i, .int j, h => some (.bl (decide (i ≤ j)), h)
  | .str s, .str t, h => some (.bl (!decide (t < s)), h)
  | _, _, _ => none
abbrev gtD : Op2 := cmpI fun i j => decide (j < i)
abbrev geD : Op2 := cmpI fun i j => decide (j ≤ i)
/-- a sign in a text, an item in a list or a tuple -/
def inB (h : Hq) (d e : D) : Option Bool := match e with
  | .str t => match d with
    | .str [c] => some (decide (c ∈ t))
    | _ => none
  | .tup xs => if okB (d :: xs) then some (decide (d ∈ xs)) else none
  | .ref n => (mutL h (.ref n)).bind fun xs => if okB (d :: xs) then some (decide (d ∈ xs)) else none
  | _ => none
def inD : Op2 := fun d e h => (inB h d e).map fun b => (.bl b, h)
def niD : Op2 := fun d e h => (inB h d e).map fun b => (.bl (!b), h)
def isND : D → Bool
  | .non => true
  | _ => false
section
variable {X : Cx}
theorem dec_tx {s t : List Nat} : decide (V.str (tx s) = V.str (tx t)) = decide (s = t) := by
  by_cases z : s = t
  · subst z; simp
  · rw [decide_eq_false z, decide_eq_false fun q => z (tx_inj (V.str.inj q))]
theorem dec_vint {i j : Int} : decide (V.int i = V.int j) = decide (i = j) := by
  by_cases z : i = j
  · subst z; simp
  · rw [decide_eq_false z, decide_eq_false fun q => z (V.int.inj q)]
theorem dec_vbl {i j : Bool} : decide (V.bl i = V.bl j) = decide (i = j) := by
  by_cases z : i = j
  · subst z; simp
  · rw [decide_eq_false z, decide_eq_false fun q => z (V.bl.inj q)]
theorem dp_list {μ : Nat → Addr} {h : Hq} {H : Hp} {d : D} {x : V} {xs : List D} {b : Bool} (rel : Rel X.K μ h H) (r : Rep μ h.length H d x) (e : mutL h d = some xs) (ok : xs.all (okD b dep) = true) : Dp X.K H x (.list (xs.map (pyF dep))) := by
  obtain ⟨n, rfl, en⟩ := mutL_some e
  cases r
  obtain ⟨vs, hH, rs⟩ := rel.lst en
  exact .lst (.of hH) (mapF_dp (okD_dp dep) rs ok)
theorem eqP_fin {μ : Nat → Addr} {h h' : Hq} {H : Hp} {d e a : D} {x y : V} {g : Bool → Bool} {Q : VK} (rel : Rel X.K μ h H) (r1 : Rep μ h.length H d x) (r2 : Rep μ h.length H e y) (ef : ((eqP h d e).map fun b => (D.bl (g b), h)) = some (a, h'))
    (k : ∀ μ' H' b, Stp h.length μ H h'.length μ' H' → Rel X.K μ' h' H' → Rep μ' h'.length H' a b → Q b H') : ∃ p q, Dp X.K H x p ∧ Dp X.K H y q ∧ SeqAt.shaped p = true ∧ SeqAt.shaped q = true ∧ Q (.bl (g (PyData.eqv p q))) H := by
  have plain : (if okB [d, e] then some (decide (d = e)) else none).map (fun b => (D.bl (g b), h)) = some (a, h') → ∃ p q, Dp X.K H x p ∧ Dp X.K H y q ∧ SeqAt.shaped p = true ∧ SeqAt.shaped q = true ∧ Q (.bl (g (PyData.eqv p q))) H := fun ef => by
    cases ok : okB [d, e] with
    | false => rw [ok] at ef; simp at ef
    | true =>
      rw [ok] at ef
      simp only [if_true, Option.map_some, Option.some.injEq, Prod.mk.injEq] at ef
      obtain ⟨rfl, rfl⟩ := ef
      obtain ⟨b, q⟩ := okB_or ok
      simp only [List.all_cons, List.all_nil, Bool.and_true, Bool.and_eq_true] at q
      refine ⟨_, _, okD_dp _ _ _ r1 q.1, okD_dp _ _ _ r2 q.2, okD_shaped q.1, okD_shaped q.2, ?_⟩
      rw [eqv_dec dep d e q.1 q.2]
      exact fin_same rel (.bl _) k
  unfold eqP at ef
  split at ef
  · rename_i xs ys e1 e2
    cases ok : okB (xs ++ ys) with
    | false => rw [ok] at ef; simp at ef
    | true =>
      rw [ok] at ef
      simp only [if_true, Option.map_some, Option.some.injEq, Prod.mk.injEq] at ef
      obtain ⟨rfl, rfl⟩ := ef
      obtain ⟨b, q⟩ := okB_or ok
      rw [List.all_append, Bool.and_eq_true] at q
      refine ⟨_, _, dp_list rel r1 e1 q.1, dp_list rel r2 e2 q.2, (okL_shaped q.1).1, (okL_shaped q.2).1, ?_⟩
      simp only [PyData.eqv]
      rw [eqvAll_map (eqv_dec dep) xs ys q.1 q.2]
      exact fin_same rel (.bl _) k
  · exact plain ef
theorem o_eq (hu : X.A.units + 64 < cLine) : OpR X (compareOp .Eq) (rD X.K eqD) := rD_mk fun μ h H d e x y a h' Q rel r1 r2 ef k => by
  by_cases hl : (∃ i j, d = .int i ∧ e = .int j) ∨ (∃ i j, d = .str i ∧ e = .str j) ∨ (∃ i j, d = .bl i ∧ e = .bl j)
  · rcases hl with ⟨i, j, rfl, rfl⟩ | ⟨i, j, rfl, rfl⟩ | ⟨i, j, rfl, rfl⟩
    · cases r1; cases r2; cases ef
      exact ⟨_, op_eq, rfl, by rw [dec_vint]; exact fin_same rel (.bl _) k⟩
    · cases r1; cases r2; cases ef
      exact ⟨_, op_eq, rfl, by rw [dec_tx]; exact fin_same rel (.bl _) k⟩
    · cases r1; cases r2; cases ef
      exact ⟨_, op_eq, rfl, by rw [dec_vbl]; exact fin_same rel (.bl _) k⟩
  · have e' : eqD d e h = (eqP h d e).map fun b => (D.bl b, h) := by
      unfold eqD
      split
      · exact (hl (.inl ⟨_, _, rfl, rfl⟩)).elim
      · exact (hl (.inr (.inl ⟨_, _, rfl, rfl⟩))).elim
      · exact (hl (.inr (.inr ⟨_, _, rfl, rfl⟩))).elim
      · rfl
    rw [e'] at ef
    exact ⟨_, op_eqD hu, eqP_fin (g := fun b => b) rel r1 r2 ef k⟩
theorem o_ne (hu : X.A.units + 64 < cLine) : OpR X (compareOp .NotEq) (rD X.K neD) := rD_mk fun μ h H d e x y a h' Q rel r1 r2 ef k => by
  by_cases hl : (∃ i j, d = .int i ∧ e = .int j) ∨ (∃ i j, d = .str i ∧ e = .str j) ∨ (∃ i j, d = .bl i ∧ e = .bl j)
  · rcases hl with ⟨i, j, rfl, rfl⟩ | ⟨i, j, rfl, rfl⟩ | ⟨i, j, rfl, rfl⟩
    · cases r1; cases r2; cases ef
      exact ⟨_, op_ne, rfl, by rw [dec_vint]; exact fin_same rel (.bl _) k⟩
    · cases r1; cases r2; cases ef
      exact ⟨_, op_ne, rfl, by rw [dec_tx]; exact fin_same rel (.bl _) k⟩
    · cases r1; cases r2; cases ef
      exact ⟨_, op_ne, rfl, by rw [dec_vbl]; exact fin_same rel (.bl _) k⟩
  · have e' : neD d e h = (eqP h d e).map fun b => (D.bl (!b), h) := by
      unfold neD
      split
      · exact (hl (.inl ⟨_, _, rfl, rfl⟩)).elim
      · exact (hl (.inr (.inl ⟨_, _, rfl, rfl⟩))).elim
      · exact (hl (.inr (.inr ⟨_, _, rfl, rfl⟩))).elim
      · rfl
    rw [e'] at ef
    exact ⟨_, op_neD hu, eqP_fin (g := fun b => !b) rel r1 r2 ef k⟩
theorem o_cmpI {op : CmpOp} {p : Int → Int → Bool} (ho : OpR X (compareOp op) (rI0 fun i j => .bl (p i j))) : OpR X (compareOp op) (rD X.K (cmpI p)) := rD_mk fun μ h H d e x y a h' Q rel r1 r2 ef k => by
  cases r1 with
  | int i =>
    cases r2 with
    | int j => cases ef; exact ⟨_, ho, i, j, rfl, rfl, fin_same rel (.bl _) k⟩
    | _ => cases ef
  | _ => cases ef
theorem o_gt : OpR X (compareOp .Gt) (rD X.K gtD) := o_cmpI op_gt
theorem o_ge : OpR X (compareOp .GtE) (rD X.K geD) := o_cmpI op_ge
theorem o_lt : OpR X (compareOp .Lt) (rD X.K ltD) := rD_mk fun μ h H d e x y a h' Q rel r1 r2 ef k => by
  cases r1 with
  | int i =>
    cases r2 with
    | int j => cases ef; exact ⟨_, op_lt, i, j, rfl, rfl, fin_same rel (.bl _) k⟩
    | _ => cases ef
  | str i =>
    cases r2 with
    | str j => cases ef; exact ⟨_, op_lt_str, _, _, rfl, rfl, fin_same rel (.bl _) k⟩
    | _ => cases ef
  | _ => cases ef
theorem o_le : OpR X (compareOp .LtE) (rD X.K leD) := rD_mk fun μ h H d e x y a h' Q rel r1 r2 ef k => by
  cases r1 with
  | int i =>
    cases r2 with
    | int j => cases ef; exact ⟨_, op_le, i, j, rfl, rfl, fin_same rel (.bl _) k⟩
    | _ => cases ef
  | str i =>
    cases r2 with
    | str j => cases ef; exact ⟨_, op_le_str, _, _, rfl, rfl, fin_same rel (.bl _) k⟩
    | _ => cases ef
  | _ => cases ef
def rInT (K : PySem.W.Frag) : R2 := fun x y H Q => ∃ d ds, Dp K H x d ∧ Dp K H y (.tuple ds) ∧ SeqAt.shaped d = true ∧ SeqAt.shaped (.tuple ds) = true ∧ Q (.bl (ds.any fun z => PyData.eqv z d)) H
def rNotInT (K : PySem.W.Frag) : R2 := fun x y H Q => ∃ d ds, Dp K H x d ∧ Dp K H y (.tuple ds) ∧ SeqAt.shaped d = true ∧ SeqAt.shaped (.tuple ds) = true ∧ Q (.bl (!ds.any fun z => PyData.eqv z d)) H
theorem op_inT (hu : X.A.units + 65 < cLine) : OpR X (compareOp .In) (rInT X.K) := fun pins s σ H x y v u Q I rx ry h => by
  obtain ⟨d, ds, hd, he, sd, se, q⟩ := h
  obtain ⟨as, r1⟩ := Dp.reads I d x v hd rx
  obtain ⟨bs, r2⟩ := Dp.reads I (.tuple ds) y u he ry
  exact SeqAt.in_tuple_reads r2 r1 (SeqAt.canLay_of_shaped se) (SeqAt.canLay_of_shaped sd) (PyProof.Rows.room_in_shaped sd hu) ⟨.bl _, H, I, rfl, q⟩
theorem op_niT (hu : X.A.units + 65 < cLine) : OpR X (compareOp .NotIn) (rNotInT X.K) := fun pins s σ H x y v u Q I rx ry h => by
  obtain ⟨d, ds, hd, he, sd, se, q⟩ := h
  obtain ⟨as, r1⟩ := Dp.reads I d x v hd rx
  obtain ⟨bs, r2⟩ := Dp.reads I (.tuple ds) y u he ry
  exact SeqAt.notIn_tuple_reads r2 r1 (SeqAt.canLay_of_shaped se) (SeqAt.canLay_of_shaped sd) (PyProof.Rows.room_in_shaped sd hu) ⟨.bl _, H, I, rfl, q⟩
theorem any_dec {b : Bool} {d : D} : ∀ {xs : List D}, okD b dep d = true → xs.all (okD b dep) = true → ((xs.map (pyF dep)).any fun z => PyData.eqv z (pyF dep d)) = decide (d ∈ xs)
  | [], _, _ => by simp
  | x :: xs, h, h2 => by
    simp only [List.all_cons, Bool.and_eq_true] at h2
    rw [List.map_cons, List.any_cons, any_dec h h2.2, eqv_dec dep x d h2.1 h]
    by_cases e1 : x = d
    · simp [e1]
    · have : ¬ d = x := fun z => e1 z.symm
      by_cases e2 : d ∈ xs <;> simp [e1, e2, this]
theorem inB_fin {μ : Nat → Addr} {h h' : Hq} {H : Hp} {d e a : D} {x y : V} {g : Bool → Bool} {Q : VK} (rel : Rel X.K μ h H) (r1 : Rep μ h.length H d x) (r2 : Rep μ h.length H e y) (ef : ((inB h d e).map fun b => (D.bl (g b), h)) = some (a, h'))
    (k : ∀ μ' H' b, Stp h.length μ H h'.length μ' H' → Rel X.K μ' h' H' → Rep μ' h'.length H' a b → Q b H') :
    (∃ (c : Nat) (z : Str), x = .str ⟨#[c]⟩ ∧ y = .str z ∧ Q (.bl (g (decide (c ∈ z.cps.toList)))) H) ∨
    (∃ p qs, Dp X.K H x p ∧ Dp X.K H y (.list qs) ∧ SeqAt.shaped p = true ∧ SeqAt.shaped (.list qs) = true ∧ Q (.bl (g (qs.any fun z => PyData.eqv z p))) H) ∨
    ∃ p qs, Dp X.K H x p ∧ Dp X.K H y (.tuple qs) ∧ SeqAt.shaped p = true ∧ SeqAt.shaped (.tuple qs) = true ∧ Q (.bl (g (qs.any fun z => PyData.eqv z p))) H := by
  cases r2 with
  | str t =>
    simp only [inB] at ef
    split at ef
    · rename_i c
      cases r1
      cases ef
      exact .inl ⟨c, tx t, rfl, rfl, fin_same rel (.bl _) k⟩
    · cases ef
  | tup ha rs =>
    rename_i p xs vs
    simp only [inB] at ef
    cases ok : okB (d :: xs) with
    | false => rw [ok] at ef; simp at ef
    | true =>
      rw [ok] at ef
      simp only [if_true, Option.map_some, Option.some.injEq, Prod.mk.injEq] at ef
      obtain ⟨rfl, rfl⟩ := ef
      obtain ⟨b, q⟩ := okB_or ok
      simp only [List.all_cons, Bool.and_eq_true] at q
      refine .inr (.inr ⟨_, _, okD_dp _ _ _ r1 q.1, .tup (.of ha) (mapF_dp (okD_dp dep) rs q.2), okD_shaped q.1, (okL_shaped q.2).2, ?_⟩)
      rw [any_dec q.1 q.2]
      exact fin_same rel (.bl _) k
  | ref hn =>
    rename_i n
    simp only [inB] at ef
    cases em : mutL h (.ref n) with
    | none => rw [em] at ef; simp at ef
    | some xs =>
      rw [em] at ef
      simp only [Option.bind_some] at ef
      cases ok : okB (d :: xs) with
      | false => rw [ok] at ef; simp at ef
      | true =>
        rw [ok] at ef
        simp only [if_true, Option.map_some, Option.some.injEq, Prod.mk.injEq] at ef
        obtain ⟨rfl, rfl⟩ := ef
        obtain ⟨b, q⟩ := okB_or ok
        simp only [List.all_cons, Bool.and_eq_true] at q
        refine .inr (.inl ⟨_, _, okD_dp _ _ _ r1 q.1, dp_list rel (.ref hn) em q.2, okD_shaped q.1, (okL_shaped q.2).1, ?_⟩)
        rw [any_dec q.1 q.2]
        exact fin_same rel (.bl _) k
  | _ => cases ef
theorem o_in (hu : X.A.units + 65 < cLine) : OpR X (compareOp .In) (rD X.K inD) := rD_mk fun μ h H d e x y a h' Q rel r1 r2 ef k => by
  rcases inB_fin (g := fun b => b) rel r1 r2 ef k with q | q | q
  · exact ⟨_, op_in_sign, q⟩
  · exact ⟨_, op_inD hu, q⟩
  · exact ⟨_, op_inT hu, q⟩
theorem o_ni (hu : X.A.units + 65 < cLine) : OpR X (compareOp .NotIn) (rD X.K niD) := rD_mk fun μ h H d e x y a h' Q rel r1 r2 ef k => by
  rcases inB_fin (g := fun b => !b) rel r1 r2 ef k with q | q | q
  · exact ⟨_, op_notIn_sign, q⟩
  · exact ⟨_, op_notInD hu, q⟩
  · exact ⟨_, op_niT hu, q⟩
end
end Am

set_option Elab.async false
set_option linter.all false
set_option maxRecDepth 100000
set_option maxHeartbeats 2000000
namespace Am
open PySem L2
/-! ### tests -/
def eT (m : E) : EB := fun ρ h => (m ρ h).bind fun d h1 => match d with
  | .bl b => .ok b h1
  | _ => .bad
def bAnd (a b : EB) : EB := fun ρ h => (a ρ h).bind fun c h1 => if c then b ρ h1 else .ok false h1
def bOr (a b : EB) : EB := fun ρ h => (a ρ h).bind fun c h1 => if c then .ok true h1 else b ρ h1
def bNot (a : EB) : EB := fun ρ h => (a ρ h).bind fun c h1 => .ok (!c) h1
/-- a test's answer as a value -/
def eB (a : EB) : E := fun ρ h => (a ρ h).bind fun c h1 => .ok (.bl c) h1
def eIf (c : EB) (a b : E) : E := fun ρ h => (c ρ h).bind fun k h1 => if k then a ρ h1 else b ρ h1
/-- a comparison that goes on -/
def chK (g : Op2) (y : D) (c : E) (ρ : Ev) (h3 : Hq) : D → R D
  | .bl true => (c ρ h3).bind fun u h4 => .of (g y u h4)
  | .bl false => .ok (.bl false) h3
  | _ => .bad
def eChain (f g : Op2) (a b c : E) : E := fun ρ h => (a ρ h).bind fun x h1 => (b ρ h1).bind fun y h2 => (R.of (f x y h2)).bind fun z h3 => chK g y c ρ h3 z
def eNil : EA := fun _ h => .ok [] h
def eCons (a : E) (r : EA) : EA := fun ρ h => (a ρ h).bind fun x h1 => (r ρ h1).bind fun xs h2 => .ok (x :: xs) h2
def eTup (a : EA) : E := fun ρ h => (a ρ h).bind fun xs h1 => if xs.length ≤ lim then .ok (.tup xs) h1 else .bad
def eLst (a : EA) : E := fun ρ h => (a ρ h).bind fun xs h1 => .of (newL xs h1)
section
variable {X : Cx} {W : WX} {a b c : Expr} {ma mb mc : E} {ta tb : EB} {pos : Pos} {rest : List Expr}
theorem eT_val {m : E} {σ : St} {H : Hp} {Q : Bool → Hp → Prop} (q : tEB X.K W (eT m) σ H Q) : tE X.K W m σ H fun x H1 => ∃ k, x = .bl k ∧ Q k H1 := by
  obtain ⟨μ, h, ρ, rel, sr, g⟩ := q
  refine ⟨μ, h, ρ, rel, sr, G.imp (fun x H1 z => ?_) (G.bind (rp := rpD) g)⟩
  obtain ⟨μ1, d, h1, st1, rel1, r1, g1⟩ := z
  cases r1 with
  | bl b => exact ⟨b, rfl, g1 μ1 H1 b .refl rel1 rfl⟩
  | _ => exact g1.elim
theorem t_val (ha : PE X a (tE X.K W ma)) (he : ∀ whole, isTrue a X.env whole = (do let v ← whole; standAt a.pos; holding [v] (truthy v)) := by intro _; rfl) : PT X a (tEB X.K W (eT ma)) :=
  PT.imp (pt_val ha he) fun _ _ _ => eT_val
theorem t_cmp {op : CmpOp} {f : Op2} (ho : OpR X (compareOp op) (rD X.K f)) (ha : PE X a (tE X.K W ma)) (hb : PE X b (tE X.K W mb)) (hm : behindInMarks op b = false) : PT X (.Compare a [op] [b] pos) (tEB X.K W (eT (eBin f ma mb))) :=
  PT.imp (pt_cmpR ho ha hb hm) fun σ H Q q => eBin_of (eT_val q)
theorem bAnd_of {σ : St} {H : Hp} {Q : Bool → Hp → Prop} (q : tEB X.K W (bAnd ta tb) σ H Q) : tAnd (tEB X.K W ta) (tEB X.K W tb) σ H Q := by
  obtain ⟨μ, h, ρ, rel, sr, g⟩ := q
  refine ⟨μ, h, ρ, rel, sr, G.imp (fun x H1 z => ?_) (G.bind (rp := rpB) g)⟩
  obtain ⟨μ1, d, h1, st1, rel1, r1, g1⟩ := z
  have r1' : d = x := r1
  subst r1'
  cases d with
  | true => exact iteT ⟨μ1, h1, ρ, rel1, sr.mono st1, g1⟩
  | false => exact iteF (g1 μ1 H1 false .refl rel1 rfl)
theorem bOr_of {σ : St} {H : Hp} {Q : Bool → Hp → Prop} (q : tEB X.K W (bOr ta tb) σ H Q) : tOr (tEB X.K W ta) (tEB X.K W tb) σ H Q := by
  obtain ⟨μ, h, ρ, rel, sr, g⟩ := q
  refine ⟨μ, h, ρ, rel, sr, G.imp (fun x H1 z => ?_) (G.bind (rp := rpB) g)⟩
  obtain ⟨μ1, d, h1, st1, rel1, r1, g1⟩ := z
  have r1' : d = x := r1
  subst r1'
  cases d with
  | true => exact iteT (g1 μ1 H1 true .refl rel1 rfl)
  | false => exact iteF ⟨μ1, h1, ρ, rel1, sr.mono st1, g1⟩
theorem w_and1 (ha : PT X a (tEB X.K W ta)) : PW X (.BoolOp .And [a] pos) (tEB X.K W ta) := pw_and1 ha
theorem w_or1 (ha : PT X a (tEB X.K W ta)) : PW X (.BoolOp .Or [a] pos) (tEB X.K W ta) := pw_or1 ha
theorem w_and (ha : PT X a (tEB X.K W ta)) (hb : PW X (.BoolOp .And (b :: rest) pos) (tEB X.K W tb)) : PW X (.BoolOp .And (a :: b :: rest) pos) (tEB X.K W (bAnd ta tb)) :=
  PW.imp (pw_and ha hb) fun _ _ _ => bAnd_of
theorem w_or (ha : PT X a (tEB X.K W ta)) (hb : PW X (.BoolOp .Or (b :: rest) pos) (tEB X.K W tb)) : PW X (.BoolOp .Or (a :: b :: rest) pos) (tEB X.K W (bOr ta tb)) :=
  PW.imp (pw_or ha hb) fun _ _ _ => bOr_of
theorem t_w {e : Expr} (h : PW X e (tEB X.K W ta)) : PT X e (tEB X.K W ta) := h.pt
theorem t_not (ha : PT X a (tEB X.K W ta)) : PT X (.UnaryOp .Not a pos) (tEB X.K W (bNot ta)) :=
  PT.imp (pt_not ha) fun σ H Q q => by
    obtain ⟨μ, h, ρ, rel, sr, g⟩ := q
    refine ⟨μ, h, ρ, rel, sr, G.imp (fun x H1 z => ?_) (G.bind (rp := rpB) g)⟩
    obtain ⟨μ1, d, h1, st1, rel1, r1, g1⟩ := z
    have r1' : d = x := r1
    subst r1'
    exact g1 μ1 H1 _ .refl rel1 rfl
/-- values of tests -/
theorem eB_of {σ : St} {H : Hp} {Q : VK} {t : EB} (q : tE X.K W (eB t) σ H Q) : tEB X.K W t σ H fun k H1 => Q (.bl k) H1 := by
  obtain ⟨μ, h, ρ, rel, sr, g⟩ := q
  refine ⟨μ, h, ρ, rel, sr, G.imp (fun x H1 z => ?_) (G.bind (rp := rpB) g)⟩
  obtain ⟨μ1, d, h1, st1, rel1, r1, g1⟩ := z
  have r1' : d = x := r1
  subst r1'
  exact g1 μ1 H1 _ .refl rel1 (.bl _)
/-- an and, or, not as a value: its operands as values that are bools -/
theorem b_one {op} (ha : PE X a (tE X.K W (eB ta))) : PE X (.BoolOp op [a] pos) (tE X.K W (eB ta)) := pe_one ha
theorem b_and (ha : PE X a (tE X.K W (eB ta))) (hb : PE X (.BoolOp .And (b :: rest) pos) (tE X.K W (eB tb))) : PE X (.BoolOp .And (a :: b :: rest) pos) (tE X.K W (eB (bAnd ta tb))) :=
  PE.imp (pe_and ha hb) fun σ H Q q => by
    obtain ⟨μ, h, ρ, rel, sr, g⟩ := q
    have g' : G X.K W σ h.length μ H rpD ((ta ρ h).bind fun c h1 => (if c then tb ρ h1 else R.ok false h1).bind fun c h1 => .ok (.bl c) h1) Q := by
      cases e : ta ρ h with
      | ok c h1 => unfold eB bAnd at g; rw [e] at g; exact g
      | exc c fs h1 => unfold eB bAnd at g; rw [e] at g; exact g
      | bad => unfold eB bAnd at g; rw [e] at g; exact g
    refine ⟨μ, h, ρ, rel, sr, ?_⟩
    cases e : ta ρ h with
    | ok c h1 =>
      rw [e] at g'
      unfold eB
      rw [e]
      intro μ' H' v st rel' rv
      cases rv
      refine ⟨c, rfl, ?_⟩
      cases c with
      | true => exact iteT ⟨μ', h1, ρ, rel', sr.mono st, G.lift st g'⟩
      | false => exact iteF (g' μ' H' _ st rel' (.bl _))
    | exc c fs h1 => rw [e] at g'; unfold eB; rw [e]; exact g'
    | bad => rw [e] at g'; exact g'.elim
theorem b_or (ha : PE X a (tE X.K W (eB ta))) (hb : PE X (.BoolOp .Or (b :: rest) pos) (tE X.K W (eB tb))) : PE X (.BoolOp .Or (a :: b :: rest) pos) (tE X.K W (eB (bOr ta tb))) :=
  PE.imp (pe_or ha hb) fun σ H Q q => by
    obtain ⟨μ, h, ρ, rel, sr, g⟩ := q
    have g' : G X.K W σ h.length μ H rpD ((ta ρ h).bind fun c h1 => (if c then R.ok true h1 else tb ρ h1).bind fun c h1 => .ok (.bl c) h1) Q := by
      cases e : ta ρ h with
      | ok c h1 => unfold eB bOr at g; rw [e] at g; exact g
      | exc c fs h1 => unfold eB bOr at g; rw [e] at g; exact g
      | bad => unfold eB bOr at g; rw [e] at g; exact g
    refine ⟨μ, h, ρ, rel, sr, ?_⟩
    cases e : ta ρ h with
    | ok c h1 =>
      rw [e] at g'
      unfold eB
      rw [e]
      intro μ' H' v st rel' rv
      cases rv
      refine ⟨c, rfl, ?_⟩
      cases c with
      | true => exact iteT (g' μ' H' _ st rel' (.bl _))
      | false => exact iteF ⟨μ', h1, ρ, rel', sr.mono st, G.lift st g'⟩
    | exc c fs h1 => rw [e] at g'; unfold eB; rw [e]; exact g'
    | bad => rw [e] at g'; exact g'.elim
/-- a value that is a bool -/
theorem b_isB (ha : PE X a (tE X.K W ma)) : PE X a (tE X.K W (eB (eT ma))) :=
  PE.imp ha fun σ H Q q => by
    obtain ⟨μ, h, ρ, rel, sr, g⟩ := q
    refine ⟨μ, h, ρ, rel, sr, ?_⟩
    unfold eB eT at g
    cases e : ma ρ h with
    | ok d h1 =>
      rw [e] at g
      cases d with
      | bl b => exact g
      | _ => exact g.elim
    | exc c fs h1 => rw [e] at g; exact g
    | bad => rw [e] at g; exact g
theorem b_not (ha : PE X a (tE X.K W (eB ta))) : PE X (.UnaryOp .Not a pos) (tE X.K W (eB (bNot ta))) :=
  PE.imp (pe_not ha) fun σ H Q q => by
    obtain ⟨μ, h, ρ, rel, sr, g⟩ := q
    refine ⟨μ, h, ρ, rel, sr, ?_⟩
    unfold eB bNot at g
    unfold eB
    cases e : ta ρ h with
    | ok c h1 =>
      rw [e] at g
      intro μ' H' v st rel' rv
      cases rv
      exact ⟨c, rfl, g μ' H' _ st rel' (.bl _)⟩
    | exc c fs h1 => rw [e] at g; exact g
    | bad => rw [e] at g; exact g
theorem b_if {c : Expr} (hc : PT X c (tEB X.K W ta)) (ha : PE X a (tE X.K W ma)) (hb : PE X b (tE X.K W mb)) : PE X (.IfExp c a b pos) (tE X.K W (eIf ta ma mb)) :=
  PE.imp (pe_ifExp hc ha hb) fun σ H Q q => by
    obtain ⟨μ, h, ρ, rel, sr, g⟩ := q
    refine ⟨μ, h, ρ, rel, sr, G.imp (fun x H1 z => ?_) (G.bind (rp := rpB) g)⟩
    obtain ⟨μ1, d, h1, st1, rel1, r1, g1⟩ := z
    have r1' : d = x := r1
    subst r1'
    cases d with
    | true => exact iteT ⟨μ1, h1, ρ, rel1, sr.mono st1, g1⟩
    | false => exact iteF ⟨μ1, h1, ρ, rel1, sr.mono st1, g1⟩
theorem eChain_of {f g : Op2} {σ : St} {H : Hp} {Q : VK} (q : tE X.K W (eChain f g ma mb mc) σ H Q) : tChain (rD X.K f) (rD X.K g) (tE X.K W ma) (tE X.K W mb) (tE X.K W mc) σ H Q := by
  obtain ⟨μ, h, ρ, rel, sr, gg⟩ := q
  refine ⟨μ, h, ρ, rel, sr, G.imp (fun x H1 z => ?_) (G.bind (rp := rpD) gg)⟩
  obtain ⟨μ1, d1, h1, st1, rel1, r1, g1⟩ := z
  refine ⟨μ1, h1, ρ, rel1, sr.mono st1, G.imp (fun y H2 z => ?_) (G.bind (rp := rpD) g1)⟩
  obtain ⟨μ2, d2, h2, st2, rel2, r2, g2⟩ := z
  refine ⟨μ2, h2, d1, d2, rel2, r1.mono st2, r2, ?_⟩
  cases ef : f d1 d2 h2 with
  | none => rw [ef] at g2; exact g2.elim
  | some z =>
    obtain ⟨d3, h3⟩ := z
    rw [ef] at g2
    refine ⟨d3, h3, rfl, fun μ3 H3 v3 st3 rel3 r3 => ?_⟩
    have g3 := G.lift st3 (show G X.K W σ h2.length μ2 H2 rpD (chK g d2 mc ρ h3 d3) Q from g2)
    cases r3 with
    | bl k =>
      refine ⟨k, rfl, ?_⟩
      cases k with
      | true =>
        refine iteT ⟨μ3, h3, ρ, rel3, (sr.mono (st1.trans st2)).mono st3, G.imp (fun u H4 z => ?_) (G.bind (rp := rpD) g3)⟩
        obtain ⟨μ4, d4, h4, st4, rel4, r4, g4⟩ := z
        refine ⟨μ4, h4, d2, d4, rel4, (r2.mono st3).mono st4, r4, ?_⟩
        cases eg : g d2 d4 h4 with
        | none => rw [eg] at g4; exact g4.elim
        | some z => rw [eg] at g4; exact ⟨_, _, rfl, g4⟩
      | false => exact iteF (g3 μ3 H3 _ .refl rel3 (.bl _))
    | _ => exact g3.elim
theorem b_chain {op op' : CmpOp} {f g : Op2} (ho : OpR X (compareOp op) (rD X.K f)) (ho' : OpR X (compareOp op') (rD X.K g)) (ha : PE X a (tE X.K W ma)) (hb : PE X b (tE X.K W mb)) (hc : PE X c (tE X.K W mc))
    (hm : lastMarks [op, op'] [b, c] = false := by rfl) : PE X (.Compare a [op, op'] [b, c] pos) (tE X.K W (eChain f g ma mb mc)) :=
  PE.imp (pe_chain ho ho' ha hb hc hm) fun _ _ _ => eChain_of
/-! ### arguments, displays -/
theorem a_nil : PA X [] (tEA X.K W eNil) := PA.imp pa_nil fun σ H Q ⟨μ, h, ρ, rel, sr, g⟩ => g μ H [] .refl rel .nil
theorem a_cons {e : Expr} {es : List Expr} {me : E} {mr : EA} (ha : PE X e (tE X.K W me)) (hr : PA X es (tEA X.K W mr)) (hs : starEach (e :: es) X.env = (false, eval e X.env) :: starEach es X.env := by rfl) : PA X (e :: es) (tEA X.K W (eCons me mr)) :=
  PA.imp (pa_cons ha hr hs) fun σ H Q q => by
    obtain ⟨μ, h, ρ, rel, sr, g⟩ := q
    refine ⟨μ, h, ρ, rel, sr, G.imp (fun x H1 z => ?_) (G.bind (rp := rpD) g)⟩
    obtain ⟨μ1, d, h1, st1, rel1, r1, g1⟩ := z
    refine ⟨μ1, h1, ρ, rel1, sr.mono st1, G.imp (fun y H2 z => ?_) (G.bind (rp := rpL) g1)⟩
    obtain ⟨μ2, e, h2, st2, rel2, r2, g2⟩ := z
    exact g2 μ2 H2 _ .refl rel2 (.cons (r1.mono st2) r2)
theorem b_tup {es : List Expr} {x1} {m : EA} (h : PA X es (tEA X.K W m)) : PE X (.Tuple es x1 pos) (tE X.K W (eTup m)) :=
  PE.imp (pe_tup h) fun σ H Q q => by
    obtain ⟨μ, h, ρ, rel, sr, g⟩ := q
    refine ⟨μ, h, ρ, rel, sr, G.imp (fun x H1 z => ?_) (G.bind (rp := rpL) g)⟩
    obtain ⟨μ1, ds, h1, st1, rel1, r1, g1⟩ := z
    by_cases hz : ds.length ≤ lim
    · rw [if_pos hz] at g1
      exact ⟨by rw [lim_eq, ← r1.length]; exact hz, fun p hp => fin_tup rel1 r1 hp g1⟩
    · rw [if_neg hz] at g1
      exact g1.elim
theorem b_lst {es : List Expr} {m : EA} (h : PA X es (tEA X.K W m)) : PE X (.List es pos) (tE X.K W (eLst m)) :=
  PE.imp (pe_lst h) fun σ H Q q => by
    obtain ⟨μ, h, ρ, rel, sr, g⟩ := q
    refine ⟨μ, h, ρ, rel, sr, G.imp (fun x H1 z => ?_) (G.bind (rp := rpL) g)⟩
    obtain ⟨μ1, ds, h1, st1, rel1, r1, g1⟩ := z
    cases e : newL ds h1 with
    | none => rw [e] at g1; exact g1.elim
    | some z =>
      obtain ⟨a, h'⟩ := z
      rw [e] at g1
      exact fin_list rel1 r1 e g1
end
end Am

set_option Elab.async false
set_option linter.all false
set_option maxRecDepth 100000
set_option maxHeartbeats 2000000
namespace Am
open PySem L2
inductive RS where
  | nx (ρ : Ev) (h : Hq) | rt (d : D) (h : Hq) | bk (ρ : Ev) (h : Hq) | ct (ρ : Ev) (h : Hq) | exc (c : String) (fs : List (String × D)) (ρ : Ev) (h : Hq) | bad
abbrev S := Ev → Hq → RS
/-- an expression's way out as a statement's -/
def R.st {α : Type} (r : R α) (ρ : Ev) (k : α → Hq → RS) : RS := match r with
  | .ok a h => k a h
  | .exc c fs h => .exc c fs ρ h
  | .bad => .bad
def GS (K : PySem.W.Frag) (W : WX) (N : Nat) (μ : Nat → Addr) (H : Hp) (r : RS) (Dn : Ends) : Prop := match r with
  | .nx ρ' h' => ∀ μ' H' σ', Stp N μ H h'.length μ' H' → Rel K μ' h' H' → SRep μ' h'.length H' ρ' σ' → Dn.nx σ' H'
  | .bk ρ' h' => ∀ μ' H' σ', Stp N μ H h'.length μ' H' → Rel K μ' h' H' → SRep μ' h'.length H' ρ' σ' → Dn.bk σ' H'
  | .ct ρ' h' => ∀ μ' H' σ', Stp N μ H h'.length μ' H' → Rel K μ' h' H' → SRep μ' h'.length H' ρ' σ' → Dn.ct σ' H'
  | .rt d h' => ∀ μ' H' v, Stp N μ H h'.length μ' H' → Rel K μ' h' H' → Rep μ' h'.length H' d v → Dn.rt v H'
  | .exc c fs ρ' h' => ∀ μ' H' σ' cls dp, Stp N μ H h'.length μ' H' → Rel K μ' h' H' → SRep μ' h'.length H' ρ' σ' → XRep K μ' h'.length H' c fs cls dp → W cls dp σ' H'
  | .bad => False
def tS (K : PySem.W.Frag) (W : WX) (m : S) : TS := fun Dn σ H => ∃ μ h ρ, Rel K μ h H ∧ SRep μ h.length H ρ σ ∧ GS K W h.length μ H (m ρ h) Dn
section
variable {K : PySem.W.Frag} {W : WX} {σ : St} {N N1 : Nat} {μ μ1 : Nat → Addr} {H H1 : Hp} {α β : Type} {rp : RpT α β}
theorem GS.lift {r : RS} {Dn : Ends} (st : Stp N μ H N1 μ1 H1) (g : GS K W N μ H r Dn) : GS K W N1 μ1 H1 r Dn := by
  cases r with
  | nx ρ h => exact fun μ' H' s a => g μ' H' s (st.trans a)
  | bk ρ h => exact fun μ' H' s a => g μ' H' s (st.trans a)
  | ct ρ h => exact fun μ' H' s a => g μ' H' s (st.trans a)
  | rt d h => exact fun μ' H' s a => g μ' H' s (st.trans a)
  | exc c fs ρ h => exact fun μ' H' s x y a => g μ' H' s x y (st.trans a)
  | bad => exact g
theorem GS.st {r : R α} {k : α → Hq → RS} {ρ : Ev} {h : Hq} {Dn : Ends} (sr : SRep μ N H ρ σ) (g : GS K W N μ H (r.st ρ k) Dn) :
    G K W σ N μ H rp r (fun b H1 => ∃ μ1 a h1, Stp N μ H h1.length μ1 H1 ∧ Rel K μ1 h1 H1 ∧ rp μ1 h1.length H1 a b ∧ SRep μ1 h1.length H1 ρ σ ∧ GS K W h1.length μ1 H1 (k a h1) Dn) := by
  cases r with
  | ok a h1 => exact fun μ' H' b s x y => ⟨μ', a, h1, s, x, y, sr.mono s, GS.lift s g⟩
  | exc c fs h1 => exact fun μ' H' cls dp s x y => g μ' H' σ cls dp s x (sr.mono s) y
  | bad => exact g
end
theorem PS.imp {X : Cx} {e : Stmt} {t t' : TS} (h : PS X e t) (k : ∀ D σ H, t' D σ H → t D σ H) : PS X e t' := ⟨fun pins s σ H D I q => h.run pins s σ H D I (k D σ H q)⟩
theorem PSs.imp {X : Cx} {e : List Stmt} {t t' : TS} (h : PSs X e t) (k : ∀ D σ H, t' D σ H → t D σ H) : PSs X e t' := ⟨fun pins s σ H D I q => h.run pins s σ H D I (k D σ H q)⟩
theorem PG.imp {X : Cx} {e : Expr} {t t' : TG} (h : PG X e t) (k : ∀ v σ H Q, t' v σ H Q → t v σ H Q) : PG X e t' := ⟨fun pins s σ H v u Q I r q => h.run pins s σ H v u Q I r (k v σ H Q q)⟩
theorem PGs.imp {X : Cx} {e : List Expr} {t t' : TGs} (h : PGs X e t) (k : ∀ v σ H Q, t' v σ H Q → t v σ H Q) : PGs X e t' := ⟨fun pins s σ H v u Q I r q => h.run pins s σ H v u Q I r (k v σ H Q q)⟩
/-! ### statements -/
def sNil : S := .nx
def sSeq (a b : S) : S := fun ρ h => match a ρ h with
  | .nx ρ' h' => b ρ' h'
  | r => r
def sBrk : S := .bk
def sCnt : S := .ct
def sExp (e : E) : S := fun ρ h => (e ρ h).st ρ fun _ h1 => .nx ρ h1
def sRet (e : E) : S := fun ρ h => (e ρ h).st ρ fun d h1 => .rt d h1
def sRetN : S := fun _ h => .rt .non h
def sIf (c : EB) (a b : S) : S := fun ρ h => (c ρ h).st ρ fun k h1 => if k then a ρ h1 else b ρ h1
/-- a target -/
abbrev T := D → Ev → Hq → Option (Ev × Hq)
def gNm (i : Nat) : T := fun d ρ h => some (ρ.set i (some d), h)
def gAll : List T → List D → Ev → Hq → Option (Ev × Hq)
  | [], [], ρ, h => some (ρ, h)
  | t :: ts, d :: ds, ρ, h => (t d ρ h).bind fun p => gAll ts ds p.1 p.2
  | _, _, _, _ => none
def gTp (ts : List T) : T := fun d ρ h => match d with
  | .tup xs => gAll ts xs ρ h
  | _ => none
def goT (o : Option (Ev × Hq)) (k : Ev → Hq → RS) : RS := match o with
  | some (ρ, h) => k ρ h
  | none => .bad
def sAsg (e : E) (g : T) : S := fun ρ h => (e ρ h).st ρ fun d h1 => goT (g d ρ h1) .nx
/-- a target's reading -/
def tT (K : PySem.W.Frag) (g : T) : TG := fun v σ H Q => ∃ μ h ρ d ρ' h', Rel K μ h H ∧ SRep μ h.length H ρ σ ∧ Rep μ h.length H d v ∧ g d ρ h = some (ρ', h') ∧
  ∀ μ' H' σ', Stp h.length μ H h'.length μ' H' → Rel K μ' h' H' → SRep μ' h'.length H' ρ' σ' → Q σ' H'
def tTs (K : PySem.W.Frag) (gs : List T) : TGs := fun vs σ H Q => ∃ μ h ρ ds ρ' h', Rel K μ h H ∧ SRep μ h.length H ρ σ ∧ Reps μ h.length H ds vs ∧ gAll gs ds ρ h = some (ρ', h') ∧
  ∀ μ' H' σ', Stp h.length μ H h'.length μ' H' → Rel K μ' h' H' → SRep μ' h'.length H' ρ' σ' → Q σ' H'
section
variable {X : Cx} {W : WX} {pos : Pos} {st : Stmt} {rest : List Stmt} {ms mr : S}
theorem ss_nil : PSs X [] (tS X.K W sNil) := PSs.imp pss_nil fun D σ H ⟨μ, h, ρ, rel, sr, g⟩ => g μ H σ .refl rel sr
theorem sSeq_of {D : Ends} {σ : St} {H : Hp} (q : tS X.K W (sSeq ms mr) D σ H) : tSeq (tS X.K W ms) (tS X.K W mr) D σ H := by
  obtain ⟨μ, h, ρ, rel, sr, g⟩ := q
  refine ⟨μ, h, ρ, rel, sr, ?_⟩
  unfold sSeq at g
  cases e : ms ρ h with
  | nx ρ' h' =>
    rw [e] at g
    exact fun μ' H' σ' st rel' sr' => ⟨μ', h', ρ', rel', sr', GS.lift st g⟩
  | bk ρ' h' => rw [e] at g; exact g
  | ct ρ' h' => rw [e] at g; exact g
  | rt d h' => rw [e] at g; exact g
  | exc c fs ρ' h' => rw [e] at g; exact g
  | bad => rw [e] at g; exact g
theorem ss_cons (h1 : PS X st (tS X.K W ms)) (h2 : PSs X rest (tS X.K W mr)) : PSs X (st :: rest) (tS X.K W (sSeq ms mr)) := PSs.imp (pss_cons h1 h2) fun _ _ _ => sSeq_of
theorem ss_one (h1 : PS X st (tS X.K W ms)) : PSs X [st] (tS X.K W ms) := pss_one h1
theorem s_pass : PS X (.Pass pos) (tS X.K W sNil) := PS.imp ps_pass fun D σ H ⟨μ, h, ρ, rel, sr, g⟩ => g μ H σ .refl rel sr
theorem s_brk : PS X (.Break pos) (tS X.K W sBrk) := PS.imp ps_break fun D σ H ⟨μ, h, ρ, rel, sr, g⟩ => g μ H σ .refl rel sr
theorem s_cnt : PS X (.Continue pos) (tS X.K W sCnt) := PS.imp ps_continue fun D σ H ⟨μ, h, ρ, rel, sr, g⟩ => g μ H σ .refl rel sr
variable {e : Expr} {me : E}
theorem s_exp (he : PE X e (tE X.K W me)) (hs : swapsWith e none pos.line X.env = pure false := by rfl) : PS X (.Expr e pos) (tS X.K W (sExp me)) :=
  PS.imp (ps_expr he hs) fun D σ H ⟨μ, h, ρ, rel, sr, g⟩ => ⟨μ, h, ρ, rel, sr, G.imp (fun x H1 z => by
    obtain ⟨μ1, d, h1, st1, rel1, r1, sr1, g1⟩ := z
    exact g1 μ1 H1 σ .refl rel1 sr1) (GS.st (rp := rpD) (h := h) sr g)⟩
theorem s_ret (he : PE X e (tE X.K W me)) : PS X (.Return (some e) pos) (tS X.K W (sRet me)) :=
  PS.imp (ps_ret he) fun D σ H ⟨μ, h, ρ, rel, sr, g⟩ => ⟨μ, h, ρ, rel, sr, G.imp (fun x H1 z => by
    obtain ⟨μ1, d, h1, st1, rel1, r1, sr1, g1⟩ := z
    exact g1 μ1 H1 x .refl rel1 r1) (GS.st (rp := rpD) (h := h) sr g)⟩
theorem s_retN : PS X (.Return none pos) (tS X.K W sRetN) := PS.imp ps_retN fun D σ H ⟨μ, h, ρ, rel, sr, g⟩ => g μ H .non .refl rel .non
theorem s_if {c : Expr} {a b : List Stmt} {mc : EB} {ma mb : S} (hc : PT X c (tEB X.K W mc)) (ha : PSs X a (tS X.K W ma)) (hb : PSs X b (tS X.K W mb)) : PS X (.If c a b pos) (tS X.K W (sIf mc ma mb)) :=
  PS.imp (ps_if hc ha hb) fun D σ H ⟨μ, h, ρ, rel, sr, g⟩ => ⟨μ, h, ρ, rel, sr, G.imp (fun x H1 z => by
    obtain ⟨μ1, d, h1, st1, rel1, r1, sr1, g1⟩ := z
    have r1' : d = x := r1
    subst r1'
    cases d with
    | true => exact iteT ⟨μ1, h1, ρ, rel1, sr1, g1⟩
    | false => exact iteF ⟨μ1, h1, ρ, rel1, sr1, g1⟩) (GS.st (rp := rpB) (h := h) sr g)⟩
/-! ### targets -/
theorem g_nm (i : Nat) {x : Str} (hN : X.N.Nodup) (hi : X.N[i]? = some x := by rfl) (hx : Loc X.env.scope x := by first | exact Or.inl rfl | exact Or.inr rfl) (hf : X.fn x = true ∨ X.env.scope.names.lookup x = some .local := by first | exact .inl rfl | exact .inr rfl) :
    PG X (.Name x pos) (tT X.K (gNm i)) := PG.imp (pg_name hN hi hx hf) fun v σ H Q ⟨μ, h, ρ, d, ρ', h', rel, sr, r, eg, k⟩ => by
  cases eg
  exact k μ H _ .refl rel (sr.set r i)
theorem gs_nil : PGs X [] (tTs X.K []) := PGs.imp pgs_nil fun vs σ H Q ⟨μ, h, ρ, ds, ρ', h', rel, sr, r, eg, k⟩ => by
  cases r with
  | nil => cases eg; exact ⟨rfl, k μ H _ .refl rel sr⟩
  | cons _ _ => cases eg
theorem gs_cons {e : Expr} {es : List Expr} {t : T} {ts : List T} (h1 : PG X e (tT X.K t)) (h2 : PGs X es (tTs X.K ts)) (hs : (assignEach (e :: es) X.env).map (·.2) = assign e X.env :: (assignEach es X.env).map (·.2) := by rfl) : PGs X (e :: es) (tTs X.K (t :: ts)) :=
  PGs.imp (pgs_cons h1 h2 hs) fun vs σ H Q ⟨μ, h, ρ, ds, ρ', h', rel, sr, r, eg, k⟩ => by
    cases r with
    | nil => cases eg
    | @cons d v ds vs r1 rs =>
      refine ⟨v, vs, rfl, ?_⟩
      simp only [gAll] at eg
      cases q : t d ρ h with
      | none => rw [q] at eg; cases eg
      | some p =>
        obtain ⟨ρ1, h1⟩ := p
        rw [q] at eg
        refine ⟨μ, h, ρ, d, ρ1, h1, rel, sr, r1, q, fun μ1 H1 σ1 st1 rel1 sr1 => ⟨μ1, h1, ρ1, ds, ρ', h', rel1, sr1, rs.mono st1, eg, fun μ2 H2 σ2 st2 => k μ2 H2 σ2 (st1.trans st2)⟩⟩
theorem gAll_len : ∀ {ts : List T} {ds : List D} {ρ : Ev} {h : Hq} {p : Ev × Hq}, gAll ts ds ρ h = some p → ds.length = ts.length
  | [], [], _, _, _, _ => rfl
  | t :: ts, d :: ds, ρ, h, p, e => by
    simp only [gAll] at e
    cases q : t d ρ h with
    | none => rw [q] at e; cases e
    | some z =>
      rw [q] at e
      simp [gAll_len (show gAll ts ds z.1 z.2 = some p from e)]
  | [], _ :: _, _, _, _, e => by cases e
  | _ :: _, [], _, _, _, e => by cases e
theorem g_tp {es : List Expr} {k : Nat} {ts : List T} (hc : X.calm = true) (h : PGs X es (tTs X.K ts)) (hn : (assignEach es X.env).length = ts.length := by rfl) (hst : (assignEach es X.env).findIdx? (·.1) = none := by rfl) :
    PG X (.Tuple es k pos) (tT X.K (gTp ts)) :=
  PG.imp (pg_tup (n := ts.length) hc h hn hst) fun v σ H Q ⟨μ, h, ρ, d, ρ', h', rel, sr, r, eg, k⟩ => by
    cases r with
    | @tup a xs vs ha rs =>
      exact ⟨a, vs, rfl, .of ha, by rw [← rs.length]; exact gAll_len (show gAll ts xs ρ h = some (ρ', h') from eg), μ, h, ρ, xs, ρ', h', rel, sr, rs, eg, k⟩
    | _ => cases eg
theorem s_asg {tg e : Expr} {me : E} {g : T} (he : PE X e (tE X.K W me)) (hg : PG X tg (tT X.K g)) (hs : swapsWithSole [tg] e pos.line X.env = pure false := by rfl) (hw : swappedStores [tg] e X.env = pure none := by rfl)
    (h1 : (assignEach [tg] X.env).map (·.2) = [assign tg X.env] := by rfl) : PS X (.Assign [tg] e pos) (tS X.K W (sAsg me g)) :=
  PS.imp (ps_asg he hg hs hw h1) fun D σ H ⟨μ, h, ρ, rel, sr, gg⟩ => ⟨μ, h, ρ, rel, sr, G.imp (fun x H1 z => by
    obtain ⟨μ1, d, h1, st1, rel1, r1, sr1, g1⟩ := z
    cases q : g d ρ h1 with
    | none => rw [q] at g1; exact g1.elim
    | some p =>
      obtain ⟨ρ', h'⟩ := p
      rw [q] at g1
      exact ⟨μ1, h1, ρ, d, ρ', h', rel1, sr1, r1, q, g1⟩) (GS.st (rp := rpD) (h := h) sr gg)⟩
theorem s_set (i : Nat) {x : Str} {e : Expr} {me : E} {pos' : Pos} (he : PE X e (tE X.K W me)) (hN : X.N.Nodup) (hi : X.N[i]? = some x := by rfl) (hx : Loc X.env.scope x := by first | exact Or.inl rfl | exact Or.inr rfl)
    (hs : swapsWith e (some (.Name x pos')) pos.line X.env = pure false := by rfl) (hf : X.fn x = true ∨ X.env.scope.names.lookup x = some .local := by first | exact .inl rfl | exact .inr rfl) :
    PS X (.Assign [.Name x pos'] e pos) (tS X.K W (sAsg me (gNm i))) :=
  PS.imp (ps_set hN hi hx he hs hf) fun D σ H ⟨μ, h, ρ, rel, sr, gg⟩ => ⟨μ, h, ρ, rel, sr, G.imp (fun x H1 z => by
    obtain ⟨μ1, d, h1, st1, rel1, r1, sr1, g1⟩ := z
    exact g1 μ1 H1 _ .refl rel1 (sr1.set r1 i)) (GS.st (rp := rpD) (h := h) sr gg)⟩
/-! ### while -/
def whN (c : EB) (b : S) : Nat → S
  | 0, _, _ => .bad
  | n + 1, ρ, h => (c ρ h).st ρ fun k h1 => if k then (match b ρ h1 with
    | .nx ρ' h' => whN c b n ρ' h'
    | .ct ρ' h' => whN c b n ρ' h'
    | .bk ρ' h' => .nx ρ' h'
    | r => r) else .nx ρ h1
abbrev fuel : Nat := 1000000000
def sWh (c : EB) (b : S) : S := whN c b fuel
theorem s_wh {c : Expr} {body : List Stmt} {mc : EB} {mb : S} (hp : PassesOwn (model X.prog X.w) X.A X.env X.xe) (hc : PT X c (tEB X.K W mc)) (hb : PSs X body (tS X.K W mb)) : PS X (.While c body [] pos) (tS X.K W (sWh mc mb)) :=
  PS.imp (ps_while hp hc hb) fun D σ H ⟨μ, h, ρ, rel, sr, g⟩ => by
    refine ⟨fun m σ H => ∃ μ h ρ, Rel X.K μ h H ∧ SRep μ h.length H ρ σ ∧ GS X.K W h.length μ H (whN mc mb m ρ h) D, ⟨fuel, μ, h, ρ, rel, sr, g⟩, ?_⟩
    rintro m σ H ⟨μ, h, ρ, rel, sr, g⟩
    cases m with
    | zero => exact g.elim
    | succ m =>
      refine ⟨μ, h, ρ, rel, sr, G.imp (fun x H1 z => ?_) (GS.st (rp := rpB) (h := h) sr g)⟩
      obtain ⟨μ1, d, h1, st1, rel1, r1, sr1, g1⟩ := z
      have r1' : d = x := r1
      subst r1'
      cases d with
      | false => exact iteF (g1 μ1 H1 σ .refl rel1 sr1)
      | true =>
        refine iteT ⟨fun σ H => ∃ μ h ρ, Rel X.K μ h H ∧ SRep μ h.length H ρ σ ∧ GS X.K W h.length μ H (whN mc mb m ρ h) D, fun σ' H' z => ⟨m, Nat.lt_succ_self _, z⟩, μ1, h1, ρ, rel1, sr1, ?_⟩
        simp only [if_true] at g1
        cases e : mb ρ h1 with
        | nx ρ' h' =>
          rw [e] at g1
          exact fun μ' H' σ' st rel' sr' => ⟨μ', h', ρ', rel', sr', GS.lift st g1⟩
        | ct ρ' h' =>
          rw [e] at g1
          exact fun μ' H' σ' st rel' sr' => ⟨μ', h', ρ', rel', sr', GS.lift st g1⟩
        | bk ρ' h' => rw [e] at g1; exact g1
        | rt d h' => rw [e] at g1; exact g1
        | exc c fs ρ' h' => rw [e] at g1; exact g1
        | bad => rw [e] at g1; exact g1
end
end Am

set_option Elab.async false
set_option linter.all false
set_option maxRecDepth 100000
set_option maxHeartbeats 2000000
namespace Am
open PySem L2
/-! ### what is walked -/
abbrev Wk := List D × (Hq → Bool)
def GoodIt (K : PySem.W.Frag) (N0 : Nat) (μ0 : Nat → Addr) (H0 : Hp) (p : Wk) (J : It) : Prop :=
  ∀ μ h H, Stp N0 μ0 H0 h.length μ H → Rel K μ h H → p.2 h = true → ∀ i,
    (∀ d, p.1[i]? = some d → J.go i H ∧ ∀ x H', J.yld i H x H' → Stp h.length μ H h.length μ H' ∧ Rel K μ h H' ∧ Rep μ h.length H' d x) ∧ (p.1.length ≤ i → J.stop i H)
abbrev rpI (K : PySem.W.Frag) : RpT Wk It := fun μ N H p J => GoodIt K N μ H p J
abbrev EI := Ev → Hq → R Wk
def tI (K : PySem.W.Frag) (W : WX) (m : EI) : TI := fun σ H Rr => ∃ μ h ρ, Rel K μ h H ∧ SRep μ h.length H ρ σ ∧ G K W σ h.length μ H (rpI K) (m ρ h) Rr
theorem PI.imp {X : Cx} {tg e : Expr} {t t' : TI} (h : PI X tg e t) (k : ∀ σ H Q, t' σ H Q → t σ H Q) : PI X tg e t' := ⟨fun pins s σ H Q I q => h.run pins s σ H Q I (k σ H Q q)⟩
def wkD (h : Hq) : D → Option Wk
  | .tup xs => some (xs, fun _ => true)
  | .str s => some (s.map fun c => .str [c], fun _ => true)
  | .ref n => match lstOf h (.ref n) with
    | some xs => some (xs, fun h' => decide (lstOf h' (.ref n) = some xs))
    | none => none
  | _ => none
def iAny (e : E) : EI := fun ρ h => (e ρ h).bind fun d h1 => match wkD h1 d with
  | some p => .ok p h1
  | none => .bad
def iRn1 (a : E) : EI := fun ρ h => (a ρ h).bind fun d h1 => match d with
  | .int n => if n < 2 ^ 62 ∧ -(2 ^ 62) ≤ n then .ok ((List.range n.toNat).map fun (i : Nat) => D.int (i : Int), fun _ => true) h1 else .bad
  | _ => .bad
def iRn2 (a b : E) : EI := fun ρ h => (a ρ h).bind fun d h1 => (b ρ h1).bind fun e h2 => match d, e with
  | .int m, .int n => if (m < 2 ^ 62 ∧ -(2 ^ 62) ≤ m) ∧ n < 2 ^ 62 ∧ -(2 ^ 62) ≤ n then .ok ((List.range (n - m).toNat).map fun (i : Nat) => D.int (m + (i : Int)), fun _ => true) h2 else .bad
  | _, _ => .bad
section
variable {X : Cx} {W : WX} {pos : Pos} {tg e : Expr} {me : E}
theorem Reps.at {μ : Nat → Addr} {N : Nat} {H : Hp} {xs : List D} {vs : List V} {i : Nat} {d : D} {x : V} (r : Reps μ N H xs vs) (h1 : xs[i]? = some d) (h2 : vs[i]? = some x) : Rep μ N H d x := by
  obtain ⟨v, e, q⟩ := r.get h1
  rw [h2] at e
  cases e
  exact q
theorem good_tup {K : PySem.W.Frag} {μ0 : Nat → Addr} {N0 : Nat} {H0 : Hp} {a : Addr} {xs : List D} {vs : List V} (ha : H0 a = some (.tup vs)) (r : Reps μ0 N0 H0 xs vs) : GoodIt K N0 μ0 H0 (xs, fun _ => true) (Itt K a) := fun μ h H st rel _ i => by
  have ha' := st.tup a vs ha
  have r' := r.mono st
  refine ⟨fun d hd => ?_, fun hi => ⟨vs, .of ha', by rw [← r'.length]; exact hi⟩⟩
  obtain ⟨x, hx, rx⟩ := r'.get hd
  refine ⟨⟨vs, x, .of ha', hx⟩, fun y H' hy => ?_⟩
  obtain ⟨rfl, hy⟩ := hy
  have := hy vs (.of ha')
  exact ⟨.refl, rel, r'.at hd this⟩
theorem good_lst {K : PySem.W.Frag} {μ0 : Nat → Addr} {N0 : Nat} {H0 : Hp} {n : Nat} {xs : List D} (hn : n < N0) : GoodIt K N0 μ0 H0 (xs, fun h' => decide (lstOf h' (.ref n) = some xs)) (Itl K (μ0 n)) := fun μ h H st rel c i => by
  have c' : lstOf h (.ref n) = some xs := of_decide_eq_true c
  have r0 : Rep μ h.length H (.ref n) (.ref (μ n)) := .ref (Nat.lt_of_lt_of_le hn st.le)
  obtain ⟨a, vs, ea, hs, r⟩ := rel.read c' r0
  cases ea
  rw [st.mu n hn] at hs
  refine ⟨fun d hd => ?_, fun hi => ⟨vs, hs, by rw [← r.length]; exact hi⟩⟩
  obtain ⟨x, hx, rx⟩ := r.get hd
  refine ⟨⟨vs, x, hs, hx⟩, fun y H' hy => ?_⟩
  obtain ⟨rfl, hy⟩ := hy
  exact ⟨.refl, rel, r.at hd (hy vs hs)⟩
theorem good_str {K : PySem.W.Frag} {μ0 : Nat → Addr} {N0 : Nat} {H0 : Hp} {s : List Nat} : GoodIt K N0 μ0 H0 (s.map fun c => .str [c], fun _ => true) (Its (tx s)) := fun μ h H st rel c i => by
  have hsz : (tx s).cps.size = s.length := by simp [tx]
  refine ⟨fun d hd => ?_, fun hi => ?_⟩
  · rw [List.getElem?_map] at hd
    cases q : s[i]? with
    | none => rw [q] at hd; cases hd
    | some c =>
      rw [q] at hd
      cases hd
      refine ⟨by show i < (tx s).cps.size; rw [hsz]; exact (List.getElem?_eq_some_iff.mp q).1, fun y H' hy => ?_⟩
      obtain ⟨rfl, c', hc, rfl⟩ := hy
      have e : (tx s).cps[i]? = some c := by simpa [tx] using q
      rw [e] at hc
      cases hc
      exact ⟨.refl, rel, .str [c]⟩
  · show (tx s).cps.size ≤ i
    rw [hsz]
    simpa using hi
theorem good_rng {K : PySem.W.Frag} {μ0 : Nat → Addr} {N0 : Nat} {H0 : Hp} {lo : Int} {n : Nat} {f : Nat → D} (hf : ∀ i, f i = .int (lo + (i : Int))) : GoodIt K N0 μ0 H0 ((List.range n).map f, fun _ => true) (Itr lo n) := fun μ h H st rel c i => by
  refine ⟨fun d hd => ?_, fun hi => ?_⟩
  · rw [List.getElem?_map] at hd
    by_cases hi : i < n
    · rw [List.getElem?_range hi] at hd
      cases hd
      refine ⟨hi, fun y H' hy => ?_⟩
      obtain ⟨rfl, rfl⟩ := hy
      rw [hf]
      exact ⟨.refl, rel, .int _⟩
    · have : (List.range n)[i]? = none := List.getElem?_eq_none_iff.mpr (by simp; omega)
      rw [this] at hd
      cases hd
  · show n ≤ i
    simpa using hi
/-- a list, a tuple, a text, as it comes -/
theorem i_any (he : PE X e (tE X.K W me)) : PI X tg e (tI X.K W (iAny me)) := by
  refine ⟨fun pins s σ H Rr I q => ?_⟩
  obtain ⟨μ, h, ρ, rel, sr, g⟩ := q
  refine thn (he.run pins s σ H _ I ⟨μ, h, ρ, rel, sr, G.bind (rp := rpD) g⟩) fun v s1 z => ?_
  obtain ⟨x, H1, I1, rx, μ1, d, h1, st1, rel1, r1, g1⟩ := z
  have lst : ∀ {n : Nat} {xs : List D}, n < h1.length → d = .ref n → lstOf h1 (.ref n) = some xs → wpAny (model X.prog X.w) X.A (pyIter v) (PIE X pins σ tg Rr) X.xe s1 := fun {n xs} hn ed en => by
    subst ed
    have g2 : G X.K W σ h1.length μ1 H1 (rpI X.K) (R.ok (xs, fun h' => decide (lstOf h' (.ref n) = some xs)) h1) Rr := by
      simp only [wkD] at g1
      rw [en] at g1
      exact g1
    obtain ⟨a, vs, ea, hs, rr⟩ := rel1.read en r1
    cases r1
    cases ea
    cases rx
    obtain ⟨its, rv, p, hz⟩ := I1.list hs
    refine wpAny_pyIter_list p.isList (pi_one (tk := s1.toks) I1 _ (turn_list _ _) ⟨_, Heap.get?_push_size _ rfl, rfl, rfl⟩ (g2 μ1 H1 _ .refl rel1 (good_lst hn)))
  cases r1 with
  | tup ha r =>
    rename_i a xs vs
    cases rx
    obtain ⟨its, rv, p, hz⟩ := I1.tuple (SqT.of (K := X.K) ha)
    exact wpAny_pyIter_tuple (show s1.heap.IsTuple a its.toArray from p) (pi_one (tk := s1.toks) I1 _ (turn_tuple _ _) ⟨_, Heap.get?_push_size _ rfl, rfl, rfl⟩ (g1 μ1 H1 _ .refl rel1 (good_tup ha r)))
  | str t =>
    obtain ⟨tk, rfl⟩ := rx
    cases ha : (tx t).cps.all (· < 128)
    · exact wpAny_pyIter_wide ha (pi_one (tk := s1.toks) I1 _ (turn_str _ (tx t) tk "str_iterator" (.inr rfl)) ⟨_, Heap.get?_push_size _ rfl, rfl, rfl⟩ (g1 μ1 H1 _ .refl rel1 good_str))
    · exact wpAny_pyIter_ascii ha (pi_one (tk := s1.toks) I1 _ (turn_str _ (tx t) tk "str_ascii_iterator" (.inl rfl)) ⟨_, Heap.get?_push_size _ rfl, rfl, rfl⟩ (g1 μ1 H1 _ .refl rel1 good_str))
  | ref hn =>
    rename_i n
    cases en : lstOf h1 (.ref n) with
    | some xs => exact lst hn rfl en
    | none =>
      have g2 : False := by
        simp only [wkD] at g1
        rw [en] at g1
        exact g1
      exact g2.elim
  | _ => exact g1.elim
theorem i_rn1 {p : Pos} (hg : Gl X "range") (hm : X.mg "range" = none) (ha : PE X e (tE X.K W me)) (hs1 : starEach [e] X.env = (false, eval e X.env) :: starEach [] X.env := by rfl) (hs : starEach [e] X.env = [(false, eval e X.env)] := by rfl) :
    PI X tg (.Call (.Name "range" p) [e] [] pos) (tI X.K W (iRn1 me)) :=
  PI.imp (pi_range1 hg hm (pa_cons ha pa_nil hs1) hs) fun σ H Rr q => by
    obtain ⟨μ, h, ρ, rel, sr, g⟩ := q
    refine ⟨μ, h, ρ, rel, sr, G.imp (fun x H1 z => ?_) (G.bind (rp := rpD) g)⟩
    obtain ⟨μ1, d, h1, st1, rel1, r1, g1⟩ := z
    cases r1 with
    | int n =>
      simp only at g1
      by_cases hn : n < 2 ^ 62 ∧ -(2 ^ 62) ≤ n
      · rw [if_pos hn] at g1
        exact ⟨n, rfl, hn.2, hn.1, g1 μ1 H1 _ .refl rel1 (good_rng fun i => by rw [Int.zero_add])⟩
      · rw [if_neg hn] at g1
        exact g1.elim
    | _ => exact g1.elim
theorem i_rn2 {p : Pos} {e2 : Expr} {me2 : E} (hg : Gl X "range") (hm : X.mg "range" = none) (ha : PE X e (tE X.K W me)) (hb : PE X e2 (tE X.K W me2))
    (hs1 : starEach [e, e2] X.env = (false, eval e X.env) :: starEach [e2] X.env := by rfl) (hs2 : starEach [e2] X.env = (false, eval e2 X.env) :: starEach [] X.env := by rfl) (hs : starEach [e, e2] X.env = [(false, eval e X.env), (false, eval e2 X.env)] := by rfl) (hs3 : starEach [e2] X.env = [(false, eval e2 X.env)] := by rfl) :
    PI X tg (.Call (.Name "range" p) [e, e2] [] pos) (tI X.K W (iRn2 me me2)) :=
  PI.imp (pi_range2 hg hm (pa_cons ha (pa_cons hb pa_nil hs2) hs1) hs hs3) fun σ H Rr q => by
    obtain ⟨μ, h, ρ, rel, sr, g⟩ := q
    refine ⟨μ, h, ρ, rel, sr, G.imp (fun x H1 z => ?_) (G.bind (rp := rpD) g)⟩
    obtain ⟨μ1, d, h1, st1, rel1, r1, g1⟩ := z
    refine ⟨μ1, h1, ρ, rel1, sr.mono st1, G.imp (fun y H2 z => ?_) (G.bind (rp := rpD) g1)⟩
    obtain ⟨μ2, d2, h2, st2, rel2, r2, g2⟩ := z
    cases r1 with
    | int m =>
      cases r2 with
      | int n =>
        simp only at g2
        by_cases hn : (m < 2 ^ 62 ∧ -(2 ^ 62) ≤ m) ∧ n < 2 ^ 62 ∧ -(2 ^ 62) ≤ n
        · rw [if_pos hn] at g2
          exact ⟨m, n, rfl, ⟨hn.1.2, hn.1.1, hn.2.2, hn.2.1⟩, g2 μ2 H2 _ .refl rel2 (good_rng fun i => rfl)⟩
        · rw [if_neg hn] at g2
          exact g2.elim
      | _ => exact g2.elim
    | _ => exact g2.elim
end
/-! ### for -/
def fcK (k : Ev → Hq → RS) : RS → RS
  | .nx ρ h => k ρ h
  | .ct ρ h => k ρ h
  | .bk ρ h => .nx ρ h
  | r => r
def forN (g : T) (b : S) (c : Hq → Bool) : List D → S
  | [], ρ, h => if c h then .nx ρ h else .bad
  | x :: xs, ρ, h => if c h then goT (g x ρ h) (fun ρ1 h1 => fcK (forN g b c xs) (b ρ1 h1)) else .bad
def sFor (m : EI) (g : T) (b : S) : S := fun ρ h => (m ρ h).st ρ fun p h1 => forN g b p.2 p.1 ρ h1
section
variable {X : Cx} {W : WX} {pos : Pos} {tg iter : Expr} {mi : EI} {g : T} {body : List Stmt} {mb : S}
theorem GS.fc {K : PySem.W.Frag} {N : Nat} {μ : Nat → Addr} {H : Hp} {r : RS} {k : Ev → Hq → RS} {D : Ends} {Nx : L2.St → Hp → Prop} (g : GS K W N μ H (fcK k r) D)
    (hn : ∀ μ' H' σ' ρ' h', Stp N μ H h'.length μ' H' → Rel K μ' h' H' → SRep μ' h'.length H' ρ' σ' → GS K W h'.length μ' H' (k ρ' h') D → Nx σ' H') : GS K W N μ H r { D with nx := Nx, ct := Nx, bk := D.nx } := by
  cases r with
  | nx ρ h => exact fun μ' H' σ' st rel sr => hn μ' H' σ' ρ h st rel sr (GS.lift st g)
  | ct ρ h => exact fun μ' H' σ' st rel sr => hn μ' H' σ' ρ h st rel sr (GS.lift st g)
  | bk ρ h => exact g
  | rt d h => exact g
  | exc c fs ρ h => exact g
  | bad => exact g
theorem s_for (hp : PassesOwn (model X.prog X.w) X.A X.env X.xe) (hc : X.calm = true) (hi : PI X tg iter (tI X.K W mi)) (hg : PG X tg (tT X.K g)) (hb : PSs X body (tS X.K W mb))
    (hs : ∀ x, foldedSetIterable iter X.env x = pure x := by intro _; rfl) : PS X (.For tg iter body [] pos) (tS X.K W (sFor mi g mb)) :=
  PS.imp (ps_for hp hc hi hg hb hs) fun D σ H q => by
    obtain ⟨μ, h, ρ, rel, sr, gg⟩ := q
    refine ⟨μ, h, ρ, rel, sr, G.imp (fun J H1 z => ?_) (GS.st (rp := rpI X.K) (h := h) sr gg)⟩
    obtain ⟨μ1, p, h1, st1, rel1, good, sr1, g1⟩ := z
    obtain ⟨xs, c⟩ := p
    refine ⟨fun i m σ H => m = xs.length - i ∧ ∃ μ h ρ, Stp h1.length μ1 H1 h.length μ H ∧ Rel X.K μ h H ∧ SRep μ h.length H ρ σ ∧ GS X.K W h.length μ H (forN g mb c (xs.drop i) ρ h) D, ⟨_, rfl, μ1, h1, ρ, .refl, rel1, sr1, g1⟩, ?_⟩
    rintro i m σ H ⟨rfl, μ, h, ρ, st, rel, sr, gg⟩
    by_cases hi : i < xs.length
    · have ed : xs.drop i = xs[i] :: xs.drop (i + 1) := List.drop_eq_getElem_cons hi
      have hd : xs[i]? = some xs[i] := List.getElem?_eq_getElem hi
      rw [ed] at gg
      simp only [forN] at gg
      cases hcc : c h with
      | false => rw [hcc] at gg; exact gg.elim
      | true =>
        rw [hcc, if_pos rfl] at gg
        obtain ⟨go, yl⟩ := (good μ h H st rel hcc i).1 _ hd
        refine .inr ⟨go, fun σ H => (∃ μ h ρ, Stp h1.length μ1 H1 h.length μ H ∧ Rel X.K μ h H ∧ SRep μ h.length H ρ σ ∧ GS X.K W h.length μ H (forN g mb c (xs.drop (i + 1)) ρ h) D), fun σ' H' z => ⟨xs.length - (i + 1), by omega, rfl, z⟩, fun x H' hy => ?_⟩
        obtain ⟨st2, rel2, r2⟩ := yl x H' hy
        cases q : g xs[i] ρ h with
        | none => rw [q] at gg; exact gg.elim
        | some z =>
          obtain ⟨ρ', h'⟩ := z
          rw [q] at gg
          refine ⟨μ, h, ρ, _, ρ', h', rel2, sr.mono st2, r2, q, fun μ3 H3 σ3 st3 rel3 sr3 => ⟨μ3, h', ρ', rel3, sr3, ?_⟩⟩
          refine GS.fc (GS.lift (st2.trans st3) gg) fun μ4 H4 σ4 ρ4 h4 st4 rel4 sr4 g4 => ⟨μ4, h4, ρ4, ((st.trans st2).trans st3).trans st4, rel4, sr4, g4⟩
    · have ed : xs.drop i = [] := List.drop_eq_nil_iff.mpr (by omega)
      rw [ed] at gg
      simp only [forN] at gg
      cases hcc : c h with
      | false => rw [hcc] at gg; exact gg.elim
      | true =>
        rw [hcc, if_pos rfl] at gg
        exact .inl ⟨(good μ h H st rel hcc i).2 (by show xs.length ≤ i; omega), gg μ H σ .refl rel sr⟩
end
/-! ### list comprehensions -/
/-- a comprehension's target: a name, or names in a tuple -/
inductive CT where
  | nm (i : Nat) | tp (is : List Nat)
def setAll : List Nat → List D → Ev → Option Ev
  | [], [], ρ => some ρ
  | i :: is, d :: ds, ρ => setAll is ds (ρ.set i (some d))
  | _, _, _ => none
def CT.set (t : CT) (d : D) (ρ : Ev) : Option Ev := match t, d with
  | .nm i, d => some (ρ.set i (some d))
  | .tp is, .tup ds => setAll is ds ρ
  | _, _ => none
def CT.slots : CT → List Nat
  | .nm i => [i]
  | .tp is => is
def gAllV : List Nat → TGs
  | [] => gNil
  | i :: is => gCons (gName i) (gAllV is)
def CT.tg (K : PySem.W.Frag) : CT → TG
  | .nm i => gName i
  | .tp is => gTup K is.length (gAllV is)
def wipeD (ρ : Ev) : List Nat → Ev
  | [] => ρ
  | v :: vs => (wipeD ρ vs).set v none
def R.nox {α : Type} : R α → R α
  | .exc _ _ _ => .bad
  | r => r
def tst (t : Option EB) : EB := fun ρ h => match t with
  | none => .ok true h
  | some t => (t ρ h).nox
def goC {α : Type} (o : Option Ev) (k : Ev → R α) : R α := match o with
  | some ρ => k ρ
  | none => .bad
def putC (o : Option (List D)) (k : List D → R Unit) : R Unit := match o with
  | some acc => if acc.length < lim then k acc else .bad
  | none => .bad
def cmpN (g : CT) (t : Option EB) (e : E) (c : Hq → Bool) (n : Nat) : List D → Ev → Hq → R Unit
  | [], _, h => if c h then .ok () h else .bad
  | x :: xs, ρ, h => if c h then goC (g.set x ρ) fun ρ2 => (tst t ρ2 h).bind fun b h3 => if b then (e ρ2 h3).nox.bind fun y h4 => putC (mutL h4 (.ref n)) fun acc => cmpN g t e c n xs ρ (h4.set n (.lst (acc ++ [y]))) else cmpN g t e c n xs ρ h3 else .bad
def eCmp (m : EI) (g : CT) (t : Option EB) (e : E) (vs : List Nat) : E := fun ρ h => (m ρ h).bind fun p h1 => (cmpN g t e p.2 h1.length p.1 (wipeD ρ vs) (h1 ++ [.lst []])).bind fun _ h2 => .ok (.ref h1.length) h2
section
variable {μ : Nat → Addr} {N : Nat} {H : Hp}
theorem SRep.wipe {ρ : Ev} {σ : L2.St} (r : SRep μ N H ρ σ) : ∀ vs, SRep μ N H (wipeD ρ vs) (L2.wipe σ vs)
  | [] => r
  | v :: vs => by
    have q := SRep.wipe r vs
    unfold wipeD L2.wipe
    have un : ∀ {ds : Ev} {us : L2.St} (i : Nat), SRep μ N H ds us → SRep μ N H (ds.set i none) (us.set i none) := by
      intro ds us i r
      induction r generalizing i with
      | nil => exact .nil
      | no t ih => cases i with
        | zero => exact .no t
        | succ i => exact .no (ih i)
      | yes q t ih => cases i with
        | zero => exact .no t
        | succ i => exact .yes q (ih i)
    exact un v q
theorem wipe_set {σ : L2.St} {i : Nat} {x : V} : ∀ {vs : List Nat}, i ∈ vs → L2.wipe (σ.set i (some x)) vs = L2.wipe σ vs
  | v :: vs, h => by
    unfold L2.wipe
    by_cases hv : i ∈ vs
    · rw [wipe_set hv]
    · have e : v = i := by
        rcases List.mem_cons.mp h with z | z
        · exact z.symm
        · exact (hv z).elim
      subst e
      have out : ∀ (σ : L2.St) (vs : List Nat) (i : Nat) (u : Option V), i ∉ vs → L2.wipe (σ.set i u) vs = (L2.wipe σ vs).set i u := by
        intro σ vs i u hn
        induction vs with
        | nil => rfl
        | cons w ws ih =>
          unfold L2.wipe
          rw [ih fun z => hn (List.mem_cons_of_mem _ z), List.set_comm _ _ (fun z => hn (by rw [z]; exact List.mem_cons_self))]
      rw [out _ _ _ _ hv, List.set_set]
theorem setAll_v {K : PySem.W.Frag} {vs : List Nat} {σ0 : L2.St} : ∀ {is : List Nat} {ds : List D} {us : List V} {ρ ρ' : Ev} {σ : L2.St} {Q : L2.St → Hp → Prop}, Reps μ N H ds us → setAll is ds ρ = some ρ' → (∀ i ∈ is, i ∈ vs) → SRep μ N H ρ σ → L2.wipe σ vs = σ0 →
    (∀ σ', SRep μ N H ρ' σ' → L2.wipe σ' vs = σ0 → Q σ' H) → gAllV is us σ H Q
  | [], _, _, ρ, ρ', σ, Q, .nil, e, _, sr, w, k => by cases e; exact ⟨rfl, k σ sr w⟩
  | i :: is, _, _, ρ, ρ', σ, Q, .cons (d := d) (v := v) (ds := ds) (vs := us) r rs, e, hs, sr, w, k => by
    refine ⟨v, us, rfl, ?_⟩
    exact setAll_v (K := K) rs (show setAll is ds (ρ.set i (some d)) = some ρ' from e) (fun j hj => hs j (List.mem_cons_of_mem _ hj)) (sr.set r i) ((wipe_set (hs i List.mem_cons_self)).trans w) k
  | [], _, _, _, _, _, _, .cons _ _, e, _, _, _, _ => by cases e
  | _ :: _, _, _, _, _, _, _, .nil, e, _, _, _, _ => by cases e
theorem setAll_len : ∀ {is : List Nat} {ds : List D} {ρ ρ' : Ev}, setAll is ds ρ = some ρ' → ds.length = is.length
  | [], [], _, _, _ => rfl
  | i :: is, d :: ds, ρ, ρ', e => by simp [setAll_len (show setAll is ds (ρ.set i (some d)) = some ρ' from e)]
  | [], _ :: _, _, _, e => by cases e
  | _ :: _, [], _, _, e => by cases e
theorem CT.ok {K : PySem.W.Frag} {vs : List Nat} {g : CT} {d : D} {v : V} {ρ ρ' : Ev} {σ : L2.St} {Q : L2.St → Hp → Prop} (r : Rep μ N H d v) (e : g.set d ρ = some ρ') (hs : ∀ i ∈ g.slots, i ∈ vs) (sr : SRep μ N H ρ σ)
    (k : ∀ σ', SRep μ N H ρ' σ' → L2.wipe σ' vs = L2.wipe σ vs → Q σ' H) : g.tg K v σ H Q := by
  cases g with
  | nm i => cases e; exact k _ (sr.set r i) (wipe_set (hs i (by simp [CT.slots])))
  | tp is =>
    cases r with
    | tup ha rs =>
      rename_i a xs us
      have e' : setAll is xs ρ = some ρ' := e
      exact ⟨a, us, rfl, .of ha, by rw [← rs.length]; exact setAll_len e', setAll_v (K := K) rs e' hs sr rfl k⟩
    | _ => cases e
end
section
variable {X : Cx} {W : WX} {pos : Pos} {tg iter elt : Expr} {mi : EI} {g : CT} {ifs : List Expr} {me : E} {t : Option EB}
abbrev W0 : WX := fun _ _ _ _ => False
theorem G.nox {K : PySem.W.Frag} {σ σ' : L2.St} {N : Nat} {μ : Nat → Addr} {H : Hp} {α β : Type} {rp : RpT α β} {r : R α} {Q : β → Hp → Prop} (g : G K W σ N μ H rp r.nox Q) : G K W0 σ' N μ H rp r Q := by
  cases r with
  | ok a h => exact g
  | exc c fs h => exact g.elim
  | bad => exact g
def tTst (K : PySem.W.Frag) : Option EB → TT
  | none => tYes
  | some t => tEB K W0 t
theorem lc_of {vs : List Nat} {σ : L2.St} {H : Hp} {Q : VK} (hs : ∀ i ∈ g.slots, i ∈ vs) (hw : ∀ σ : L2.St, L2.wipe (L2.wipe σ vs) vs = L2.wipe σ vs) (q : tE X.K W (eCmp mi g t me vs) σ H Q) :
    tLc (tI X.K W mi) (g.tg X.K) (tTst X.K t) (tE X.K W0 me) vs σ H Q := by
  obtain ⟨μ, h, ρ, rel, sr, gg⟩ := q
  refine ⟨μ, h, ρ, rel, sr, G.imp (fun J H1 z => ?_) (G.bind (rp := rpI X.K) gg)⟩
  obtain ⟨μ1, p, h1, st1, rel1, good, g1⟩ := z
  obtain ⟨xs, c⟩ := p
  intro Dd hD
  have stn := stp_new (μ := μ1) (h := h1) (u := .lst []) hD
  have reln := rel1.newList hD .nil
  have ln : (h1 ++ [O.lst []]).length = h1.length + 1 := by simp
  have srw := (sr.mono st1).wipe vs
  have g2 := G.lift (N1 := (h1 ++ [O.lst []]).length) (by rw [ln]; exact stn) g1
  -- the invariant
  refine ⟨fun i m H => m = xs.length - i ∧ ∃ μ h, Stp (h1.length + 1) (mset μ1 h1.length Dd) (upd H1 Dd (.lst [])) h.length μ H ∧ Rel X.K μ h H ∧
    G X.K W σ h.length μ H rpD ((cmpN g t me c h1.length (xs.drop i) (wipeD ρ vs) h).bind fun _ h2 => .ok (.ref h1.length) h2) Q, ⟨_, rfl, _, _, by rw [ln]; exact .refl, reln, g2⟩, ?_⟩
  rintro i m H ⟨rfl, μ, h, st, rel, gg⟩
  have hn : h1.length < h.length := Nat.lt_of_lt_of_le (Nat.lt_succ_self _) st.le
  have hD' : μ h1.length = Dd := (st.mu _ (Nat.lt_succ_self _)).trans mset_same
  have stA : Stp h1.length μ1 H1 h.length μ H := stn.trans st
  by_cases hi : i < xs.length
  · have ed : xs.drop i = xs[i] :: xs.drop (i + 1) := List.drop_eq_getElem_cons hi
    have hd : xs[i]? = some xs[i] := List.getElem?_eq_getElem hi
    rw [ed] at gg
    simp only [cmpN] at gg
    cases hcc : c h with
    | false => rw [hcc] at gg; exact gg.elim
    | true =>
      rw [hcc] at gg
      simp only [if_true] at gg
      obtain ⟨go, yl⟩ := (good μ h H stA rel hcc i).1 _ hd
      refine .inr ⟨go, fun H => (∃ μ h, Stp (h1.length + 1) (mset μ1 h1.length Dd) (upd H1 Dd (.lst [])) h.length μ H ∧ Rel X.K μ h H ∧
        G X.K W σ h.length μ H rpD ((cmpN g t me c h1.length (xs.drop (i + 1)) (wipeD ρ vs) h).bind fun _ h2 => .ok (.ref h1.length) h2) Q), fun H' z => ⟨xs.length - (i + 1), by omega, rfl, z⟩, fun x H' hy => ?_⟩
      obtain ⟨st2, rel2, r2⟩ := yl x H' hy
      cases q : g.set xs[i] (wipeD ρ vs) with
      | none => rw [q] at gg; exact gg.elim
      | some ρ2 =>
        rw [q] at gg
        simp only [goC] at gg
        refine CT.ok (K := X.K) r2 q hs (srw.mono (stA.trans st2)) fun σ2 sr2 w2 => ⟨by rw [w2, hw], ?_⟩
        have gl := G.lift st2 gg
        -- the test
        have next : ∀ (b : Bool) (μ3 : Nat → Addr) (h3 : Hq) (H3 : Hp), Stp h.length μ H' h3.length μ3 H3 → Rel X.K μ3 h3 H3 → G X.K W σ h3.length μ3 H3 rpD ((if b = true then (me ρ2 h3).nox.bind fun y h4 => putC (mutL h4 (.ref h1.length)) fun acc => cmpN g t me c h1.length (xs.drop (i + 1)) (wipeD ρ vs) (h4.set h1.length (.lst (acc ++ [y]))) else cmpN g t me c h1.length (xs.drop (i + 1)) (wipeD ρ vs) h3).bind fun _ h2 => .ok (.ref h1.length) h2) Q →
            if b = true then tE X.K W0 me σ2 H3 fun y H4 => ∃ acc, H4 Dd = some (.lst acc) ∧ acc.length < sizeLine ∧ (fun H => (∃ μ h, Stp (h1.length + 1) (mset μ1 h1.length Dd) (upd H1 Dd (.lst [])) h.length μ H ∧ Rel X.K μ h H ∧
              G X.K W σ h.length μ H rpD ((cmpN g t me c h1.length (xs.drop (i + 1)) (wipeD ρ vs) h).bind fun _ h2 => .ok (.ref h1.length) h2) Q)) (upd H4 Dd (.lst (acc ++ [y]))) else (∃ μ h, Stp (h1.length + 1) (mset μ1 h1.length Dd) (upd H1 Dd (.lst [])) h.length μ H3 ∧ Rel X.K μ h H3 ∧
              G X.K W σ h.length μ H3 rpD ((cmpN g t me c h1.length (xs.drop (i + 1)) (wipeD ρ vs) h).bind fun _ h2 => .ok (.ref h1.length) h2) Q) := by
          intro b μ3 h3 H3 st3 rel3 g3
          cases b with
          | false =>
            refine iteF ⟨μ3, h3, (st.trans st2).trans st3, rel3, ?_⟩
            simpa using g3
          | true =>
            simp only [if_true] at g3
            refine iteT ⟨μ3, h3, ρ2, rel3, sr2.mono st3, ?_⟩
            have assoc : ((me ρ2 h3).nox.bind fun y h4 => putC (mutL h4 (.ref h1.length)) fun acc => cmpN g t me c h1.length (xs.drop (i + 1)) (wipeD ρ vs) (h4.set h1.length (.lst (acc ++ [y])))).bind (fun _ h2 => R.ok (D.ref h1.length) h2)
                = (me ρ2 h3).nox.bind fun y h4 => (putC (mutL h4 (.ref h1.length)) fun acc => cmpN g t me c h1.length (xs.drop (i + 1)) (wipeD ρ vs) (h4.set h1.length (.lst (acc ++ [y])))).bind (fun _ h2 => R.ok (D.ref h1.length) h2) := by
              cases (me ρ2 h3).nox <;> rfl
            rw [assoc] at g3
            refine G.imp (fun y H4 z => ?_) (G.nox (G.bind (rp := rpD) g3))
            obtain ⟨μ4, d4, h4, st4, rel4, r4, g4⟩ := z
            cases em : mutL h4 (.ref h1.length) with
            | none => rw [em] at g4; exact g4.elim
            | some acc =>
              rw [em] at g4
              simp only [putC] at g4
              by_cases hz : acc.length < lim
              · rw [if_pos hz] at g4
                have eh := mutL_ref em
                obtain ⟨vs4, e4, r5⟩ := rel4.lst eh
                have hD4 : μ4 h1.length = Dd := ((st2.trans st3).trans st4 |>.mu _ hn).trans hD'
                rw [hD4] at e4
                refine ⟨vs4, e4, by rw [lim_eq, ← r5.length]; exact hz, ?_⟩
                have pl := rel4.putList (ys := acc ++ [d4]) (vs := vs4 ++ [y]) eh (by rw [hD4]; exact e4) (r5.append (.one r4))
                rw [hD4] at pl
                exact ⟨μ4, _, ((st.trans st2).trans st3).trans (st4.trans pl.2), pl.1, G.lift pl.2 g4⟩
              · rw [if_neg hz] at g4
                exact g4.elim
        cases t with
        | none =>
          have g3 : G X.K W σ h.length μ H' rpD ((if true = true then (me ρ2 h).nox.bind fun y h4 => putC (mutL h4 (.ref h1.length)) fun acc => cmpN g none me c h1.length (xs.drop (i + 1)) (wipeD ρ vs) (h4.set h1.length (.lst (acc ++ [y]))) else cmpN g none me c h1.length (xs.drop (i + 1)) (wipeD ρ vs) h).bind fun _ h2 => .ok (.ref h1.length) h2) Q := gl
          exact next true μ h H' .refl rel2 g3
        | some tt =>
          refine ⟨μ, h, ρ2, rel2, sr2, ?_⟩
          have assoc : ((tst (some tt) ρ2 h).bind fun b h3 => if b = true then (me ρ2 h3).nox.bind fun y h4 => putC (mutL h4 (.ref h1.length)) fun acc => cmpN g (some tt) me c h1.length (xs.drop (i + 1)) (wipeD ρ vs) (h4.set h1.length (.lst (acc ++ [y]))) else cmpN g (some tt) me c h1.length (xs.drop (i + 1)) (wipeD ρ vs) h3).bind (fun _ h2 => R.ok (D.ref h1.length) h2)
              = (tt ρ2 h).nox.bind fun b h3 => (if b = true then (me ρ2 h3).nox.bind fun y h4 => putC (mutL h4 (.ref h1.length)) fun acc => cmpN g (some tt) me c h1.length (xs.drop (i + 1)) (wipeD ρ vs) (h4.set h1.length (.lst (acc ++ [y]))) else cmpN g (some tt) me c h1.length (xs.drop (i + 1)) (wipeD ρ vs) h3).bind (fun _ h2 => R.ok (D.ref h1.length) h2) := by
            show (((tt ρ2 h).nox).bind _).bind _ = _
            cases (tt ρ2 h).nox <;> rfl
          rw [assoc] at gl
          refine G.imp (fun b H3 z => ?_) (G.nox (G.bind (rp := rpB) gl))
          obtain ⟨μ3, b', h3, st3, rel3, r3, g3⟩ := z
          have r3' : b' = b := r3
          subst r3'
          exact next b' μ3 h3 H3 st3 rel3 g3
  · have ed : xs.drop i = [] := List.drop_eq_nil_iff.mpr (by omega)
    rw [ed] at gg
    simp only [cmpN] at gg
    cases hcc : c h with
    | false => rw [hcc] at gg; exact gg.elim
    | true =>
      rw [hcc] at gg
      simp only [if_true] at gg
      refine .inl ⟨(good μ h H stA rel hcc i).2 (by show xs.length ≤ i; omega), ?_⟩
      have rr : Rep μ h.length H (.ref h1.length) (.ref (μ h1.length)) := .ref hn
      rw [hD'] at rr
      exact gg μ H _ .refl rel rr
end
end Am

set_option Elab.async false
set_option linter.all false
set_option maxRecDepth 100000
set_option maxHeartbeats 2000000
namespace Am
open PySem L2
/-! ### comprehensions in their places -/
section
variable {X : Cx} {W : WX} {pos : Pos} {tg iter elt : Expr} {mi : EI} {g : CT} {ifs : List Expr} {me : E} {t : Option EB} {scope : Scope} {own : List (Str × Nat)}
theorem wipe_get (σ : L2.St) : ∀ (vs : List Nat) (i : Nat), (L2.wipe σ vs)[i]? = if i ∈ vs ∧ i < σ.length then some none else σ[i]?
  | [], i => by simp [L2.wipe]
  | v :: vs, i => by
    unfold L2.wipe
    rw [List.getElem?_set]
    by_cases h : v = i
    · subst h
      rw [if_pos rfl, L2.wipe_length]
      by_cases hl : v < σ.length
      · simp [hl]
      · simp [hl]
    · rw [if_neg h, wipe_get σ vs i]
      have : (i ∈ v :: vs ∧ i < σ.length) ↔ (i ∈ vs ∧ i < σ.length) := by
        simp [List.mem_cons, Ne.symm h]
      simp only [this]
theorem wipe_idem (σ : L2.St) (vs : List Nat) : L2.wipe (L2.wipe σ vs) vs = L2.wipe σ vs := by
  apply List.ext_getElem?
  intro i
  rw [wipe_get (L2.wipe σ vs) vs i, wipe_get σ vs i, L2.wipe_length]
  by_cases h : i ∈ vs ∧ i < σ.length <;> simp [h]
theorem b_lc (hc : X.calm = true) (hN : X.N.Nodup) (hi : PI X tg iter (tI X.K W mi)) (ok : BlkOk X.N X.env.scope scope own) (hsl : ∀ i ∈ g.slots, i ∈ own.map (·.2))
    (hg : ∀ (s : Shared) (H : Hp) (C : Addr) (cl : List (Str × Addr)) (fp : List Addr), PG (X.blk s H scope (compEnvC scope cl C X.env) fp) tg (g.tg X.K)) (ht : ∀ (s : Shared) (H : Hp) (C : Addr) (cl : List (Str × Addr)) (fp : List Addr), PTs (X.blk s H scope (compEnvC scope cl C X.env) fp) ifs (tTst X.K t))
    (he : ∀ (s : Shared) (H : Hp) (C : Addr) (cl : List (Str × Addr)) (fp : List Addr), PE (X.blk s H scope (compEnvC scope cl C X.env) fp) elt (tE X.K W0 me)) (hs : ∀ x, foldedSetIterable iter X.env x = pure x := by intro _; rfl) :
    PE X (.ListComp elt [⟨tg, iter, ifs, 0⟩] scope pos) (tE X.K W (eCmp mi g t me (own.map (·.2)))) :=
  PE.imp (pe_lc hc hN hi ok hg ht he hs) fun σ H Q q => lc_of hsl (fun σ => wipe_idem σ _) q
theorem s_lc {i : Nat} {y : Str} {py spos : Pos} (hc : X.calm = true) (hN : X.N.Nodup) (hy : X.N[i]? = some y) (hyl : X.env.scope.names.lookup y = some .local)
    (hsw : swapsWith (.ListComp elt [⟨tg, iter, ifs, 0⟩] scope pos) (some (.Name y py)) spos.line X.env = pure true) (hi : PI X tg iter (tI X.K W mi)) (ok : BlkOk X.N X.env.scope scope own) (hsl : ∀ i ∈ g.slots, i ∈ own.map (·.2))
    (hg : ∀ (s : Shared) (H : Hp) (C : Addr) (cl : List (Str × Addr)) (fp : List Addr), PG (X.blk s H scope (compEnvC scope cl C X.env) fp) tg (g.tg X.K)) (ht : ∀ (s : Shared) (H : Hp) (C : Addr) (cl : List (Str × Addr)) (fp : List Addr), PTs (X.blk s H scope (compEnvC scope cl C X.env) fp) ifs (tTst X.K t))
    (he : ∀ (s : Shared) (H : Hp) (C : Addr) (cl : List (Str × Addr)) (fp : List Addr), PE (X.blk s H scope (compEnvC scope cl C X.env) fp) elt (tE X.K W0 me)) (hs : ∀ x, foldedSetIterable iter X.env x = pure x := by intro _; rfl) :
    PS X (.Assign [.Name y py] (.ListComp elt [⟨tg, iter, ifs, 0⟩] scope pos) spos) (tS X.K W (sAsg (eCmp mi g t me (own.map (·.2))) (gNm i))) :=
  PS.imp (ps_setLc (i := i) hc hN hy hyl hsw hi ok hg ht he hs) fun D σ H q => by
    obtain ⟨μ, h, ρ, rel, sr, gg⟩ := q
    refine lc_of (Q := fun x H1 => gName i x σ H1 D.nx) hsl (fun σ => wipe_idem σ _) ⟨μ, h, ρ, rel, sr, G.imp (fun x H1 z => ?_) (GS.st (rp := rpD) (h := h) sr gg)⟩
    obtain ⟨μ1, d, h1, st1, rel1, r1, sr1, g1⟩ := z
    exact g1 μ1 H1 _ .refl rel1 (sr1.set r1 i)
end
/-! ### defs -/
mutual
/-- no object from N on is spoken of -/
def D.cl (N : Nat) : D → Bool
  | .ref n => decide (n < N)
  | .tup xs => D.cls N xs
  | _ => true
def D.cls (N : Nat) : List D → Bool
  | [] => true
  | x :: xs => D.cl N x && D.cls N xs
end
section
variable {μ : Nat → Addr} {N N' : Nat} {H : Hp}
mutual
theorem Rep.cut : ∀ {d : D} {v : V}, Rep μ N' H d v → d.cl N = true → Rep μ N H d v
  | _, _, .non, _ => .non
  | _, _, .bl b, _ => .bl b
  | _, _, .int i, _ => .int i
  | _, _, .str s, _ => .str s
  | _, _, .tup h r, e => .tup h (Reps.cut r (by simpa [D.cl] using e))
  | _, _, .ref (n := n) h, e => .ref (by simpa [D.cl] using e)
theorem Reps.cut : ∀ {ds : List D} {vs : List V}, Reps μ N' H ds vs → D.cls N ds = true → Reps μ N H ds vs
  | _, _, .nil, _ => .nil
  | _, _, .cons h r, e => by
    simp only [D.cls, Bool.and_eq_true] at e
    exact .cons (Rep.cut h e.1) (Reps.cut r e.2)
end
mutual
theorem Rep.closed : ∀ {d : D} {v : V}, Rep μ N H d v → d.cl N = true
  | _, _, .non => rfl
  | _, _, .bl b => rfl
  | _, _, .int i => rfl
  | _, _, .str s => rfl
  | _, _, .tup h r => by simp only [D.cl]; exact Reps.closed r
  | _, _, .ref (n := n) h => by simp only [D.cl]; exact decide_eq_true h
theorem Reps.closed : ∀ {ds : List D} {vs : List V}, Reps μ N H ds vs → D.cls N ds = true
  | _, _, .nil => rfl
  | _, _, .cons h r => by simp only [D.cls, Rep.closed h, Reps.closed r, Bool.and_self]
end
theorem FRep.recut {μ0 : Nat → Addr} {H0 : Hp} : ∀ {fs : List (String × D)} {u0 vs : List (Str × V)}, FRep μ0 N H0 fs u0 → FRep μ N' H fs vs → FRep μ N H fs vs
  | _, _, _, .nil, .nil => .nil
  | _, _, _, .cons a r, .cons b q => .cons (b.cut a.closed) (FRep.recut r q)
theorem KRep.recut {μ0 : Nat → Addr} {H0 : Hp} : ∀ {fs : List (D × D)} {u0 vs : List (Key × V)}, KRep μ0 N H0 fs u0 → KRep μ N' H fs vs → KRep μ N H fs vs
  | _, _, _, .nil, .nil => .nil
  | _, _, _, .cons _ a r, .cons e b q => .cons e (b.cut a.closed) (KRep.recut r q)
end
theorem ORep.recut {K : PySem.W.Frag} {μ μ0 : Nat → Addr} {N N' : Nat} {H H0 : Hp} {a a0 : Addr} {o : O} (x : ORep K μ0 N H0 a0 o) (y : ORep K μ N' H a o) : ORep K μ N H a o := by
  cases o with
  | lst xs => obtain ⟨_, _, r⟩ := x; obtain ⟨vs, e, q⟩ := y; exact ⟨vs, e, q.cut r.closed⟩
  | fro xs => obtain ⟨_, _, r⟩ := x; obtain ⟨vs, e, q⟩ := y; exact ⟨vs, e, q.cut r.closed⟩
  | dic kvs => obtain ⟨_, _, r⟩ := x; obtain ⟨vs, e, q⟩ := y; exact ⟨vs, e, r.recut q⟩
  | ins c fs => obtain ⟨_, _, _, r⟩ := x; obtain ⟨dx, vs, e, q⟩ := y; exact ⟨dx, vs, e, r.recut q⟩
  | set xs => exact False.elim x
  | exc c fs =>
    obtain ⟨_, _, r⟩ := x
    obtain ⟨d, e, q⟩ := y
    refine ⟨d, e, ?_⟩
    rcases q with z | ⟨dx, fv, e1, e2, q⟩
    · exact .inl z
    · rcases r with z | ⟨_, _, _, _, r⟩
      · obtain ⟨z, _⟩ := z
        subst z
        cases q
        exact .inr ⟨dx, [], e1, e2, .nil⟩
      · exact .inr ⟨dx, fv, e1, e2, r.recut q⟩
theorem Rel.cut {K : PySem.W.Frag} {μ μ0 : Nat → Addr} {h h' : Hq} {H H0 : Hp} (x : Rel K μ0 h H0) (y : Rel K μ h' H) (e : h'.take h.length = h) : Rel K μ h H := by
  have at_ : ∀ i o, h[i]? = some o → h'[i]? = some o := fun i o q => by
    rw [← e, List.getElem?_take] at q
    split at q
    · exact q
    · cases q
  exact ⟨fun i j oi oj a b => y.inj i j oi oj (at_ _ _ a) (at_ _ _ b), fun i o q => (x.obj i o q).recut (y.obj i o (at_ i o q))⟩
abbrev FN := List D → Hq → R D
/-- behind a call that left all as it was, what it made is forgotten -/
def fin (h : Hq) (d : D) (h' : Hq) : R D := if d.cl h.length && decide (h'.take h.length = h) then .ok d h else .ok d h'
def finX (h : Hq) (c : String) (fs : List (String × D)) (h' : Hq) : R D := if fs.all (fun p => p.2.cl h.length) && decide (h'.take h.length = h) then .exc c fs h else .exc c fs h'
def ansOf (h : Hq) : RS → R D
  | .rt d h' => fin h d h'
  | .nx _ h' => fin h .non h'
  | .exc c fs _ h' => finX h c fs h'
  | _ => .bad
def fnB (N : Nat) (m : S) : FN := fun ds h => ansOf h (m (ds.map some ++ List.replicate (N - ds.length) none) h)
def spB (K : PySem.W.Frag) (n : Nat) (F : FN) : Sp := fun vs H Q Ee => ∃ μ h ds, Rel K μ h H ∧ Reps μ h.length H ds vs ∧ ds.length = n ∧ G K (fun c d _ H => Ee c d H) [] h.length μ H rpD (F ds h) Q
theorem SRep.start {μ : Nat → Addr} {N : Nat} {H : Hp} {n : Nat} : ∀ {ds : List D} {vs : List V}, Reps μ N H ds vs → SRep μ N H (ds.map some ++ List.replicate n none) (vs.map some ++ List.replicate n none)
  | _, _, .nil => by
    induction n with
    | zero => exact .nil
    | succ n ih => exact .no ih
  | _, _, .cons h r => .yes h (SRep.start r)
section
variable {K : PySem.W.Frag} {W : WX} {N : Nat} {μ μ0 : Nat → Addr} {H H0 : Hp} {h h' : Hq} {Q : VK} {d : D}
theorem FRep.closed : ∀ {fs : List (String × D)} {vs : List (Str × V)}, FRep μ N H fs vs → fs.all (fun p => p.2.cl N) = true
  | _, _, .nil => rfl
  | _, _, .cons a r => by simp only [List.all_cons, a.closed, FRep.closed r, Bool.and_self]
theorem FRep.cut {N' : Nat} : ∀ {fs : List (String × D)} {vs : List (Str × V)}, FRep μ N' H fs vs → fs.all (fun p => p.2.cl N) = true → FRep μ N H fs vs
  | _, _, .nil, _ => .nil
  | _, _, .cons a r, e => by
    simp only [List.all_cons, Bool.and_eq_true] at e
    exact .cons (a.cut e.1) (FRep.cut r e.2)
theorem fin_rt (x : Rel K μ0 h H0) (g : G K W [] h.length μ0 H0 rpD (fin h d h') Q) {μ' : Nat → Addr} {H' : Hp} {v : V} (st : Stp h.length μ0 H0 h'.length μ' H') (rel : Rel K μ' h' H') (r : Rep μ' h'.length H' d v) : Q v H' := by
  unfold fin at g
  cases e : (d.cl h.length && decide (h'.take h.length = h)) with
  | true =>
    rw [e] at g
    have q := Bool.and_eq_true_iff.mp e
    exact g μ' H' v ⟨Nat.le_refl _, st.mu, st.tup⟩ (Rel.cut x rel (of_decide_eq_true q.2)) (r.cut q.1)
  | false =>
    rw [e] at g
    exact g μ' H' v st rel r
theorem fin_exc {c : String} {fs : List (String × D)} {σ : L2.St} (x : Rel K μ0 h H0) (g : G K W σ h.length μ0 H0 rpD (finX h c fs h') Q) {μ' : Nat → Addr} {H' : Hp} {cls : Value} {dp : Option Addr} (st : Stp h.length μ0 H0 h'.length μ' H') (rel : Rel K μ' h' H')
    (r : XRep K μ' h'.length H' c fs cls dp) : W cls dp σ H' := by
  unfold finX at g
  cases e : (fs.all (fun p => p.2.cl h.length) && decide (h'.take h.length = h)) with
  | true =>
    rw [e] at g
    have q := Bool.and_eq_true_iff.mp e
    refine g μ' H' cls dp ⟨Nat.le_refl _, st.mu, st.tup⟩ (Rel.cut x rel (of_decide_eq_true q.2)) ⟨r.1, ?_⟩
    rcases r.2 with z | ⟨d, fv, z1, z2, z3⟩
    · exact .inl z
    · exact .inr ⟨d, fv, z1, z2, z3.cut q.1⟩
  | false =>
    rw [e] at g
    exact g μ' H' cls dp st rel r
end
/-- a def is what F says: at most level k, n arguments -/
structure Fn (P : Program) (w : World) (K : PySem.W.Frag) (mg : Str → Option Value) (base : Heap) (x : Str) (k n : Nat) (F : FN) : Prop where
  ex : ∃ f fd ps, FnOk P w K mg base (L2.CX P w) k f fd ps (spB K n F) ∧ mg x = some (.ref f) ∧ PySem.W.keepIn K (.ref f) = true ∧ Binds K fd ps []
theorem Fn.mono {P : Program} {w : World} {K : PySem.W.Frag} {mg : Str → Option Value} {base : Heap} {x : Str} {j k n : Nat} {F : FN} (C : Fn P w K mg base x j n F) (h : j ≤ k) : Fn P w K mg base x k n F :=
  let ⟨f, fd, ps, a, b⟩ := C.ex
  ⟨f, fd, ps, a.mono h, b⟩
/-- what a body's derivation may use -/
structure Ctx (X : Cx) (W : WX) (k : Nat) : Prop where
  room : Room k X.A
  pass : ∀ σ, PassesAt (L2.CX X.prog X.w) X σ (WE W σ)
  takes : L2.Takes X W
  own : PassesOwn (model X.prog X.w) X.A X.env X.xe
theorem Ctx.blk {X : Cx} {W : WX} {k : Nat} (C : Ctx X W k) {s : Shared} {H : Hp} {sc : Scope} {cenv : Env} {fp : List Addr} : Ctx (X.blk s H sc cenv fp) W0 k :=
  ⟨C.room, fun σ _ _ _ _ _ _ h => by
    obtain ⟨_, _, _, _, _, _, _, _, _, _, _, _, z⟩ := h
    exact z.elim, fun _ _ h => by
    obtain ⟨_, _, _, _, _, _, _, _, _, _, _, _, _, _, _, _, z⟩ := h
    exact z.elim, PassesOwn.never⟩
theorem body_ok {P : Program} {w : World} {K : PySem.W.Frag} {mg : Str → Option Value} {base : Heap} {N ps : List Str} {x qual : Str} {params : Arguments} {body : List Stmt} {scope : Scope} {dvs : List V} {kws : List (Str × V)} {f : Addr} {fd : FuncData} {k : Nat} {m : S}
    (F : FunD K x qual params body scope dvs kws f fd) (Sc : FnScope N ps scope)
    (hb : ∀ (cdv : Value) (A : Around) (outer : List Env) (s : Shared) (H : Hp) (Ee : XK), Ctx (cxOf (L2.CX P w) P w K mg base N qual scope f cdv A outer s H Ee) (fun c d _ H => Ee c d H) k → PSs (cxOf (L2.CX P w) P w K mg base N qual scope f cdv A outer s H Ee) body (tS K (fun c d _ H => Ee c d H) m)) :
    FnOk P w K mg base (L2.CX P w) (k + 1) f fd ps (spB K ps.length (fnB N.length m)) := by
  refine F.ok Sc (fun vs H Q Ee h => ?_) fun cdv A outer s H vs Q Ee hr h => ⟨_, hb cdv A outer s H Ee ⟨hr, passAt (takes_of rfl rfl rfl rfl), takes_of rfl rfl rfl rfl, passes_of rfl⟩, ?_⟩
  · obtain ⟨μ, h, ds, rel, r, hl, g⟩ := h
    rw [← r.length, hl]
  · obtain ⟨μ, h, ds, rel, r, hl, g⟩ := h
    refine ⟨μ, h, ds.map some ++ List.replicate (N.length - ds.length) none, rel, ?_, ?_⟩
    · unfold L2.start
      rw [r.length]
      exact SRep.start r
    · unfold fnB at g
      cases e : m (ds.map some ++ List.replicate (N.length - ds.length) none) h with
      | nx ρ' h' => rw [e] at g; exact fun μ' H' σ' st rel' sr => fin_rt rel g st rel' .non
      | rt d h' => rw [e] at g; exact fun μ' H' v st rel' rr => fin_rt rel g st rel' rr
      | exc c fs ρ' h' => rw [e] at g; exact fun μ' H' σ' cls dp st rel' sr xr => fin_exc (W := fun c d _ H => Ee c d H) rel g st rel' xr
      | bk ρ' h' => rw [e] at g; exact g.elim
      | ct ρ' h' => rw [e] at g; exact g.elim
      | bad => rw [e] at g; exact g.elim
def eCall (n : Nat) (F : FN) (a : EA) : E := fun ρ h => (a ρ h).bind fun ds h1 => if ds.length = n then F ds h1 else .bad
theorem b_call {X : Cx} {W : WX} {x : Str} {k j n : Nat} {F : FN} {p pos : Pos} {e : Expr} {es : List Expr} {m : EA} (C : Fn X.prog X.w X.K X.mg X.base x k n F) (Z : Ctx X W j) (hk : k ≤ j) (hg : Gl X x) (ha : PA X (e :: es) (tEA X.K W m))
    (hdb : (x == ("__debug__" : Str)) = false := by decide) (he : starEach (e :: es) X.env = (false, eval e X.env) :: starEach es X.env := by rfl) (hpl : (backTo pos (starEach es X.env)).any (·.1) = false := by rfl) :
    PE X (.Call (.Name x p) (e :: es) [] pos) (tE X.K W (eCall n F m)) := by
  obtain ⟨f, fd, ps, Fo, hm, kp, hb⟩ := C.ex
  refine PE.imp (pe_callSD (E := WE W) Fo (Z.room.mono hk) hg hm kp hb .nil Z.pass ha hdb he hpl) fun σ H Q q => ?_
  obtain ⟨μ, h, ρ, rel, sr, g⟩ := q
  refine ⟨μ, h, ρ, rel, sr, G.imp (fun vs H1 z => ?_) (G.bind (rp := rpL) g)⟩
  obtain ⟨μ1, ds, h1, st1, rel1, r1, g1⟩ := z
  by_cases hn : ds.length = n
  · rw [if_pos hn] at g1
    rw [List.append_nil]
    refine ⟨μ1, h1, ds, rel1, r1, hn, ?_⟩
    cases e : F ds h1 with
    | ok d h2 => rw [e] at g1; exact g1
    | exc c fs h2 => rw [e] at g1; exact g1
    | bad => rw [e] at g1; exact g1
  · rw [if_neg hn] at g1
    exact g1.elim
end Am

set_option Elab.async false
set_option linter.all false
set_option maxRecDepth 100000
set_option maxHeartbeats 2000000
namespace Am
open PySem L2
/-! ### dicts over plain data -/
def dget (kvs : List (D × D)) (k : D) : Option D := (kvs.find? fun p => decide (p.1 = k)).map (·.2)
def dput (kvs : List (D × D)) (k v : D) : List (D × D) := if (kvs.any fun p => decide (p.1 = k)) = true then kvs.map (fun p => if p.1 = k then (p.1, v) else p) else kvs ++ [(k, v)]
def ddrop (kvs : List (D × D)) (k : D) : List (D × D) := kvs.filter fun p => decide (p.1 ≠ k)
theorem keyD_inj {a b : D} {q : Key} (h1 : keyD a = some q) (h2 : keyD b = some q) : a = b := by
  cases a with
  | int i =>
    cases b with
    | int j => cases h1; have e := Option.some.inj h2; rw [Sum.inl.inj e]
    | str t => cases h1; have e := Option.some.inj h2; cases e
    | _ => cases h2
  | str s =>
    cases b with
    | int j => cases h1; have e := Option.some.inj h2; cases e
    | str t => cases h1; have e := Option.some.inj h2; rw [tx_inj (Sum.inr.inj e)]
    | _ => cases h2
  | _ => cases h1
theorem keyD_kV {d : D} {q : Key} {μ : Nat → Addr} {N : Nat} {H : Hp} {v : V} (h : keyD d = some q) (r : Rep μ N H d v) : v = kV q := by
  cases r <;> simp only [keyD, Option.some.injEq] at h <;> first | (subst h; rfl) | cases h
section
variable {μ : Nat → Addr} {N : Nat} {H : Hp}
theorem KRep.length : ∀ {ks : List (D × D)} {qs : List (Key × V)}, KRep μ N H ks qs → ks.length = qs.length
  | _, _, .nil => rfl
  | _, _, .cons _ _ r => by simp [KRep.length r]
theorem key_dec {a b : D} {p q : Key} (h1 : keyD a = some p) (h2 : keyD b = some q) : (a = b) ↔ (p = q) := by
  constructor
  · intro e; subst e; rw [h1] at h2; exact Option.some.inj h2
  · intro e; subst e; exact keyD_inj h1 h2
theorem KRep.get {k : D} {q : Key} (hk : keyD k = some q) : ∀ {ks : List (D × D)} {qs : List (Key × V)}, KRep μ N H ks qs → (∀ d, dget ks k = some d → ∃ v, valV qs q = some v ∧ Rep μ N H d v) ∧ (dget ks k = none → valV qs q = none)
  | _, _, .nil => ⟨fun d h => (by cases h), fun _ => rfl⟩
  | _, _, .cons (k := a) (d := x) (q := p) (v := v) (ks := ks) (qs := qs) e r rs => by
    have ih := KRep.get hk rs
    by_cases ea : a = k
    · have ep : p = q := (key_dec e hk).mp ea
      have e1 : dget ((a, x) :: ks) k = some x := by simp [dget, List.find?_cons, ea]
      have e2 : valV ((p, v) :: qs) q = some v := valV_pos ep
      rw [e1, e2]
      exact ⟨fun d h => (by cases h; exact ⟨v, rfl, r⟩), fun h => (by cases h)⟩
    · have ep : ¬ p = q := fun z => ea ((key_dec e hk).mpr z)
      have e1 : dget ((a, x) :: ks) k = dget ks k := by simp [dget, List.find?_cons, ea]
      have e2 : valV ((p, v) :: qs) q = valV qs q := valV_neg ep
      rw [e1, e2]
      exact ih
theorem KRep.any {k : D} {q : Key} (hk : keyD k = some q) : ∀ {ks : List (D × D)} {qs : List (Key × V)}, KRep μ N H ks qs → (ks.any fun p => decide (p.1 = k)) = (qs.any fun p => decide (p.1 = q))
  | _, _, .nil => rfl
  | _, _, .cons e r rs => by
    rw [List.any_cons, List.any_cons, KRep.any hk rs, decide_eq_decide.mpr (key_dec e hk)]
theorem KRep.map {k d : D} {q : Key} {v : V} (hk : keyD k = some q) (rd : Rep μ N H d v) : ∀ {ks : List (D × D)} {qs : List (Key × V)}, KRep μ N H ks qs → KRep μ N H (ks.map fun p => if p.1 = k then (p.1, d) else p) (qs.map fun p => if p.1 = q then (p.1, v) else p)
  | _, _, .nil => .nil
  | _, _, .cons (k := a) (q := p) e r rs => by
    rw [List.map_cons, List.map_cons]
    by_cases ea : a = k
    · rw [if_pos ea, if_pos ((key_dec e hk).mp ea)]
      exact .cons e rd (KRep.map hk rd rs)
    · rw [if_neg ea, if_neg fun z => ea ((key_dec e hk).mpr z)]
      exact .cons e r (KRep.map hk rd rs)
theorem KRep.snoc {k d : D} {q : Key} {v : V} (hk : keyD k = some q) (rd : Rep μ N H d v) : ∀ {ks : List (D × D)} {qs : List (Key × V)}, KRep μ N H ks qs → KRep μ N H (ks ++ [(k, d)]) (qs ++ [(q, v)])
  | _, _, .nil => .cons hk rd .nil
  | _, _, .cons e r rs => .cons e r (KRep.snoc hk rd rs)
theorem KRep.put {k d : D} {q : Key} {v : V} (hk : keyD k = some q) (rd : Rep μ N H d v) {ks : List (D × D)} {qs : List (Key × V)} (r : KRep μ N H ks qs) : KRep μ N H (dput ks k d) (putK qs q v) := by
  unfold dput putK
  rw [r.any hk]
  split
  · exact r.map hk rd
  · exact r.snoc hk rd
theorem KRep.drop {k : D} {q : Key} (hk : keyD k = some q) : ∀ {ks : List (D × D)} {qs : List (Key × V)}, KRep μ N H ks qs → KRep μ N H (ddrop ks k) (dropK qs q)
  | _, _, .nil => .nil
  | _, _, .cons (k := a) (q := p) e r rs => by
    unfold ddrop dropK
    rw [List.filter_cons, List.filter_cons]
    by_cases ea : a = k
    · have := (key_dec e hk).mp ea
      simp only [ea, this, ne_eq, not_true_eq_false, decide_false, Bool.false_eq_true, if_false]
      exact KRep.drop hk rs
    · have hp : ¬ p = q := fun z => ea ((key_dec e hk).mpr z)
      simp only [ea, hp, ne_eq, not_false_eq_true, decide_true, if_true]
      exact .cons e r (KRep.drop hk rs)
end
def dicOf (h : Hq) (n : Nat) : Option (List (D × D)) := match h[n]? with
  | some (.dic kvs) => some kvs
  | _ => none
theorem dicOf_some {h : Hq} {n : Nat} {kvs : List (D × D)} (e : dicOf h n = some kvs) : h[n]? = some (.dic kvs) := by
  unfold dicOf at e
  split at e
  · rename_i q; cases e; exact q
  · cases e
/-- what a dict holds at a key -/
def look (h : Hq) (n : Nat) (k : D) : Option (Option D) := match dicOf h n with
  | some kvs => if (keyD k).isSome then some (dget kvs k) else none
  | none => none
section
variable {K : PySem.W.Frag} {μ : Nat → Addr} {h : Hq} {H : Hp}
theorem Rel.dic {n : Nat} {kvs : List (D × D)} (rel : Rel K μ h H) (e : dicOf h n = some kvs) : ∃ kk, H (μ n) = some (.dK kk) ∧ KRep μ h.length H kvs kk := rel.obj n _ (dicOf_some e)
theorem Rel.look {n : Nat} {k : D} {o : Option D} {y : V} (rel : Rel K μ h H) (e : look h n k = some o) (r : Rep μ h.length H k y) : ∃ ov, DGet H (μ n) y ov ∧ (∀ d, o = some d → ∃ v, ov = some v ∧ Rep μ h.length H d v) ∧ (o = none → ov = none) := by
  unfold Am.look at e
  cases e1 : dicOf h n with
  | none => rw [e1] at e; cases e
  | some kvs =>
    rw [e1] at e
    simp only at e
    cases e2 : keyD k with
    | none => rw [e2] at e; simp at e
    | some q =>
      rw [e2] at e
      simp only [Option.isSome_some, if_true, Option.some.injEq] at e
      subst e
      obtain ⟨kk, hH, kr⟩ := rel.dic e1
      obtain ⟨g1, g2⟩ := kr.get e2
      rw [keyD_kV e2 r]
      exact ⟨_, .k hH, g1, g2⟩
theorem Rel.putDic {n : Nat} {kvs kvs' : List (D × D)} {kk kk' : List (Key × V)} (rel : Rel K μ h H) (hn : h[n]? = some (.dic kvs)) (hu : H (μ n) = some (.dK kk)) (r : KRep μ h.length H kvs' kk') :
    Rel K μ (h.set n (.dic kvs')) (upd H (μ n) (.dK kk')) ∧ Stp h.length μ H (h.set n (.dic kvs')).length μ (upd H (μ n) (.dK kk')) := by
  have st : Stp h.length μ H h.length μ (upd H (μ n) (.dK kk')) := stp_put (o := .dic kvs) hu fun _ z => nomatch z
  refine ⟨rel.put hn rfl rfl hu (fun _ z => nomatch z) (fun _ _ z => nomatch z) ⟨kk', upd_same, r.mono st⟩, ?_⟩
  rw [List.length_set]
  exact st
end
/-! ### a[i] -/
def ixD : Op2 := fun d e h => match d, e with
  | .tup xs, .int i => (atI xs i).map fun x => (x, h)
  | .str s, .int i => if s.length ≤ lim then (atI s i).map fun c => (.str [c], h) else none
  | .ref n, k => match lstOf h (.ref n), k with
    | some xs, .int i => (atI xs i).map fun x => (x, h)
    | some _, _ => none
    | none, k => match look h n k with
      | some (some v) => some (v, h)
      | _ => none
  | _, _ => none
section
variable {X : Cx} {W : WX}
def rIxDic : R2 := fun x y H Q => ∃ a v, x = .ref a ∧ DGet H a y (some v) ∧ Q v H
theorem ix_dic (hu : X.A.units + 1 < cLine) : IxR X rIxDic := by
  intro value slice pins s σ H x y v u Q I rx ry h hs
  obtain ⟨a, z, rfl, g, q⟩ := h
  cases rx
  have hT := dict_typeIs I g
  exact PyProof.Rows.tail_any hT PySem.F.slot_dict_getitem.lookup (d_getItem hu I g ry fun w' s3 I3 rw' => ⟨z, H, I3, rw', q⟩) hs
end
end Am

set_option Elab.async false
set_option linter.all false
set_option maxRecDepth 100000
set_option maxHeartbeats 2000000
namespace Am
open PySem L2
section
variable {X : Cx} {W : WX} {pos : Pos}
theorem x_mk {f : Op2} (k : ∀ (μ : Nat → Addr) (h : Hq) (H : Hp) (d e : D) (x y : V) (a : D) (h' : Hq) (Q : VK), Rel X.K μ h H → Rep μ h.length H d x → Rep μ h.length H e y → f d e h = some (a, h') →
    (∀ μ' H' b, Stp h.length μ H h'.length μ' H' → Rel X.K μ' h' H' → Rep μ' h'.length H' a b → Q b H') → ∃ r, IxR X r ∧ r x y H Q) : IxR X (rD X.K f) := fun value slice pins s σ H x y v u Q I rx ry q hs => by
  obtain ⟨μ, h, d, e, rel, r1, r2, a, h', ef, kk⟩ := q
  obtain ⟨r, hr, hq⟩ := k μ h H d e x y a h' Q rel r1 r2 ef kk
  exact hr value slice pins s σ H x y v u Q I rx ry hq hs
theorem atI_rep {μ : Nat → Addr} {N : Nat} {H : Hp} {xs : List D} {vs : List V} {i : Int} {d : D} (r : Reps μ N H xs vs) (e : atI xs i = some d) : ∃ v, atI vs i = some v ∧ Rep μ N H d v := by
  unfold atI at e ⊢
  rw [← r.length]
  cases q : ixN xs.length i with
  | none => rw [q] at e; cases e
  | some j =>
    rw [q] at e
    exact r.get (show xs[j]? = some d from e)
theorem x_ix (hu : X.A.units + 1 < cLine) : IxR X (rD X.K ixD) := x_mk fun μ h H d e x y a h' Q rel r1 r2 ef k => by
  cases r1 with
  | tup ha rs =>
    rename_i p xs vs
    cases r2 with
    | int i =>
      simp only [ixD] at ef
      cases q : atI xs i with
      | none => rw [q] at ef; cases ef
      | some z =>
        rw [q] at ef
        cases ef
        obtain ⟨v, hv, rv⟩ := atI_rep rs q
        exact ⟨_, ix_tup, p, vs, i, v, rfl, rfl, .of ha, hv, fin_same rel rv k⟩
    | _ => cases ef
  | str s =>
    cases r2 with
    | int i =>
      simp only [ixD] at ef
      by_cases hz : s.length ≤ lim
      · rw [if_pos hz] at ef
        cases q : atI s i with
        | none => rw [q] at ef; cases ef
        | some c =>
          rw [q] at ef
          cases ef
          refine ⟨_, ix_str, tx s, i, c, rfl, rfl, by rw [tx_len, lim_eq]; exact hz, by simpa [tx] using q, fin_same rel (.str [c]) k⟩
      · rw [if_neg hz] at ef; cases ef
    | _ => cases ef
  | ref hn =>
    rename_i n
    simp only [ixD] at ef
    cases el : lstOf h (.ref n) with
    | some xs =>
      rw [el] at ef
      cases r2 with
      | int i =>
        simp only at ef
        cases q : atI xs i with
        | none => rw [q] at ef; cases ef
        | some z =>
          rw [q] at ef
          cases ef
          obtain ⟨b, vs, eb, hs, rs⟩ := rel.read el (.ref hn)
          obtain ⟨v, hv, rv⟩ := atI_rep rs q
          exact ⟨_, ix_list, b, vs, i, v, eb, rfl, hs, hv, fin_same rel rv k⟩
      | _ => cases ef
    | none =>
      rw [el] at ef
      simp only at ef
      cases q : look h n e with
      | none => rw [q] at ef; cases ef
      | some o =>
        cases o with
        | none => rw [q] at ef; cases ef
        | some z =>
          rw [q] at ef
          cases ef
          obtain ⟨ov, g, g1, _⟩ := rel.look q r2
          obtain ⟨v, rfl, rv⟩ := g1 _ rfl
          exact ⟨_, ix_dic hu, _, v, rfl, g, fin_same rel rv k⟩
  | _ => cases ef
theorem b_ix {a b : Expr} {ma mb : E} (hu : X.A.units + 1 < cLine) (ha : PE X a (tE X.K W ma)) (hb : PE X b (tE X.K W mb)) (hs : PlainIx b := by intro _ _; rfl) : PE X (.Subscript a b pos) (tE X.K W (eBin ixD ma mb)) :=
  PE.imp (pe_ix (x_ix hu) ha hb hs) fun _ _ _ => eBin_of
/-! ### slices -/
def cutD (xs : List α) (lo hi : Option Int) : List α := (xs.drop (HT.sIx xs.length 0 lo)).take (HT.sIx xs.length xs.length hi - HT.sIx xs.length 0 lo)
def slD (d : D) (lo hi : Option Int) (h : Hq) : Option (D × Hq) := match d with
  | .str s => if s.length ≤ lim then some (.str (cutD s lo hi), h) else none
  | .tup xs => some (.tup (cutD xs lo hi), h)
  | .ref n => (lstOf h (.ref n)).bind fun xs => newL (cutD xs lo hi) h
  | _ => none
abbrev EO := Ev → Hq → R (Option Int)
def oNo : EO := fun _ h => .ok none h
def oYes (e : E) : EO := fun ρ h => (e ρ h).bind fun d h1 => match d with
  | .int i => .ok (some i) h1
  | _ => .bad
def eSl (e : E) (lo hi : EO) : E := fun ρ h => (e ρ h).bind fun d h1 => (lo ρ h1).bind fun l h2 => (hi ρ h2).bind fun u h3 => .of (slD d l u h3)
abbrev rpO : RpT (Option Int) (Option Int) := fun _ _ _ a b => a = b
def tO (K : PySem.W.Frag) (W : WX) (m : EO) : TO := fun σ H Q => ∃ μ h ρ, Rel K μ h H ∧ SRep μ h.length H ρ σ ∧ G K W σ h.length μ H rpO (m ρ h) Q
theorem PO.imp {e : Option Expr} {t t' : TO} (h : PO X e t) (k : ∀ σ H Q, t' σ H Q → t σ H Q) : PO X e t' := ⟨fun pins s σ H Q I q => h.run pins s σ H Q I (k σ H Q q)⟩
theorem o_no : PO X none (tO X.K W oNo) := PO.imp po_none fun σ H Q ⟨μ, h, ρ, rel, sr, g⟩ => g μ H none .refl rel rfl
theorem o_yes {e : Expr} {me : E} (he : PE X e (tE X.K W me)) : PO X (some e) (tO X.K W (oYes me)) :=
  PO.imp (po_some he) fun σ H Q q => by
    obtain ⟨μ, h, ρ, rel, sr, g⟩ := q
    refine ⟨μ, h, ρ, rel, sr, G.imp (fun x H1 z => ?_) (G.bind (rp := rpD) g)⟩
    obtain ⟨μ1, d, h1, st1, rel1, r1, g1⟩ := z
    cases r1 with
    | int i => exact ⟨i, rfl, g1 μ1 H1 _ .refl rel1 rfl⟩
    | _ => exact g1.elim
theorem Reps.cutV {μ : Nat → Addr} {N : Nat} {H : Hp} {xs : List D} {vs : List V} (r : Reps μ N H xs vs) (lo hi : Option Int) : Reps μ N H (cutD xs lo hi) (L2.cutV vs lo hi) := by
  unfold cutD L2.cutV
  rw [r.length]
  exact (r.drop _).take _
def rSlD (K : PySem.W.Frag) : V → Option Int → Option Int → Hp → VK → Prop := fun x lo hi H Q => ∃ μ h d, Rel K μ h H ∧ Rep μ h.length H d x ∧
  ∃ a h', slD d lo hi h = some (a, h') ∧ ∀ μ' H' b, Stp h.length μ H h'.length μ' H' → Rel K μ' h' H' → Rep μ' h'.length H' a b → Q b H'
theorem sl_any : SlR X (rSlD X.K) := by
  intro pins s σ H x v vl vu lo hi sl Q I rx hs pl pu q
  obtain ⟨μ, h, d, rel, r, a, h', ef, k⟩ := q
  cases r with
  | str t =>
    simp only [slD] at ef
    by_cases hz : t.length ≤ lim
    · rw [if_pos hz] at ef
      cases ef
      exact sl_str pins s σ H _ v vl vu lo hi sl Q I rx hs pl pu ⟨tx t, rfl, by rw [tx_len, lim_eq]; exact hz, fin_same rel (.str (cutD t lo hi)) k⟩
    · rw [if_neg hz] at ef; cases ef
  | tup ha rs =>
    rename_i p xs vs
    cases ef
    refine sl_tupA pins s σ H _ v vl vu lo hi sl Q I rx hs pl pu ⟨p, vs, rfl, .of ha, fun z => ?_, fun z q hq => fin_tup rel (rs.cutV lo hi) hq k⟩
    have e : cutD xs lo hi = xs := by
      unfold cutD
      rw [rs.length, z.1, z.2]
      simp [← rs.length]
    rw [e] at k
    exact fin_same rel (.tup ha rs) k
  | ref hn =>
    rename_i n
    simp only [slD] at ef
    cases el : lstOf h (.ref n) with
    | none => rw [el] at ef; cases ef
    | some xs =>
      rw [el] at ef
      obtain ⟨b, vs, eb, hs', rs⟩ := rel.read el (.ref hn)
      obtain ⟨_, kk⟩ := fin_list rel (rs.cutV lo hi) ef k
      exact sl_list pins s σ H _ v vl vu lo hi sl Q I rx hs pl pu ⟨b, vs, eb, hs', kk⟩
  | _ => cases ef
theorem b_sl {e : Expr} {lo hi : Option Expr} {p2 : Pos} {me : E} {ml mh : EO} (he : PE X e (tE X.K W me)) (hl : PO X lo (tO X.K W ml)) (hh : PO X hi (tO X.K W mh)) : PE X (.Subscript e (.Slice lo hi none p2) pos) (tE X.K W (eSl me ml mh)) :=
  PE.imp (pe_slice sl_any he hl hh) fun σ H Q q => by
    obtain ⟨μ, h, ρ, rel, sr, g⟩ := q
    refine ⟨μ, h, ρ, rel, sr, G.imp (fun x H1 z => ?_) (G.bind (rp := rpD) g)⟩
    obtain ⟨μ1, d, h1, st1, rel1, r1, g1⟩ := z
    refine ⟨μ1, h1, ρ, rel1, sr.mono st1, G.imp (fun l H2 z => ?_) (G.bind (rp := rpO) g1)⟩
    obtain ⟨μ2, l', h2, st2, rel2, r2, g2⟩ := z
    have r2' : l' = l := r2
    subst r2'
    refine ⟨μ2, h2, ρ, rel2, (sr.mono st1).mono st2, G.imp (fun u H3 z => ?_) (G.bind (rp := rpO) g2)⟩
    obtain ⟨μ3, u', h3, st3, rel3, r3, g3⟩ := z
    have r3' : u' = u := r3
    subst r3'
    refine ⟨μ3, h3, d, rel3, (r1.mono st2).mono st3, ?_⟩
    cases q : slD d l' u' h3 with
    | none => rw [q] at g3; exact g3.elim
    | some z => rw [q] at g3; exact ⟨_, _, rfl, g3⟩
/-- xs[::-1] of a list -/
def eRev (e : E) : E := fun ρ h => (e ρ h).bind fun d h1 => match lstOf h1 d with
  | some xs => .of (newL xs.reverse h1)
  | none => .bad
theorem b_rev {e : Expr} {me : E} {k : Nat} {p1 p2 p3 : Pos} (he : PE X e (tE X.K W me)) : PE X (.Subscript e (.Slice none none (some (.UnaryOp .USub (.Constant (.int 1) k p1) p2)) p3) pos) (tE X.K W (eRev me)) :=
  PE.imp (pe_revL he) fun σ H Q q => by
    obtain ⟨μ, h, ρ, rel, sr, g⟩ := q
    refine ⟨μ, h, ρ, rel, sr, G.imp (fun x H1 z => ?_) (G.bind (rp := rpD) g)⟩
    obtain ⟨μ1, d, h1, st1, rel1, r1, g1⟩ := z
    cases el : lstOf h1 d with
    | none => rw [el] at g1; exact g1.elim
    | some xs =>
      rw [el] at g1
      obtain ⟨b, vs, eb, hs', rs⟩ := rel1.read el r1
      simp only at g1
      cases en : newL xs.reverse h1 with
      | none => rw [en] at g1; exact g1.elim
      | some z =>
        obtain ⟨a, h'⟩ := z
        rw [en] at g1
        obtain ⟨_, kk⟩ := fin_list rel1 rs.reverse en g1
        exact ⟨b, vs, eb, hs', kk⟩
/-! ### a[i] = v -/
def putI (d e v : D) (h : Hq) : Option Hq := match d with
  | .ref n => match mutL h (.ref n) with
    | some xs => match e with
      | .int i => (ixN xs.length i).map fun j => h.set n (.lst (xs.set j v))
      | _ => none
    | none => match dicOf h n with
      | some kvs => if (keyD e).isSome && decide (kvs.length < lim) then some (h.set n (.dic (dput kvs e v))) else none
      | none => none
  | _ => none
def rPutI (K : PySem.W.Frag) : TSet := fun o i v H Q => ∃ μ h d e a h', Rel K μ h H ∧ Rep μ h.length H d o ∧ Rep μ h.length H e i ∧ Rep μ h.length H a v ∧ putI d e a h = some h' ∧
  ∀ μ' H', Stp h.length μ H h'.length μ' H' → Rel K μ' h' H' → Q H'
theorem Reps.set {μ : Nat → Addr} {N : Nat} {H : Hp} {d : D} {v : V} (r : Rep μ N H d v) : ∀ {xs : List D} {vs : List V} (i : Nat), Reps μ N H xs vs → Reps μ N H (xs.set i d) (vs.set i v)
  | _, _, _, .nil => .nil
  | _, _, 0, .cons _ t => .cons r t
  | _, _, i + 1, .cons q t => .cons q (Reps.set r i t)
theorem put_any (hu : X.A.units + 1 < cLine) : PSet X (rPutI X.K) := by
  intro pins s σ H o i v ov iv u Q I ro ri rv q
  obtain ⟨μ, h, d, e, a, h', rel, r1, r2, r3, ef, k⟩ := q
  cases r1 with
  | ref hn =>
    rename_i n
    simp only [putI] at ef
    cases em : mutL h (.ref n) with
    | some xs =>
      rw [em] at ef
      cases r2 with
      | int j =>
        simp only at ef
        cases ej : ixN xs.length j with
        | none => rw [ej] at ef; cases ef
        | some t =>
          rw [ej] at ef
          cases ef
          obtain ⟨vs, hH, rs⟩ := rel.lst (mutL_ref em)
          obtain ⟨p1, p2⟩ := rel.putList (mutL_ref em) hH (rs.set r3 t)
          exact set_list pins s σ H _ _ _ ov iv u Q I ro ri rv ⟨_, vs, j, t, rfl, rfl, hH, by rw [← rs.length]; exact ej, k μ _ p2 p1⟩
      | _ => cases ef
    | none =>
      rw [em] at ef
      simp only at ef
      cases ed : dicOf h n with
      | none => rw [ed] at ef; cases ef
      | some kvs =>
        rw [ed] at ef
        simp only at ef
        cases ek : keyD e with
        | none => rw [ek] at ef; simp at ef
        | some q =>
          rw [ek] at ef
          simp only [Option.isSome_some, Bool.true_and, decide_eq_true_eq] at ef
          by_cases hz : kvs.length < lim
          · rw [if_pos hz] at ef
            cases ef
            obtain ⟨kk, hH, kr⟩ := rel.dic ed
            obtain ⟨p1, p2⟩ := rel.putDic (dicOf_some ed) hH (kr.put ek r3)
            cases ro
            have hput : DPut H (μ n) i v (upd H (μ n) (.dK (putK kk q v))) := by
              rw [keyD_kV ek r2]
              exact DPut.k hH (by rw [lim_eq, ← kr.length]; exact hz)
            exact d_setItem hu I hput ri rv fun s' I' => ⟨_, I', k μ _ p2 p1⟩
          · rw [if_neg hz] at ef; cases ef
  | _ => cases ef
def gSb (mo mi : E) : T := fun d ρ h => match mo ρ h with
  | .ok o h1 => match mi ρ h1 with
    | .ok i h2 => (putI o i d h2).map fun h3 => (ρ, h3)
    | _ => none
  | _ => none
theorem g_sb {o i : Expr} {mo mi : E} (hu : X.A.units + 1 < cLine) (ho : PE X o (tE X.K W mo)) (hi : PE X i (tE X.K W mi))
    (ha : ∀ v, assign (.Subscript o i pos) X.env v = (do
      let ov ← holding [v] (eval o X.env)
      let iv ← holding [v, ov] (eval i X.env)
      standAt pos
      holding [v, ov, iv] (setItem ov iv v)
      release [v, ov, iv] []) := by intro _; rfl) : PG X (.Subscript o i pos) (tT X.K (gSb mo mi)) :=
  PG.imp (pg_sub ho hi (put_any hu) ha) fun v σ H Q q => by
    obtain ⟨μ, h, ρ, d, ρ', h', rel, sr, r, eg, k⟩ := q
    refine ⟨μ, h, ρ, rel, sr, ?_⟩
    unfold gSb at eg
    cases e1 : mo ρ h with
    | ok od h1 =>
      rw [e1] at eg
      intro μ1 H1 x st1 rel1 r1
      refine ⟨μ1, h1, ρ, rel1, sr.mono st1, ?_⟩
      simp only at eg
      cases e2 : mi ρ h1 with
      | ok id h2 =>
        rw [e2] at eg
        intro μ2 H2 y st2 rel2 r2
        simp only at eg
        cases e3 : putI od id d h2 with
        | none => rw [e3] at eg; cases eg
        | some h3 =>
          rw [e3] at eg
          cases eg
          exact ⟨μ2, h2, od, id, d, _, rel2, r1.mono st2, r2, (r.mono st1).mono st2, e3, fun μ3 H3 st3 rel3 => k μ3 H3 σ ((st1.trans st2).trans st3) rel3 (((sr.mono st1).mono st2).mono st3)⟩
      | exc c fs h2 => rw [e2] at eg; cases eg
      | bad => rw [e2] at eg; cases eg
    | exc c fs h1 => rw [e1] at eg; cases eg
    | bad => rw [e1] at eg; cases eg
end
end Am

set_option Elab.async false
set_option linter.all false
set_option maxRecDepth 100000
set_option maxHeartbeats 2000000
namespace Am
open PySem L2
/-! ### in, for dicts too -/
def drefOf (h : Hq) : D → Option Nat
  | .ref n => match h[n]? with
    | some (.dic _) => some n
    | _ => none
  | _ => none
def inG (g : Bool → Bool) : Op2 := fun d e h => match drefOf h e with
  | some n => (look h n d).map fun o => (.bl (g o.isSome), h)
  | none => (inB h d e).map fun b => (.bl (g b), h)
abbrev inX : Op2 := inG fun b => b
abbrev niX : Op2 := inG fun b => !b
section
variable {X : Cx} {W : WX} {pos : Pos}
theorem drefOf_some {h : Hq} {d : D} {n : Nat} (e : drefOf h d = some n) : d = .ref n := by
  cases d with
  | ref m =>
    simp only [drefOf] at e
    split at e
    · cases e; rfl
    · cases e
  | _ => cases e
theorem o_inG {op : CmpOp} {g : Bool → Bool} (ho : OpR X (compareOp op) (rD X.K fun d e h => (inB h d e).map fun b => (.bl (g b), h)))
    (hd : OpR X (compareOp op) (fun x y H Q => ∃ a ov, y = .ref a ∧ DGet H a x ov ∧ Q (.bl (g ov.isSome)) H)) : OpR X (compareOp op) (rD X.K (inG g)) := rD_mk fun μ h H d e x y a h' Q rel r1 r2 ef k => by
  cases er : drefOf h e with
  | some n =>
    unfold inG at ef
    rw [er] at ef
    simp only at ef
    cases el : look h n d with
    | none => rw [el] at ef; cases ef
    | some o =>
      rw [el] at ef
      cases ef
      have := drefOf_some er
      subst this
      cases r2
      obtain ⟨ov, g0, g1, g2⟩ := rel.look el r1
      refine ⟨_, hd, _, ov, rfl, g0, ?_⟩
      have e2 : ov.isSome = o.isSome := by
        cases o with
        | none => rw [g2 rfl]; rfl
        | some d => obtain ⟨v, e3, _⟩ := g1 d rfl; rw [e3]; rfl
      rw [e2]
      exact fin_same rel (.bl _) k
  | none =>
    refine ⟨_, ho, μ, h, d, e, rel, r1, r2, a, h', ?_, k⟩
    unfold inG at ef
    rw [er] at ef
    exact ef
theorem o_inX (hu : X.A.units + 65 < cLine) : OpR X (compareOp .In) (rD X.K inX) := o_inG (o_in hu) fun pins s σ H x y v u Q I rx ry h => by
  obtain ⟨a, ov, rfl, g, q⟩ := h
  cases ry
  exact d_in (by omega) I g rx fun s' I' => ⟨.bl _, H, I', rfl, q⟩
theorem o_niX (hu : X.A.units + 65 < cLine) : OpR X (compareOp .NotIn) (rD X.K niX) := o_inG (g := fun b => !b) (o_ni hu) fun pins s σ H x y v u Q I rx ry h => by
  obtain ⟨a, ov, rfl, g, q⟩ := h
  cases ry
  exact d_notIn (by omega) I g rx fun s' I' => ⟨.bl _, H, I', rfl, q⟩
/-! ### calls of built-ins -/
abbrev OpN := List D → Hq → Option (D × Hq)
def eFn (f : OpN) (a : EA) : E := fun ρ h => (a ρ h).bind fun ds h1 => .of (f ds h1)
def rN (K : PySem.W.Frag) (f : OpN) : List V → Hp → VK → Prop := fun vs H Q => ∃ μ h ds, Rel K μ h H ∧ Reps μ h.length H ds vs ∧
  ∃ a h', f ds h = some (a, h') ∧ ∀ μ' H' b, Stp h.length μ H h'.length μ' H' → Rel K μ' h' H' → Rep μ' h'.length H' a b → Q b H'
theorem eFn_of {f : OpN} {m : EA} {σ : L2.St} {H : Hp} {Q : VK} (q : tE X.K W (eFn f m) σ H Q) : tCB (rN X.K f) (tEA X.K W m) σ H Q := by
  obtain ⟨μ, h, ρ, rel, sr, g⟩ := q
  refine ⟨μ, h, ρ, rel, sr, G.imp (fun vs H1 z => ?_) (G.bind (rp := rpL) g)⟩
  obtain ⟨μ1, ds, h1, st1, rel1, r1, g1⟩ := z
  cases e : f ds h1 with
  | none => rw [e] at g1; exact g1.elim
  | some z => rw [e] at g1; exact ⟨μ1, h1, ds, rel1, r1, z.1, z.2, e, g1⟩
variable {x : Str} {p : Pos} {e : Expr} {es : List Expr} {m : EA} {id T : String} {f : OpN}
theorem b_fnB (hc : CallR X (.builtin id) (rN X.K f)) (hg : Gl X x) (hm : X.mg x = none) (hv : bootBuiltins x = some (.builtin id)) (ha : PA X (e :: es) (tEA X.K W m)) (hn : x ≠ "__name__" := by decide) (hdb : (x == ("__debug__" : Str)) = false := by decide)
    (he : starEach (e :: es) X.env = (false, eval e X.env) :: starEach es X.env := by rfl) (hpl : (backTo pos (starEach es X.env)).any (·.1) = false := by rfl) : PE X (.Call (.Name x p) (e :: es) [] pos) (tE X.K W (eFn f m)) :=
  PE.imp (pe_callB hc hg hm hv ha hn hdb he hpl) fun _ _ _ => eFn_of
theorem b_fnT (hc : CallR X (.type T) (rN X.K f)) (hg : Gl X x) (hm : X.mg x = none) (hv : bootBuiltins x = some (.type T)) (ha : PA X (e :: es) (tEA X.K W m)) (hn : x ≠ "__name__" := by decide) (hdb : (x == ("__debug__" : Str)) = false := by decide)
    (he : starEach (e :: es) X.env = (false, eval e X.env) :: starEach es X.env := by rfl) (hpl : (backTo pos (starEach es X.env)).any (·.1) = false := by rfl) : PE X (.Call (.Name x p) (e :: es) [] pos) (tE X.K W (eFn f m)) :=
  PE.imp (pe_callTy hc hg hm hv ha hn hdb he hpl) fun _ _ _ => eFn_of
theorem n_mk {c : Value} (k : ∀ (μ : Nat → Addr) (h : Hq) (H : Hp) (ds : List D) (vs : List V) (a : D) (h' : Hq) (Q : VK), Rel X.K μ h H → Reps μ h.length H ds vs → f ds h = some (a, h') →
    (∀ μ' H' b, Stp h.length μ H h'.length μ' H' → Rel X.K μ' h' H' → Rep μ' h'.length H' a b → Q b H') → ∃ r, CallR X c r ∧ r vs H Q) : CallR X c (rN X.K f) := fun pins s σ H vs us Q I rv q => by
  obtain ⟨μ, h, ds, rel, r, a, h', ef, kk⟩ := q
  obtain ⟨rr, hr, hq⟩ := k μ h H ds vs a h' Q rel r ef kk
  exact hr pins s σ H vs us Q I rv hq
def lenD : OpN
  | [.str s], h => if s.length ≤ lim then some (.int s.length, h) else none
  | [.tup xs], h => some (.int xs.length, h)
  | [.ref n], h => match lstOf h (.ref n) with
    | some xs => some (.int xs.length, h)
    | none => (dicOf h n).map fun kvs => (.int kvs.length, h)
  | _, _ => none
theorem c_len : CallR X (.builtin "len") (rN X.K lenD) := n_mk fun μ h H ds vs a h' Q rel r ef k => by
  cases r with
  | nil => cases ef
  | cons r1 rs =>
    cases rs with
    | cons _ _ => cases r1 <;> cases ef
    | nil =>
      cases r1 with
      | str s =>
        simp only [lenD] at ef
        by_cases hz : s.length ≤ lim
        · rw [if_pos hz] at ef; cases ef
          exact ⟨_, call_len, _, _, rfl, ⟨by rw [tx_len, lim_eq]; exact hz, rfl⟩, fin_same rel (.int _) k⟩
        · rw [if_neg hz] at ef; cases ef
      | tup ha rs =>
        cases ef
        refine ⟨_, call_len, _, _, rfl, .inr ⟨_, .of ha, rfl⟩, ?_⟩
        rw [← rs.length]
        exact fin_same rel (.int _) k
      | ref hn =>
        rename_i n
        simp only [lenD] at ef
        cases el : lstOf h (.ref n) with
        | some xs =>
          rw [el] at ef
          cases ef
          obtain ⟨b, vs, eb, hs, rs⟩ := rel.read el (.ref hn)
          cases eb
          refine ⟨_, call_len, _, _, rfl, .inl ⟨_, hs, rfl⟩, ?_⟩
          rw [← rs.length]
          exact fin_same rel (.int _) k
        | none =>
          rw [el] at ef
          simp only at ef
          cases ed : dicOf h n with
          | none => rw [ed] at ef; cases ef
          | some kvs =>
            rw [ed] at ef
            cases ef
            obtain ⟨kk, hH, kr⟩ := rel.dic ed
            refine ⟨_, call_lenD, _, _, rfl, hH, ?_⟩
            rw [← kr.length]
            exact fin_same rel (.int _) k
      | _ => cases ef
def intD : OpN
  | [.int i], h => some (.int i, h)
  | [.bl b], h => some (.int (if b then 1 else 0), h)
  | _, _ => none
theorem c_int : CallR X (.type "int") (rN X.K intD) := n_mk fun μ h H ds vs a h' Q rel r ef k => by
  cases r with
  | nil => cases ef
  | cons r1 rs =>
    cases rs with
    | cons _ _ => cases r1 <;> cases ef
    | nil =>
      cases r1 with
      | int i => cases ef; exact ⟨_, call_int1, .inl ⟨_, rfl, fin_same rel (.int _) k⟩⟩
      | bl b => cases ef; exact ⟨_, call_int1, .inr ⟨_, rfl, fin_same rel (.int _) k⟩⟩
      | _ => cases ef
/-- a list or tuple's items -/
def itemsD (h : Hq) : D → Option (List D)
  | .tup xs => some xs
  | d => lstOf h d
def listD : OpN
  | [d], h => (itemsD h d).bind fun xs => newL xs h
  | _, _ => none
theorem items_rep {μ : Nat → Addr} {h : Hq} {H : Hp} {d : D} {v : V} {xs : List D} (rel : Rel X.K μ h H) (e : itemsD h d = some xs) (r : Rep μ h.length H d v) : ∃ a vs, v = .ref a ∧ (SqL X.K H a vs ∨ SqT X.K H a vs) ∧ Reps μ h.length H xs vs := by
  cases r with
  | tup ha rs => cases e; exact ⟨_, _, rfl, .inr (.of ha), rs⟩
  | ref hn =>
    rename_i n
    obtain ⟨a, vs, ea, hs, rs⟩ := rel.read (show lstOf h (.ref n) = some xs from e) (.ref hn)
    exact ⟨a, vs, ea, .inl hs, rs⟩
  | _ => cases e
theorem c_list : CallR X (.type "list") (rN X.K listD) := n_mk fun μ h H ds vs a h' Q rel r ef k => by
  cases r with
  | nil => cases ef
  | @cons d v ds vs r1 rs =>
    cases rs with
    | cons _ _ => cases ef
    | nil =>
      simp only [listD] at ef
      cases ei : itemsD h d with
      | none => rw [ei] at ef; cases ef
      | some xs =>
        rw [ei] at ef
        obtain ⟨b, us, rfl, hs, ru⟩ := items_rep rel ei r1
        obtain ⟨_, kk⟩ := fin_list rel ru ef k
        exact ⟨_, call_list_of, b, us, rfl, hs, kk⟩
def tupleD : OpN
  | [d], h => (itemsD h d).map fun xs => (.tup xs, h)
  | _, _ => none
theorem c_tuple : CallR X (.type "tuple") (rN X.K tupleD) := n_mk fun μ h H ds vs a h' Q rel r ef k => by
  cases r with
  | nil => cases ef
  | @cons d v ds vs r1 rs =>
    cases rs with
    | cons _ _ => cases ef
    | nil =>
      simp only [tupleD] at ef
      cases r1 with
      | tup ha rt =>
        cases ef
        exact ⟨_, call_tuple_of, _, _, rfl, .inr ⟨.of ha, fin_same rel (.tup ha rt) k⟩⟩
      | ref hn =>
        rename_i n
        cases ei : itemsD h (.ref n) with
        | none => rw [ei] at ef; cases ef
        | some xs =>
          rw [ei] at ef
          cases ef
          obtain ⟨b, us, eb, hs, ru⟩ := rel.read (show lstOf h (.ref n) = some xs from ei) (.ref hn)
          exact ⟨_, call_tuple_of, b, us, by rw [eb], .inl ⟨hs, fun l hl => fin_tup rel ru hl k⟩⟩
      | _ => cases ef
/-! ### methods of built-in types -/
abbrev OpM := D → List D → Hq → Option (D × Hq)
def tyD (T : String) (h : Hq) (d : D) : Bool := match d with
  | .str _ => T == "str"
  | .ref n => (T == "list" && (lstOf h (.ref n)).isSome) || (T == "dict" && (dicOf h n).isSome)
  | _ => false
def eMt (T : String) (f : OpM) (o : E) (a : EA) : E := fun ρ h => (o ρ h).bind fun d h1 => if tyD T h1 d then (a ρ h1).bind fun ds h2 => .of (f d ds h2) else .bad
def eMt0 (T : String) (f : OpM) (o : E) : E := fun ρ h => (o ρ h).bind fun d h1 => if tyD T h1 d then .of (f d [] h1) else .bad
def rM (K : PySem.W.Frag) (f : OpM) : V → List V → Hp → VK → Prop := fun x vs H Q => ∃ μ h d ds, Rel K μ h H ∧ Rep μ h.length H d x ∧ Reps μ h.length H ds vs ∧
  ∃ a h', f d ds h = some (a, h') ∧ ∀ μ' H' b, Stp h.length μ H h'.length μ' H' → Rel K μ' h' H' → Rep μ' h'.length H' a b → Q b H'
theorem tyD_ok {μ : Nat → Addr} {h : Hq} {H : Hp} {d : D} {v : V} {T : String} (rel : Rel X.K μ h H) (r : Rep μ h.length H d v) (e : tyD T h d = true) : tyV X.K T v H := by
  cases r with
  | str s =>
    show T = "str"
    simpa [tyD] using e
  | ref hn =>
    rename_i n
    simp only [tyD, Bool.or_eq_true, Bool.and_eq_true, beq_iff_eq] at e
    rcases e with ⟨e1, e2⟩ | ⟨e1, e2⟩
    · obtain ⟨xs, ex⟩ := Option.isSome_iff_exists.mp e2
      obtain ⟨a, vs, ea, hs, _⟩ := rel.read ex (.ref hn)
      cases ea
      exact .inl ⟨e1, vs, hs⟩
    · obtain ⟨kvs, ek⟩ := Option.isSome_iff_exists.mp e2
      obtain ⟨kk, hH, _⟩ := rel.dic ek
      exact .inr (.inr (.inl ⟨e1, .inl ⟨kk, hH⟩⟩))
  | _ => cases e
variable {o : Expr} {mo : E} {name : Str} {apos cpos : Pos} {fm : OpM}
theorem b_mt (pa : PlainAttrs T) (slot : Slot T name id) (hty : typeOf (.builtin id) = pure (.type "method_descriptor")) (hm : MtR X id (rM X.K fm)) (ho : PE X o (tE X.K W mo)) (ha : PA X (e :: es) (tEA X.K W m))
    (hbase : attributeBase o name X.env (eval o X.env) = eval o X.env := by rfl)
    (hfew : ((backTo cpos (starEach (e :: es) X.env)).all (fun x => !x.1) && (backToKw cpos (keywordEach [] X.env)).all (fun x => x.1.isSome)
      && decide ((e :: es).length + ([] : List Keyword).length + (if ([] : List Keyword).isEmpty then 0 else 1) < 30)) = true := by rfl)
    (hline : (apos.endLine == cpos.line) = true := by rfl) (hs : starEach (e :: es) X.env = (false, eval e X.env) :: starEach es X.env := by rfl) (hplain : (backTo cpos (starEach es X.env)).any (·.1) = false := by rfl) :
    PE X (.Call (.Attribute o name apos) (e :: es) [] cpos) (tE X.K W (eMt T fm mo m)) :=
  PE.imp (pe_bm pa slot hty hm ho ha hbase hfew hline hs hplain) fun σ H Q q => by
    obtain ⟨μ, h, ρ, rel, sr, g⟩ := q
    refine ⟨μ, h, ρ, rel, sr, G.imp (fun x H1 z => ?_) (G.bind (rp := rpD) g)⟩
    obtain ⟨μ1, d, h1, st1, rel1, r1, g1⟩ := z
    cases ty : tyD T h1 d with
    | false => rw [ty] at g1; simp at g1; exact g1.elim
    | true =>
      rw [ty, if_pos rfl] at g1
      refine ⟨tyD_ok rel1 r1 ty, μ1, h1, ρ, rel1, sr.mono st1, G.imp (fun vs H2 z => ?_) (G.bind (rp := rpL) g1)⟩
      obtain ⟨μ2, ds, h2, st2, rel2, r2, g2⟩ := z
      cases e : fm d ds h2 with
      | none => rw [e] at g2; exact g2.elim
      | some z => rw [e] at g2; exact ⟨μ2, h2, d, ds, rel2, r1.mono st2, r2, z.1, z.2, e, g2⟩
theorem b_mt0 (pa : PlainAttrs T) (slot : Slot T name id) (hty : typeOf (.builtin id) = pure (.type "method_descriptor")) (hm : MtR X id (rM X.K fm)) (ho : PE X o (tE X.K W mo))
    (hbase : attributeBase o name X.env (eval o X.env) = eval o X.env := by rfl) (hline : (apos.endLine == cpos.line) = true := by rfl) : PE X (.Call (.Attribute o name apos) [] [] cpos) (tE X.K W (eMt0 T fm mo)) :=
  PE.imp (pe_bm0 pa slot hty hm ho hbase hline) fun σ H Q q => by
    obtain ⟨μ, h, ρ, rel, sr, g⟩ := q
    refine ⟨μ, h, ρ, rel, sr, G.imp (fun x H1 z => ?_) (G.bind (rp := rpD) g)⟩
    obtain ⟨μ1, d, h1, st1, rel1, r1, g1⟩ := z
    cases ty : tyD T h1 d with
    | false => rw [ty] at g1; simp at g1; exact g1.elim
    | true =>
      rw [ty, if_pos rfl] at g1
      refine ⟨tyD_ok rel1 r1 ty, ?_⟩
      cases e : fm d [] h1 with
      | none => rw [e] at g1; exact g1.elim
      | some z => rw [e] at g1; exact ⟨μ1, h1, d, [], rel1, r1, .nil, z.1, z.2, e, g1⟩
theorem m_mk (k : ∀ (μ : Nat → Addr) (h : Hq) (H : Hp) (d : D) (x : V) (ds : List D) (vs : List V) (a : D) (h' : Hq) (Q : VK), Rel X.K μ h H → Rep μ h.length H d x → Reps μ h.length H ds vs → fm d ds h = some (a, h') →
    (∀ μ' H' b, Stp h.length μ H h'.length μ' H' → Rel X.K μ' h' H' → Rep μ' h'.length H' a b → Q b H') → ∃ r, MtR X id r ∧ r x vs H Q) : MtR X id (rM X.K fm) := fun pins s σ H x vs v us Q I rx rv q => by
  obtain ⟨μ, h, d, ds, rel, r1, r2, a, h', ef, kk⟩ := q
  obtain ⟨rr, hr, hq⟩ := k μ h H d x ds vs a h' Q rel r1 r2 ef kk
  exact hr pins s σ H x vs v us Q I rx rv hq
def appD : OpM
  | .ref n, [y], h => (mutL h (.ref n)).bind fun xs => if xs.length < lim then some (.non, h.set n (.lst (xs ++ [y]))) else none
  | _, _, _ => none
theorem m_append : MtR X "list.append" (rM X.K appD) := m_mk fun μ h H d x ds vs a h' Q rel r1 r2 ef k => by
  cases r1 with
  | ref hn =>
    rename_i n
    cases r2 with
    | nil => cases ef
    | @cons y v ys vs ry rr =>
      cases rr with
      | cons _ _ => cases ef
      | nil =>
        simp only [appD] at ef
        cases em : mutL h (.ref n) with
        | none => rw [em] at ef; cases ef
        | some xs =>
          rw [em] at ef
          simp only [Option.bind_some] at ef
          by_cases hz : xs.length < lim
          · rw [if_pos hz] at ef
            cases ef
            obtain ⟨us, hH, ru⟩ := rel.lst (mutL_ref em)
            obtain ⟨p1, p2⟩ := rel.putList (mutL_ref em) hH (ru.append (.one ry))
            exact ⟨_, mt_append, _, us, v, rfl, rfl, hH, by rw [lim_eq, ← ru.length]; exact hz, k μ _ _ p2 p1 .non⟩
          · rw [if_neg hz] at ef; cases ef
  | _ => cases ef
def extD : OpM
  | .ref n, [.ref b], h => (mutL h (.ref n)).bind fun xs => (mutL h (.ref b)).bind fun ys => if xs.length + ys.length ≤ lim then some (.non, h.set n (.lst (xs ++ ys))) else none
  | _, _, _ => none
theorem m_extend : MtR X "list.extend" (rM X.K extD) := m_mk fun μ h H d x ds vs a h' Q rel r1 r2 ef k => by
  cases r1 with
  | ref hn =>
    rename_i n
    cases r2 with
    | nil => cases ef
    | @cons y v ys vs ry rr =>
      cases rr with
      | cons _ _ => cases ry <;> cases ef
      | nil =>
        cases ry with
        | ref hb =>
          rename_i b
          simp only [extD] at ef
          cases em : mutL h (.ref n) with
          | none => rw [em] at ef; cases ef
          | some xs =>
            cases em2 : mutL h (.ref b) with
            | none => rw [em, em2] at ef; cases ef
            | some zs =>
              rw [em, em2] at ef
              simp only [Option.bind_some] at ef
              by_cases hz : xs.length + zs.length ≤ lim
              · rw [if_pos hz] at ef
                cases ef
                obtain ⟨us, hH, ru⟩ := rel.lst (mutL_ref em)
                obtain ⟨ws, hH2, rw2⟩ := rel.lst (mutL_ref em2)
                obtain ⟨p1, p2⟩ := rel.putList (mutL_ref em) hH (ru.append rw2)
                exact ⟨_, mt_extend, _, _, us, ws, rfl, rfl, hH, hH2, by rw [lim_eq, ← ru.length, ← rw2.length]; exact hz, k μ _ _ p2 p1 .non⟩
              · rw [if_neg hz] at ef; cases ef
        | _ => cases ef
  | _ => cases ef
def popD : OpM
  | .ref n, [], h => (mutL h (.ref n)).bind fun xs => (xs[xs.length - 1]?).map fun y => (y, h.set n (.lst xs.dropLast))
  | .ref n, [.int i], h => (mutL h (.ref n)).bind fun xs => if -(2 ^ 63) ≤ i ∧ i < 2 ^ 63 then (seqIndex? i xs.length).bind fun k => (xs[k]?).map fun y => (y, h.set n (.lst (xs.eraseIdx k))) else none
  | _, _, _ => none
theorem Reps.dropLast {μ : Nat → Addr} {N : Nat} {H : Hp} {xs : List D} {vs : List V} (r : Reps μ N H xs vs) : Reps μ N H xs.dropLast vs.dropLast := by
  rw [List.dropLast_eq_take, List.dropLast_eq_take, r.length]
  exact r.take _
theorem Reps.erase {μ : Nat → Addr} {N : Nat} {H : Hp} : ∀ {xs : List D} {vs : List V} (i : Nat), Reps μ N H xs vs → Reps μ N H (xs.eraseIdx i) (vs.eraseIdx i)
  | _, _, _, .nil => .nil
  | _, _, 0, .cons _ t => t
  | _, _, i + 1, .cons q t => .cons q (Reps.erase i t)
theorem m_pop : MtR X "list.pop" (rM X.K popD) := m_mk fun μ h H d x ds vs a h' Q rel r1 r2 ef k => by
  cases r1 with
  | ref hn =>
    rename_i n
    cases r2 with
    | nil =>
      simp only [popD] at ef
      cases em : mutL h (.ref n) with
      | none => rw [em] at ef; cases ef
      | some xs =>
        rw [em] at ef
        simp only [Option.bind_some] at ef
        cases ey : xs[xs.length - 1]? with
        | none => rw [ey] at ef; cases ef
        | some y =>
          rw [ey] at ef
          cases ef
          obtain ⟨us, hH, ru⟩ := rel.lst (mutL_ref em)
          obtain ⟨v, hv, rv⟩ := ru.get ey
          obtain ⟨p1, p2⟩ := rel.putList (mutL_ref em) hH ru.dropLast
          exact ⟨_, mt_pop, _, us, v, rfl, rfl, hH, by rw [← ru.length]; exact hv, k μ _ _ p2 p1 (rv.mono p2)⟩
    | @cons y v ys vs ry rr =>
      cases rr with
      | cons _ _ => cases ry <;> cases ef
      | nil =>
        cases ry with
        | int i =>
          simp only [popD] at ef
          cases em : mutL h (.ref n) with
          | none => rw [em] at ef; cases ef
          | some xs =>
            rw [em] at ef
            simp only [Option.bind_some] at ef
            by_cases hi : -(2 ^ 63) ≤ i ∧ i < 2 ^ 63
            · rw [if_pos hi] at ef
              cases ek : seqIndex? i xs.length with
              | none => rw [ek] at ef; cases ef
              | some j =>
                rw [ek] at ef
                simp only [Option.bind_some] at ef
                cases ey : xs[j]? with
                | none => rw [ey] at ef; cases ef
                | some y =>
                  rw [ey] at ef
                  cases ef
                  obtain ⟨us, hH, ru⟩ := rel.lst (mutL_ref em)
                  obtain ⟨v, hv, rv⟩ := ru.get ey
                  obtain ⟨p1, p2⟩ := rel.putList (mutL_ref em) hH (ru.erase j)
                  exact ⟨_, mt_popAt, _, us, i, j, v, rfl, rfl, hH, hi.1, hi.2, by rw [← ru.length]; exact ek, hv, k μ _ _ p2 p1 (rv.mono p2)⟩
            · rw [if_neg hi] at ef; cases ef
        | _ => cases ef
  | _ => cases ef
def getD : OpM
  | .ref n, [k], h => (look h n k).map fun o => (o.getD .non, h)
  | .ref n, [k, x], h => (look h n k).map fun o => (o.getD x, h)
  | _, _, _ => none
theorem m_get (hu : X.A.units + 1 < cLine) : MtR X "dict.get" (rM X.K getD) := fun pins s σ H x vs v us Q I rx rv q => by
  obtain ⟨μ, h, d, ds, rel, r1, r2, a, h', ef, k⟩ := q
  cases r1 with
  | ref hn =>
    rename_i n
    cases rx
    cases r2 with
    | nil => cases ef
    | @cons y v ys vs ry rr =>
      cases rr with
      | nil =>
        simp only [getD] at ef
        cases el : look h n y with
        | none => rw [el] at ef; cases ef
        | some o =>
          rw [el] at ef
          cases ef
          obtain ⟨ov, g, g1, g2⟩ := rel.look el ry
          obtain ⟨u, rfl, ru⟩ := vals1 rv
          refine d_get1 hu I g ru fun w' s' I' rw' => ⟨_, H, I', rw', ?_⟩
          cases o with
          | none => rw [g2 rfl]; exact fin_same rel .non k
          | some d =>
            obtain ⟨v, e3, r3⟩ := g1 d rfl
            rw [e3]
            exact fin_same rel r3 k
      | @cons z w zs ws rz rr =>
        cases rr with
        | cons _ _ => cases ef
        | nil =>
          simp only [getD] at ef
          cases el : look h n y with
          | none => rw [el] at ef; cases ef
          | some o =>
            rw [el] at ef
            cases ef
            obtain ⟨ov, g, g1, g2⟩ := rel.look el ry
            obtain ⟨u, u2, rfl, ru, ru2⟩ := vals2 rv
            refine d_get2 hu I g ru ru2 fun w' s' I' rw' => ⟨_, H, I', rw', ?_⟩
            cases o with
            | none => rw [g2 rfl]; exact fin_same rel rz k
            | some d =>
              obtain ⟨v, e3, r3⟩ := g1 d rfl
              rw [e3]
              exact fin_same rel r3 k
  | _ => cases ef
/-! ### displays of dicts -/
def mergeD (kvs : List (D × D)) (more : List (D × D)) : List (D × D) := more.foldl (fun acc kv => dput acc kv.1 kv.2) kvs
def ePairs : List (E × E) → Ev → Hq → R (List (D × D))
  | [], _, h => .ok [] h
  | (a, b) :: r, ρ, h => (a ρ h).bind fun x h1 => (b ρ h1).bind fun y h2 => (ePairs r ρ h2).bind fun xs h3 => .ok ((x, y) :: xs) h3
def eDic (ps : List (E × E)) : E := fun ρ h => (ePairs ps ρ (h ++ [.dic []])).bind fun xs h1 => match dicOf h1 h.length with
  | some [] => if xs.all (fun p => (keyD p.1).isSome) && decide (xs.length ≤ 15) then .ok (.ref h.length) (h1.set h.length (.dic (mergeD [] xs))) else .bad
  | _ => .bad
inductive PRep (μ : Nat → Addr) (N : Nat) (H : Hp) : List (D × D) → List (V × V) → Prop
  | nil : PRep μ N H [] []
  | cons {k d : D} {q v : V} {ks : List (D × D)} {qs : List (V × V)} : Rep μ N H k q → Rep μ N H d v → PRep μ N H ks qs → PRep μ N H ((k, d) :: ks) ((q, v) :: qs)
abbrev rpP : RpT (List (D × D)) (List (V × V)) := PRep
theorem tPairs_of : ∀ {ps : List (E × E)} {σ : L2.St} {H : Hp} {Q : List (V × V) → Hp → Prop} {μ : Nat → Addr} {h : Hq} {ρ : Ev}, Rel X.K μ h H → SRep μ h.length H ρ σ → G X.K W σ h.length μ H rpP (ePairs ps ρ h) Q → tPairs (ps.map fun p => (tE X.K W p.1, tE X.K W p.2)) σ H Q
  | [], σ, H, Q, μ, h, ρ, rel, sr, g => g μ H [] .refl rel .nil
  | (a, b) :: r, σ, H, Q, μ, h, ρ, rel, sr, g => by
    refine ⟨μ, h, ρ, rel, sr, G.imp (fun x H1 z => ?_) (G.bind (rp := rpD) g)⟩
    obtain ⟨μ1, d, h1, st1, rel1, r1, g1⟩ := z
    refine ⟨μ1, h1, ρ, rel1, sr.mono st1, G.imp (fun y H2 z => ?_) (G.bind (rp := rpD) g1)⟩
    obtain ⟨μ2, e, h2, st2, rel2, r2, g2⟩ := z
    refine tPairs_of rel2 ((sr.mono st1).mono st2) (G.imp (fun qs H3 z => ?_) (G.bind (rp := rpP) g2))
    obtain ⟨μ3, xs, h3, st3, rel3, r3, g3⟩ := z
    exact g3 μ3 H3 _ .refl rel3 (.cons ((r1.mono st2).mono st3) (r2.mono st3) r3)
theorem PRep.keys {μ : Nat → Addr} {N : Nat} {H : Hp} : ∀ {ks : List (D × D)} {qs : List (V × V)}, PRep μ N H ks qs → ks.all (fun p => (keyD p.1).isSome) = true → ∃ kk, qs = kk.map (fun kv => (kV kv.1, kv.2)) ∧ KRep μ N H ks kk
  | _, _, .nil, _ => ⟨[], rfl, .nil⟩
  | _, _, .cons (k := k) rk rd r, e => by
    simp only [List.all_cons, Bool.and_eq_true] at e
    obtain ⟨q, eq⟩ := Option.isSome_iff_exists.mp e.1
    obtain ⟨kk, e1, kr⟩ := PRep.keys r e.2
    exact ⟨(q, _) :: kk, by rw [e1, keyD_kV eq rk]; rfl, .cons eq rd kr⟩
theorem KRep.merge {μ : Nat → Addr} {N : Nat} {H : Hp} : ∀ {more : List (D × D)} {mm : List (Key × V)} {ks : List (D × D)} {kk : List (Key × V)}, KRep μ N H more mm → KRep μ N H ks kk → KRep μ N H (mergeD ks more) (mergeK kk mm)
  | _, _, _, _, .nil, r => r
  | _, _, _, _, .cons (ks := xs) (qs := ys) e rd rs, r => show KRep μ N H (mergeD (dput _ _ _) xs) (mergeK (putK _ _ _) ys) from KRep.merge rs (r.put e rd)
theorem b_dic {keys : List (Option Expr)} {values : List Expr} {ps : List (E × E)} (h : PPs X pos keys values (ps.map fun p => (tE X.K W p.1, tE X.K W p.2))) (hall : keys.all (·.isSome) = true := by rfl) (hl : keys.length = values.length := by rfl) (h0 : keys ≠ [] := by exact fun z => by cases z)
    (h15 : keys.length ≤ 15 := by decide) : PE X (.Dict keys values pos) (tE X.K W (eDic ps)) :=
  PE.imp (pe_disp h hall hl h0 h15) fun σ H Q q => by
    obtain ⟨μ, h, ρ, rel, sr, g⟩ := q
    intro p hp
    have ln : (h ++ [O.dic []]).length = h.length + 1 := by simp
    have stn := stp_new (μ := μ) (h := h) (u := .dK []) hp
    have reln : Rel X.K (mset μ h.length p) (h ++ [.dic []]) (upd H p (.dK [])) := rel.new hp ⟨[], upd_same, .nil⟩
    have st0 : Stp h.length μ H (h ++ [O.dic []]).length (mset μ h.length p) (upd H p (.dK [])) := by rw [ln]; exact stn
    refine tPairs_of reln (sr.mono st0) (G.imp (fun qs H2 z => ?_) (G.bind (rp := rpP) (G.lift st0 g)))
    obtain ⟨μ2, xs, h2, st2, rel2, r2, g2⟩ := z
    cases ed : dicOf h2 h.length with
    | none => rw [ed] at g2; exact g2.elim
    | some kvs =>
      rw [ed] at g2
      cases kvs with
      | cons _ _ => exact g2.elim
      | nil =>
        simp only at g2
        obtain ⟨kk0, hH, kr0⟩ := rel2.dic ed
        cases kr0
        have em : μ2 h.length = p := (st2.mu _ (by rw [ln]; exact Nat.lt_succ_self _)).trans mset_same
        rw [em] at hH
        refine ⟨hH, ?_⟩
        cases eo : (xs.all (fun p => (keyD p.1).isSome) && decide (xs.length ≤ 15)) with
        | false => rw [eo] at g2; simp at g2; exact g2.elim
        | true =>
          rw [eo, if_pos rfl] at g2
          have e2 := Bool.and_eq_true_iff.mp eo
          obtain ⟨kk, e1, kr⟩ := r2.keys e2.1
          refine ⟨kk, e1, by rw [← kr.length]; exact of_decide_eq_true e2.2, ?_⟩
          obtain ⟨p1, p2⟩ := rel2.putDic (dicOf_some ed) (by rw [em]; exact hH) (KRep.merge kr .nil)
          rw [em] at p1 p2
          have hn : h.length < h2.length := Nat.lt_of_lt_of_le (by rw [ln]; exact Nat.lt_succ_self _) st2.le
          have rr : Rep μ2 (h2.set h.length (.dic (mergeD [] xs))).length (upd H2 p (.dK (mergeK [] kk))) (.ref h.length) (.ref (μ2 h.length)) := .ref (by rw [List.length_set]; exact hn)
          rw [em] at rr
          exact g2 μ2 _ _ p2 p1 rr
def eDic0 : E := fun _ h => .ok (.ref h.length) (h ++ [.dic []])
theorem b_dic0 : PE X (.Dict [] [] pos) (tE X.K W eDic0) :=
  PE.imp pe_dnewK fun σ H Q q => by
    obtain ⟨μ, h, ρ, rel, sr, g⟩ := q
    intro p hp
    have ln : (h ++ [O.dic []]).length = h.length + 1 := by simp
    have stn := stp_new (μ := μ) (h := h) (u := .dK []) hp
    have rr : Rep (mset μ h.length p) (h ++ [O.dic []]).length (upd H p (.dK [])) (.ref h.length) (.ref (mset μ h.length p h.length)) := .ref (by rw [ln]; exact Nat.lt_succ_self _)
    rw [mset_same] at rr
    exact g _ _ _ (by rw [ln]; exact stn) (rel.new hp ⟨[], upd_same, .nil⟩) rr
end
end Am

set_option Elab.async false
set_option linter.all false
set_option maxRecDepth 100000
set_option maxHeartbeats 4000000
namespace AmX
open PySem PySem.W PySem.Calls PyProof.Rows PySem.HandSPX PySem.ESX
/-! ### classes of exceptions of one's own, over Exception -/
/-- own classes, then Exception's -/
def exOk : List Value → Bool
  | .ref _ :: r => exOk r
  | l => decide (l = exTail)
theorem exOk_cases : ∀ l : List Value, exOk l = true → (∃ c r, l = .ref c :: r ∧ exOk r = true) ∨ l = exTail := by
  intro l h
  cases l with
  | nil => simp [exOk] at h
  | cons v r =>
    cases v with
    | ref c => exact .inl ⟨c, r, rfl, h⟩
    | _ => exact .inr (by simpa [exOk] using h)
theorem exOk_pass (self : Value) : ∀ l : List Value, exOk l = true → refuseLoop self "__setattr__" l = pure ()
  | l, h => by
    rcases exOk_cases l h with ⟨c, r, rfl, hr⟩ | rfl
    · rw [refuseLoop_ref]
      exact exOk_pass self r hr
    · exact F.store_Exception.passes _
  termination_by l => l.length
theorem exOk_contains (X : String) : ∀ l : List Value, exOk l = true → l.contains (.type X) = exTail.contains (.type X)
  | l, h => by
    rcases exOk_cases l h with ⟨c, r, rfl, hr⟩ | rfl
    · rw [List.contains_cons, exOk_contains X r hr]
      rfl
    · rfl
  termination_by l => l.length
theorem exOk_ne {l : List Value} (e : exOk l = true) : l.isEmpty = false := by
  cases l with
  | nil => simp [exOk] at e
  | cons _ _ => rfl
section
open Builtin Builtin.ObjectAttr
variable {prog : Program} {w : World} {A : Around} {E : Value → Shared → Prop} {R : Result → Shared → Prop} {hp : Heap} {g : Array GenState} {d : Drawn} {t : Nat} {os : OsState}
theorem mro_has2 {K : W.Frag} {C : Addr} {cd : ClassData} (hcd : W.clsIn K C = some cd) (hm : exOk cd.mro = true) (X : String) (hX : exTail.contains (.type X) = true) : W.mroIn K C (.type X) = some true := by
  unfold W.mroIn
  rw [hcd, Option.bind_some, exOk_ne hm]
  rw [if_neg (by decide), exOk_contains X _ hm, hX]
/-- self.f = v: the walk to the own dict -/
theorem st_walk {K : W.Frag} {name : Str} {tk : Tok} {v : Value} {x C : Addr} {ox : Obj} {od : Option Obj} {cd : ClassData}
    (X : K.In hp) (I : W.InstAt hp x ox C od) (hcd : W.clsIn K C = some cd) (hm : exOk cd.mro = true) (ha : W.findIn K (.ref C) name = some none)
    (hq : wpAny (model prog w) A.in1 (storeInOwnDict (.ref x) (.ref C) (.str name tk) name v false)
      (fun fin s' => match fin with | .done f => R (.ok f) s' | .again c' => c'.quiet = true ∧ codeAny (model prog w) A c' R s') (fun e s' => R (.error e) s') ⟨hp, g, d, t, os⟩) :
    codeAny (model prog w) A (.call (.builtin "object.__setattr__") ⟨[.ref x, .str name tk, v], []⟩) R ⟨hp, g, d, t, os⟩ := by
  have SF := F.store_object
  have sub : W.Looks (model prog w) hp (isInstance (.ref x) (.type "object")) true := I.type.andThen (W.looks_mroIn X (mro_has2 hcd hm "object" (by decide +kernel)))
  refine codeAny_call_builtin SF.slot.plain SF.entry (@W.check_slot (model prog w) _ _ ⟨hp, g, d, t, os⟩ "object.__setattr__" "object" "__setattr__" (.ref x) [.str name tk, v] [] _ SF.kind SF.split sub (SF.args (.ref x) (.str name tk) v) ?_)
  have hmr : W.Looks (model prog w) hp (mroOf (.ref C)) cd.mro := (W.looks_clsIn X hcd).andThen .now
  have L3 : W.Looks (model prog w) hp (storeTaker? none) none := .now
  rw [W.osa_eq, refuse_eq]
  refine wpAny_bind (wpAny_bind (I.type.at (wpAny_bind (hmr.at ?_))))
  rw [exOk_pass _ _ hm]
  exact wpAny_pure (wpAny_bind (I.type.at (wpAny_bind ((W.looks_findIn X ha).at (wpAny_bind (L3.at hq))))))
theorem st_first {K : W.Frag} {name : Str} {tk : Tok} {v : Value} {x C : Addr} {fv : Array Value} {cd : ClassData}
    (X : K.In hp) (hx : hp.get? x = some { cls := .ref C, data := .fields fv }) (hcd : W.clsIn K C = some cd) (hm : exOk cd.mro = true) (hh : cd.hasDict = true) (ha : W.findIn K (.ref C) name = some none)
    (hq : ∀ h' tk' dx, (∀ b o, b ≠ x → hp.get? b = some o → h'.get? b = some o) → hp.objs.size ≤ dx → dx ≠ x → h'.get? x = some { cls := .ref C, dict := some dx, data := .fields fv } →
      h'.Ns1 dx (fun y => if y = name then some v else none) → R (.ok (.ret .none)) ⟨h', g, d, tk', os⟩) :
    codeAny (model prog w) A (.call (.builtin "object.__setattr__") ⟨[.ref x, .str name tk, v], []⟩) R ⟨hp, g, d, t, os⟩ := by
  have I : W.InstAt hp x { cls := .ref C, data := .fields fv } C none := ⟨hx, rfl, rfl, trivial⟩
  have hxs : x ≠ hp.objs.size := Nat.ne_of_lt (Heap.lt_size hx)
  refine st_walk X I hcd hm ha ?_
  have hcls : W.Looks (model prog w) hp (classData C) cd := W.looks_clsIn X hcd
  obtain ⟨nm, bs, mro, ns, qn, hd, sn, sb, ab, col, del⟩ := cd
  dsimp only at hh
  subst hh
  unfold storeInOwnDict ownDictForStores
  repeat (first | with_reducible refine HandSPX.store_in_new ?_ ?_ | with_reducible refine wpAny_loadPart_at hx ?_ | with_reducible refine hcls.at ?_ | wp_step)
  · exact ⟨_, #[], _, (Heap.get?_update_ne _ _ _ _ hxs.symm).trans (Heap.get?_push_at rfl rfl), rfl, fun e he => absurd he (by simp), fun _ => rfl⟩
  · intro h' tk' hn' hs
    have hx₁ : (hp.push { cls := .type "dict", data := .dict #[] }).get? x = some { cls := .ref C, data := .fields fv } := Heap.get?_push_of_some _ hx
    refine hq h' tk' hp.objs.size (fun b o hb ho => ?_) (Nat.le_refl _) hxs.symm ?_ hn'
    · exact (hs.2 b (Nat.ne_of_lt (Heap.lt_size ho))).trans ((Heap.get?_update_ne _ _ _ _ hb).trans (Heap.get?_push_of_some _ ho))
    · exact (hs.2 x hxs).trans (Heap.get?_update_self _ hx₁ rfl)
theorem st_more {K : W.Frag} {name : Str} {tk : Tok} {v : Value} {x C dx : Addr} {fv : Array Value} {cd : ClassData} {m0 : Str → Option Value} {nl : List Str}
    (X : K.In hp) (hx : hp.get? x = some { cls := .ref C, dict := some dx, data := .fields fv }) (hns : hp.Ns1 dx m0) (hw : Within m0 nl) (hz : nl.length ≤ 1000) (hcd : W.clsIn K C = some cd) (hm : exOk cd.mro = true) (hh : cd.hasDict = true)
    (ha : W.findIn K (.ref C) name = some none)
    (hq : ∀ h' tk', (∀ b o, b ≠ dx → hp.get? b = some o → h'.get? b = some o) → h'.Ns1 dx (fun y => if y = name then some v else m0 y) → R (.ok (.ret .none)) ⟨h', g, d, tk', os⟩) :
    codeAny (model prog w) A (.call (.builtin "object.__setattr__") ⟨[.ref x, .str name tk, v], []⟩) R ⟨hp, g, d, t, os⟩ := by
  obtain ⟨oD, esD, epD, hoD, hdD, _⟩ := hns.count hw
  have I : W.InstAt hp x { cls := .ref C, dict := some dx, data := .fields fv } C (some oD) := ⟨hx, rfl, rfl, hoD⟩
  refine st_walk X I hcd hm ha ?_
  have hcls : W.Looks (model prog w) hp (classData C) cd := W.looks_clsIn X hcd
  obtain ⟨nm, bs, mro, ns, qn, hd, sn, sb, ab, col, del⟩ := cd
  dsimp only at hh
  subst hh
  unfold storeInOwnDict ownDictForStores
  repeat (first | with_reducible refine ESX.store_in_old hns hw hz ?_ | with_reducible refine wpAny_loadPart_at hx ?_ | with_reducible refine hcls.at ?_ | wp_step)
  intro h' tk' hn' hs
  exact hq h' tk' (fun b o hb ho => (hs.2 b hb).trans ho) hn'
end
/-! ### self.f = f, one after another -/
/-- an exception that is being made, with the fields that it has -/
structure Mid (h : Heap) (C x : Addr) (fs : List (Str × Value)) : Prop where
  at_ : ∃ t1 od, h.get? x = some { cls := .ref C, dict := od, data := .fields #[.ref t1, .none, .none, .none, .bool false, .none] } ∧
    ((od = none ∧ fs = []) ∨ ∃ dx m0, od = some dx ∧ dx ≠ x ∧ h.Ns1 dx m0 ∧ Within m0 (fs.map (·.1)) ∧ (∀ f, m0 f = fs.lookup f) ∧ fs ≠ [])
theorem look_cons (f : Str) (v : Value) (fs : List (Str × Value)) (y : Str) : ((f, v) :: fs).lookup y = if y = f then some v else fs.lookup y := by
  by_cases h : y = f
  · subst h; simp [List.lookup]
  · have e : (y == f) = false := by simpa using h
    rw [if_neg h]
    simp [List.lookup, e]
def NotD (h : Heap) (x b : Addr) : Prop := ∀ o, h.get? x = some o → o.dict ≠ some b
/-- all but the exception at x and its dict stays -/
structure Kept (x : Addr) (h h' : Heap) : Prop where
  keep : ∀ b o, b ≠ x → NotD h x b → h.get? b = some o → h'.get? b = some o
  there : ∀ b o, h.get? b = some o → ∃ o', h'.get? b = some o'
  nd : ∀ b o, h.get? b = some o → NotD h x b → NotD h' x b
theorem Kept.refl {x : Addr} {h : Heap} : Kept x h h := ⟨fun _ _ _ _ e => e, fun _ o e => ⟨o, e⟩, fun _ _ _ n => n⟩
theorem Kept.trans {x : Addr} {h h1 h2 : Heap} (a : Kept x h h1) (b : Kept x h1 h2) : Kept x h h2 :=
  ⟨fun c o hc n e => b.keep c o hc (a.nd c o e n) (a.keep c o hc n e), fun c o e => let ⟨o', e'⟩ := a.there c o e; b.there c o' e', fun c o e n => let ⟨o', e'⟩ := a.there c o e; b.nd c o' e' (a.nd c o e n)⟩
section
variable {prog : Program} {w : World} {A : Around} {E : Value → Shared → Prop} {s : Shared}
theorem st_any {K : W.Frag} {f : Str} {v : Value} {x C : Addr} {cd : ClassData} {fs : List (Str × Value)} {Q : Unit → Shared → Prop} (X : K.In s.heap) (M : Mid s.heap C x fs) (hcd : W.clsIn K C = some cd) (hm : exOk cd.mro = true) (hh : cd.hasDict = true)
    (hsa : W.findIn K (.ref C) "__setattr__" = some (some (.builtin "object.__setattr__"))) (ha : W.findIn K (.ref C) f = some none) (hz : fs.length ≤ 900)
    (hq : ∀ h' tk', Kept x s.heap h' → Mid h' C x ((f, v) :: fs) → Q () { s with heap := h', toks := tk' }) : wpAny (model prog w) A (setAttr (.ref x) f v) Q E s := by
  obtain ⟨hp, g, d, t, os⟩ := s
  obtain ⟨t1, od, hx, c⟩ := M.at_
  rcases c with ⟨rfl, rfl⟩ | ⟨dx, m0, rfl, ne, hn, hw, hl, _⟩
  · refine W.set_plain X (ox := _) (od := none) ⟨hx, rfl, rfl, trivial⟩ hsa ?_
    refine st_first X hx hcd hm hh ha fun h' tk' dx k hd ne hx' hn' => ?_
    refine hq h' tk' ⟨fun b o hb _ e => k b o hb e, fun b o e => ?_, fun b o e _ o' e' => ?_⟩ ⟨t1, some dx, hx', .inr ⟨dx, _, rfl, ne, hn', ?_, fun y => ?_, List.cons_ne_nil _ _⟩⟩
    · by_cases hb : b = x
      · subst hb; exact ⟨_, hx'⟩
      · exact ⟨o, k b o hb e⟩
    · rw [hx'] at e'
      cases e'
      intro z
      have : dx = b := Option.some.inj z
      have hb : b < hp.objs.size := Heap.lt_size e
      exact absurd (Nat.lt_of_lt_of_le hb hd) (by rw [this]; exact Nat.lt_irrefl _)
    · intro y hy
      by_cases e : y = f
      · subst e; simp
      · simp [e] at hy
    · rw [look_cons]
      rfl
  · obtain ⟨oD, _, _, hoD, _, _⟩ := hn.count hw
    refine W.set_plain X (ox := _) (od := some oD) ⟨hx, rfl, rfl, hoD⟩ hsa ?_
    refine st_more X hx hn hw (by rw [List.length_map]; omega) hcd hm hh ha fun h' tk' k hn' => ?_
    have hx' := k x _ (Ne.symm ne) hx
    refine hq h' tk' ⟨fun b o _ hb e => k b o (fun z => hb _ hx (congrArg some z.symm)) e, fun b o e => ?_, fun b o e n o' e' => ?_⟩ ⟨t1, some dx, hx', .inr ⟨dx, _, rfl, ne, hn', ?_, fun y => ?_, List.cons_ne_nil _ _⟩⟩
    · by_cases hb : b = dx
      · subst hb
        obtain ⟨o', _, _, e', _⟩ := hn'
        exact ⟨o', e'⟩
      · exact ⟨o, k b o hb e⟩
    · rw [hx'] at e'
      cases e'
      exact n _ hx
    · exact hw.cons f v
    · rw [look_cons, hl y]
/-- the stores of an __init__: self.f = f for each parameter f -/
inductive Sets : List Stmt → List Str → Prop
  | nil : Sets [] []
  | cons {f : Str} {fs : List Str} {rest : List Stmt} {q1 q2 q3 q4 : Pos} : Sets rest fs → Sets (.Assign [.Attribute (.Name "self" q1) f q2] (.Name f q3) q4 :: rest) (f :: fs)
theorem sets_run {K : W.Frag} {x C L : Addr} {cd : ClassData} {m : Str → Option Value} {env : Env} (hcd : W.clsIn K C = some cd) (hm : exOk cd.mro = true) (hh : cd.hasDict = true)
    (hsa : W.findIn K (.ref C) "__setattr__" = some (some (.builtin "object.__setattr__"))) (hL : env.locals = L) (hk : env.scope.kind = .function) (hself : env.kindOf "self" = some .local) (mself : m "self" = some (.ref x)) (hxL : L ≠ x)
    (hKx : ∀ b o, K.lookup b = some o → b ≠ x) : ∀ {sts : List Stmt} {fs : List Str}, Sets sts fs → ∀ (done : List (Str × Value)) (vals : List Value) (s : Shared) (Q : Flow → Shared → Prop), fs.length = vals.length → fs.length + done.length ≤ 900 →
    (∀ p ∈ fs.zip vals, m p.1 = some p.2) → (∀ f ∈ fs, env.kindOf f = some .local ∧ (f == ("__debug__" : Str)) = false ∧ W.findIn K (.ref C) f = some none) → (∀ f (p : Pos) (q : Pos), f ∈ fs → swapsWith (.Name f p) (some (.Attribute (.Name "self" q) f q)) p.line env = pure false) → K.In s.heap → s.heap.Ns L m → NotD s.heap x L → (∀ b o, K.lookup b = some o → NotD s.heap x b) → Mid s.heap C x done →
    (∀ h' tk', Kept x s.heap h' → Mid h' C x ((fs.zip vals).reverse ++ done) → Q .next { s with heap := h', toks := tk' }) → wpAny (model prog w) A (execs sts env) Q E s := by
  intro sts fs hs
  induction hs with
  | nil =>
    intro done vals s Q hl _ _ _ _ _ _ _ _ M q
    obtain ⟨hp, g, d, t, os⟩ := s
    exact wpAny_execs_nil (q hp t .refl (by simpa using M))
  | @cons f fs rest q1 q2 q3 q4 _ ih =>
    intro done vals s Q hl hz hv hf hsw X hns hnd hKd M q
    cases vals with
    | nil => cases hl
    | cons v vals =>
      have hfm : m f = some v := hv (f, v) (by simp)
      obtain ⟨kf, df, af⟩ := hf f (by simp)
      refine wpAny_execs_cons ?_
      subst hL
      refine plainObj_wpAny_Assign_Attribute ?_ ?_
      · refine ldL hns hfm (ldL hns mself ?_ hk hself) hk kf df
        refine st_any X M hcd hm hh hsa af (by omega) fun h' tk' kp M' => ?_
        have hns' : h'.Ns env.locals m := by
          obtain ⟨o, es, ep, ho, r⟩ := hns
          exact ⟨o, es, ep, kp.keep _ _ hxL hnd ho, r⟩
        have X' : K.In h' := fun b o e => kp.keep b o (hKx b o e) (hKd b o e) (X b o e)
        have hnd' : NotD h' x env.locals := by
          obtain ⟨o, es, ep, ho, r⟩ := hns
          exact kp.nd _ _ ho hnd
        refine ih ((f, v) :: done) vals _ Q (by simpa using hl) (by simp at hz ⊢; omega) (fun p hp => hv p (by simp [hp])) (fun g hg => hf g (by simp [hg])) (fun g p q hg => hsw g p q (by simp [hg])) X' hns' hnd' (fun b o e => kp.nd b o (X b o e) (hKd b o e)) M' fun h2 tk2 kp2 M2 => ?_
        refine q h2 tk2 (kp.trans kp2) ?_
        simpa using M2
      · rfl
end
end AmX

set_option Elab.async false
set_option linter.all false
set_option maxRecDepth 100000
set_option maxHeartbeats 4000000
namespace AmX
open PySem PySem.W PySem.Calls PyProof.Rows PySem.HandSPX PySem.ESX
/-- what the written part says of an own exception's class -/
structure XCls (K : W.Frag) (C : Addr) : Prop where
  cls : ∃ nm q N bs bm sn sub ab col dd k0 k1 k2 k3 k5, K.lookup C = some (excClassObj nm q C N bs bm true sn sub ab col dd k0 k1 k2 k3 k5 "Exception.__new__") ∧ exOk bm = true
  sa : W.findIn K (.ref C) "__setattr__" = some (some (.builtin "object.__setattr__"))
  exC : W.subIn K (.ref C) (.type "BaseException") = some true
  tyC : W.typeIn K (.ref C) = some (.type "type")
  kC : W.keepIn K (.ref C) = true
theorem XCls.cd {K : W.Frag} {C : Addr} (T : XCls K C) : ∃ cd, W.clsIn K C = some cd ∧ exOk cd.mro = true ∧ cd.hasDict = true := by
  obtain ⟨nm, q, N, bs, bm, sn, sub, ab, col, dd, k0, k1, k2, k3, k5, hC, hbm⟩ := T.cls
  refine ⟨{ name := nm, bases := bs, mro := .ref C :: bm, ns := N, qualname := q, hasDict := true, slotNames := sn, subclasses := sub, abstract := ab, collection := col, hasDel := false }, ?_, hbm, rfl⟩
  unfold W.clsIn
  rw [hC]
/-- its __init__: super().__init__(text), then self.f = f for each parameter -/
structure XInit (prog : Program) (K : W.Frag) (C f : Addr) (qual : Str) (params : Arguments) (body : List Stmt) (scope : Scope) (fs : List Str) (fd : FuncData) : Prop where
  ex : ∃ (oc : Value) (od : Option Addr) (osl : Array (Option Value)) (kV doc pm : Value) (an : Option Addr) (ct : Value) (cda cc : Addr) (ccl : Value) (cdd : Option Addr) (vs : Array Value) (ccs : Array (Option Value)) (file : Str) (tf : Tok) (cl : Value) (cld : Option Addr) (csl : Array (Option Value)),
    fd = ksFn "__init__" qual params body scope .none kV doc pm an (.ref cda) ct cc ∧ K.lookup f = some ⟨oc, od, .func fd, osl⟩ ∧ W.codeIn K (.ref cda) qual = true ∧ K.lookup cda = some ⟨ccl, cdd, .fields vs, ccs⟩ ∧ vs[2]? = some (.str file tf) ∧ ((prog.main.file : Str) == file) = true ∧
      K.lookup cc = some ⟨cl, cld, .cell (some (.ref C)), csl⟩
  sup : ks_superIn K C C "__init__" = some (some (.builtin "Exception.__init__"))
  free : W.nsIn K mainGlobals "super" = some none
  third : W.nsIn K cStatics "thirdparty.any" = some none
  noat : ∀ g ∈ fs, W.findIn K (.ref C) g = some none
/-- .. by its text -/
structure XText (prog : Program) (params : Arguments) (body : List Stmt) (scope : Scope) (fs : List Str) : Prop where
  body : ∃ (p0 p1 p2 p3 p4 p5 : Pos) (text : Str) (k0 : Nat) (sets : List Stmt), body = .Expr (.Call (.Attribute (.Call (.Name "super" p0) [] [] p1) "__init__" p2) [.Constant (.str text) k0 p3] [] p4) p5 :: sets ∧ Sets sets fs ∧
    ∀ env : Env, ∃ pl : Sem Bool, eval (.Call (.Attribute (.Call (.Name "super" p0) [] [] p1) "__init__" p2) [.Constant (.str text) k0 p3] [] p4) env = (do
      let ov ← attributeBase (.Call (.Name "super" p0) [] [] p1) "__init__" env (eval (.Call (.Name "super" p0) [] [] p1) env)
      standAt p2.atName
      let (f, first) ← holding [ov] (getMethod ov "__init__" pl)
      callWith p4 f first (backTo p4 (starEach [.Constant (.str text) k0 p3] env)) [])
  par : ∃ ar : Arg, (params.posonlyargs ++ params.args).head? = some ar ∧ ar.arg = "self"
  kind : scope.kind = .function
  co : scope.isCoroutine = false
  gen : scope.isGenerator = false
  cell : ∀ x ∈ scope.names, x.2 ≠ .cell
  self : scope.names.lookup ("self" : Str) = some .local
  loc : ∀ g ∈ fs, scope.names.lookup g = some .local ∧ (g == ("__debug__" : Str)) = false
  sup : scope.names.lookup ("super" : Str) = some .globalImplicit
  kls : scope.names.lookup ("__class__" : Str) = some .free
  nd : (("self" : Str) :: fs).Nodup
  few : fs.length ≤ 900
  top : (prog.main.scope.names.lookup ("super" : Str)).isSome = false
theorem rev_lookup {α : Type} : ∀ {l : List (Str × α)} {p : Str × α}, (l.map (·.1)).Nodup → p ∈ l → l.reverse.lookup p.1 = some p.2 := by
  intro l p nd hp
  have key : ∀ (m : List (Str × α)), (m.map (·.1)).Nodup → p ∈ m → m.lookup p.1 = some p.2 := by
    intro m
    induction m with
    | nil => intro _ h; cases h
    | cons a r ih =>
      intro nd h
      obtain ⟨x, y⟩ := a
      simp only [List.map_cons, List.nodup_cons] at nd
      by_cases e : p.1 = x
      · rcases List.mem_cons.mp h with z | z
        · rw [z]; simp [List.lookup]
        · exact absurd (List.mem_map_of_mem (f := (·.1)) z) (by rw [e]; exact nd.1)
      · have b : (p.1 == x) = false := by simpa using e
        simp only [List.lookup, b]
        rcases List.mem_cons.mp h with z | z
        · exact absurd (by rw [z]) e
        · exact ih nd.2 z
  exact key _ (by rw [List.map_reverse]; exact List.pairwise_reverse.mpr (nd.imp fun h => Ne.symm h)) (List.mem_reverse.mpr hp)
section
variable {prog : Program} {w : World} {A : Around} {R : Result → Shared → Prop} {K : W.Frag} {C f x t0 : Addr} {qual : Str} {params : Arguments} {body : List Stmt} {scope : Scope} {fs : List Str} {fd : FuncData} {mg mb : Str → Option Value} {args : Args} {vals : List Value} {s : Shared}
theorem init_call (T : XCls K C) (F : XInit prog K C f qual params body scope fs fd) (B : XText prog params body scope fs) (X : K.In s.heap) (lim : s.heap.NoLimit) (hg : s.heap.Ns mainGlobals mg) (hb : s.heap.Ns builtinsNs mb) (hbb : ∀ x : Str, x ≠ "__name__" → mb x = bootBuiltins x)
    (hd : A.depth < recursionLimit) (hbind : BindsTo s fd args ((("self" : Str) :: fs).zip (.ref x :: vals))) (hx : s.heap.get? x = some (excO C t0)) (hKx : ∀ b o, K.lookup b = some o → b ≠ x) (hl : fs.length = vals.length)
    (q : ∀ h' tk', Kept x s.heap h' → Mid h' C x (fs.zip vals).reverse → R (.ok (.ret .none)) { s with heap := h', toks := tk' }) : codeAny (model prog w) A (.call (.ref f) args) R s := by
  obtain ⟨oc, od, osl, kV, doc, pm, an, ct, cda, cc, ccl, cdd, vs, ccs, file, tf, cl, cld, csl, rfl, lk, hcd, lcd, hvs, hfile, lcc⟩ := F.ex
  obtain ⟨p0, p1, p2, p3, p4, p5, text, k0, sets, eb, hsets, hev⟩ := B.body
  obtain ⟨ar, har, earg⟩ := B.par
  obtain ⟨cd, hcls, hmro, hdict⟩ := T.cd
  obtain ⟨nm, qn, N, bs, bm, sn, sub, ab, col, dd, c0, c1, c2, c3, c5, hC, hbm⟩ := T.cls
  subst eb
  have zipn : ((("self" : Str) :: fs).zip (Value.ref x :: vals)).map (·.1) = ("self" : Str) :: fs := by
    rw [List.map_fst_zip]
    simp [hl]
  refine ks_codeAny_call_defAt (fd := ksFn "__init__" qual params _ scope .none kV doc pm an (.ref cda) ct cc) hd (X _ _ lk) rfl lim (codeRec_of X hcd) rfl hbind B.cell (fun y hy => ?_) (fun h₁ hns hk₁ => ?_) B.co B.gen B.kind
  · obtain ⟨n, v⟩ := y
    have hn : n ∈ ("self" : Str) :: fs := (List.of_mem_zip hy).1
    rcases List.mem_cons.mp hn with e | hn
    · show scope.names.lookup n = some .local
      rw [e]; exact B.self
    · exact (B.loc n hn).1
  · have hself : (((("self" : Str) :: fs).zip (Value.ref x :: vals)).reverse.lookup ("self" : Str)) = some (.ref x) :=
      rev_lookup (p := (("self" : Str), Value.ref x)) (by rw [zipn]; exact B.nd) (by simp)
    have hx₁ := hk₁ x _ hx
    have X₁ : K.In h₁ := fun b o e => hk₁ b o (X b o e)
    have hLx : s.heap.objs.size ≠ x := Nat.ne_of_gt (Heap.lt_size hx)
    have gk : ∀ {h2 : Heap}, (∀ b o, s.heap.get? b = some o → h2.get? b = some o) → h2.Ns mainGlobals mg := fun k => hg.keeps k
    have hNs : h₁.Ns s.heap.objs.size fun y => ((("self" : Str) :: fs).zip (Value.ref x :: vals)).reverse.lookup y := hns
    have kself : (ksEnv qual scope s.heap.objs.size f (.ref cda) cc).kindOf "self" = some .local := B.self
    have ksup : (ksEnv qual scope s.heap.objs.size f (.ref cda) cc).kindOf "super" = some .globalImplicit := B.sup
    have kkls : (ksEnv qual scope s.heap.objs.size f (.ref cda) cc).kindOf "__class__" = some .free := B.kls
    have I₁ : InstAt h₁ x (excO C t0) C none := ⟨hx₁, rfl, rfl, trivial⟩
    have hsub : W.mroIn K C (.ref C) = some true := by
      unfold W.mroIn W.clsIn
      rw [hC]
      simp
    have hD2 : ∃ oD, h₁.get? C = some oD ∧ oD.data = .cls cd := by
      have := hcls
      unfold W.clsIn at this
      rw [hC] at this
      exact ⟨_, X₁ _ _ hC, by rw [← Option.some.inj this]⟩
    obtain ⟨oD, hD, hDc⟩ := hD2
    obtain ⟨pl, hev⟩ := hev (ksEnv qual scope s.heap.objs.size f (.ref cda) cc)
    refine ks_wpAt_execs_cons (ks_wpAt_Expr_any (ks_wpAt_MethodCall (pl := pl) ?_ hev) (by show interactive (ksEnv qual scope s.heap.objs.size f (.ref cda) cc) = false; simp [interactive, B.kind]) (by rfl))
    refine ks_wpAt_super_base ksup kkls (by decide +kernel) rfl (X₁ _ _ lk) rfl har rfl (X₁ _ _ lcd) rfl hvs hfile B.top ?_
    refine ks_loadName_global B.kind ksup (loadGlobal_builtin (hg.keeps hk₁) (mg_none_of X hg F.free) (hb.keeps hk₁) (hbb _ (by decide)) ⟨rfl, ?_⟩)
    refine wpAny_loadName_free B.kind kkls rfl ⟨_, X₁ _ _ lcc, rfl⟩ ?_
    rw [earg]
    refine wpAny_loadName_local B.kind kself hNs hself ?_
    refine ks_wpAny_isType_cls hD hDc ⟨rfl, ?_⟩
    refine ks_wpAny_call_super hD hDc hx₁ rfl (fun c e => by cases e) (looks_mroIn X₁ hsub) (fun h2 e2 k2 => ?_)
    -- the bound __init__
    have X₂ : K.In h2 := fun b o e => k2 b o (X₁ b o e)
    have hx₂ := k2 x _ hx₁
    have I₂ : InstAt h2 x (excO C t0) C none := ⟨hx₂, rfl, rfl, trivial⟩
    have hxC : x ≠ C := Ne.symm (hKx C _ hC)
    have hsup := F.sup
    unfold ks_superIn at hsup
    rw [hcls, Option.bind_some] at hsup
    refine getMethod_super e2 (looks_opaque X₂ F.third) (l₀ := cd.mro) ((looks_clsIn X₂ hcls).andThen .now) rfl X₂ hsup hxC (by decide +kernel) (I₂.type.andThen (looks_mroIn X₂ (mro_has2 hcls hmro "Exception" (by decide +kernel)))) ?_
    have hu : (h2.push (bw x)).get? h2.objs.size = some (bw x) := Heap.get?_push_at rfl rfl
    have k3 : ∀ b o, h2.get? b = some o → (h2.push (bw x)).get? b = some o := fun b o e => Heap.get?_push_of_some _ e
    refine callWith_bound (x := x) ?_ rfl rfl
    refine spliced_cons (Calls.Constant_str (k := k0) (pos := p3) (spliced_nil ⟨hu, ?_⟩))
    refine call_bw (k3 _ _ (X₂ _ _ hC)) (k3 _ _ hx₂) hu (by show 1 ≤ sizeLine; decide) fun h4 t1 k4 hx4 => ?_
    -- the stores
    have k14 : ∀ b o, b ≠ x → h₁.get? b = some o → h4.get? b = some o := fun b o hb e => k4 b o hb (k3 b o (k2 b o e))
    have hd4 : ∀ b, NotD h4 x b := fun b o e z => by
      rw [hx4] at e
      cases e
      cases z
    refine _root_.PySem.wpAt_of_wpAny (sets_run (m := fun y => (((("self" : Str) :: fs).zip (Value.ref x :: vals)).reverse).lookup y) hcls hmro hdict T.sa rfl B.kind kself hself hLx hKx hsets [] vals _ _ hl (by have := B.few; simp; exact this) (fun p hp => ?_) (fun g hg' => ⟨(B.loc g hg').1, (B.loc g hg').2, F.noat g hg'⟩) ?_ (fun b o e => k14 b o (hKx b o e) (X₁ b o e)) ?_ (hd4 _) (fun b o _ => hd4 b) ⟨t1, none, hx4, .inl ⟨rfl, rfl⟩⟩ fun h5 tk5 kp5 M5 => ?_)
    · obtain ⟨n, v⟩ := p
      refine rev_lookup (p := (n, v)) (by rw [zipn]; exact B.nd) ?_
      simp only [List.zip_cons_cons, List.mem_cons]
      exact .inr hp
    · intro g p q' hg'
      rfl
    · obtain ⟨oL, es, ep, hoL, r⟩ := hNs
      exact ⟨oL, es, ep, k14 _ _ hLx hoL, r⟩
    · have kall : Kept x s.heap h5 := by
        refine (⟨fun b o hb _ e => k14 b o hb (hk₁ b o e), fun b o e => ?_, fun b o e n => hd4 b⟩ : Kept x s.heap h4).trans kp5
        by_cases hb : b = x
        · exact ⟨_, by rw [hb]; exact hx4⟩
        · exact ⟨o, k14 b o hb (hk₁ b o e)⟩
      exact q h5 tk5 kall (by simpa using M5)
end
end AmX

set_option Elab.async false
set_option linter.all false
set_option maxRecDepth 100000
set_option maxHeartbeats 4000000
namespace AmX
open PySem L2
/-! ### the promise of an __init__ -/
theorem objOk_get {P : Program} {w : World} {H : Hp} {h : Heap} {a : Addr} {o : HO} (x : ObjOk P w H h a o) : ∃ u, h.get? a = some u := by
  cases o with
  | lst xs => obtain ⟨_, _, _, _, e⟩ := x; exact ⟨_, e⟩
  | tup xs => obtain ⟨_, _, _, o, e, _⟩ := x; exact ⟨_, e⟩
  | dK kvs => obtain ⟨_, _, _, _, o, _, _, e, _⟩ := x; exact ⟨_, e⟩
  | dT kvs => obtain ⟨_, _, _, _, o, _, _, e, _⟩ := x; exact ⟨_, e⟩
  | set S n => obtain ⟨o, _, _, _, e, _⟩ := x; exact ⟨_, e⟩
  | ins C dx fs => obtain ⟨_, _, _, e, _⟩ := x; exact ⟨_, e⟩
  | own y => exact x
  | xd fs => obtain ⟨_, ⟨_, _, _, e, _⟩, _⟩ := x; exact ⟨_, e⟩
  | rng lo hi => obtain ⟨_, _, _, e⟩ := x; exact ⟨_, e⟩
  | frz ob u => obtain ⟨e, _⟩ := x; exact ⟨_, e⟩
  | tbl ps => exact ⟨_, show h.get? a = some _ from x⟩
  | met f y => exact ⟨_, show h.get? a = some _ from x⟩
  | ext φ => obtain ⟨_, e, _⟩ := x; exact e
def spX (C : Addr) (names : List Str) : Sp := fun vs H Q _ => ∃ (a : Addr) (ws : List V), vs = .ref a :: ws ∧ ws.length = names.length ∧ H a = some (exo a C none) ∧
  (names = [] → Q .non H) ∧ (names ≠ [] → ∀ dx, H dx = none → dx ≠ a → Q .non (upd (upd H dx (exd dx (names.zip ws).reverse)) a (exo a C (some dx))))
theorem rel_look {ws : List V} {us : List Value} (r : Vals ws us) : ∀ (names : List Str) (acc : List (Str × V)) (acc' : List (Str × Value)), (∀ f, RelO (acc.lookup f) (acc'.lookup f)) → ∀ f, RelO (((names.zip ws).reverse ++ acc).lookup f) (((names.zip us).reverse ++ acc').lookup f) := by
  induction r with
  | nil => intro names acc acc' h f; simpa using h f
  | @cons x u xs us rx _ ih =>
    intro names acc acc' h f
    cases names with
    | nil => simpa using h f
    | cons n names =>
      simp only [List.zip_cons_cons, List.reverse_cons, List.append_assoc, List.singleton_append]
      refine ih names ((n, x) :: acc) ((n, u) :: acc') (fun g => ?_) f
      rw [lookup_put, look_cons]
      by_cases e : g = n
      · rw [if_pos e, if_pos e]; exact rx
      · rw [if_neg e, if_neg e]; exact h g
section
variable {P : Program} {w : World} {K : PySem.W.Frag} {mg : Str → Option Value} {base : Heap} {C f : Addr} {qual : Str} {params : Arguments} {body : List Stmt} {scope : Scope} {fs : List Str} {fd : FuncData} {CXt : CXT}
theorem init_ok (T : XCls K C) (F : XInit P K C f qual params body scope fs fd) (B : XText P params body scope fs) : FnOk P w K mg base CXt 1 f fd (("self" : Str) :: fs) (spX C fs) := by
  refine ⟨fun vs H Q E h => ?_, fun A outer s H args us vs Q E hr e0 hb rv h => ?_⟩
  · obtain ⟨a, ws, rfl, hl, _⟩ := h
    simp [hl]
  · obtain ⟨a, ws, rfl, hl, ha, q0, q1⟩ := h
    cases rv with
    | @cons _ u0 _ ur ra rw' =>
      obtain rfl : u0 = Value.ref a := ra
      have hlen : fs.length = ur.length := by rw [← hl]; exact Paired.length rw'
      have kb : ∀ b o, base.get? b = some o → s.heap.get? b = some o := fun b o e => (e0.bs b o e).1
      have X : K.In s.heap := e0.mod.kin.keeps kb
      obtain ⟨mb, hmb, hbb⟩ := e0.mod.blt
      obtain ⟨t0, hx⟩ := exo_at e0.hok ha
      have hKx : ∀ b o, K.lookup b = some o → b ≠ a := fun b o e z => by
        have h1 := (e0.bs b o (e0.mod.kin b o e)).2
        rw [z, ha] at h1
        cases h1
      refine init_call T F B X (e0.mod.nolimit.keeps kb) (e0.mod.glob.keeps kb) (hmb.keeps kb) hbb hr.depth hb hx hKx hlen fun h' tk' kp M => ?_
      obtain ⟨t1, od, hx', c⟩ := M.at_
      have nd0 : ∀ b, NotD s.heap a b := fun b o e z => by
        rw [hx] at e
        cases e
        cases z
      have keep : ∀ b o, b ≠ a → s.heap.get? b = some o → h'.get? b = some o := fun b o hb e => kp.keep b o hb (nd0 b) e
      have na : ∀ {b : Addr}, H b = none → b ≠ a := fun {b} n z => by rw [z, ha] at n; cases n
      rcases c with ⟨rfl, e0'⟩ | ⟨dx, m0, rfl, ne, hn, hw, hlk, hr0⟩
      · -- no field
        have hfs : fs = [] := by
          cases fs with
          | nil => rfl
          | cons f0 r =>
            cases ur with
            | nil => cases hlen
            | cons _ _ => simp at e0'
        refine ⟨.non, H, rfl, e0.bare, ⟨fun b o e n _ _ => keep b o (na n) e, fun b o e n _ _ => ⟨o.slots, keep b o (na n) e⟩, fun b o e n _ => n, fun b o e _ => kp.there b o e, fun _ _ e => e, fun _ _ _ e => e, fun b ps e => ⟨#[], by rw [e]; simp⟩⟩, fun b o e => ?_, rfl, q0 hfs⟩
        by_cases hb : b = a
        · subst hb
          rw [ha] at e
          cases e
          exact exo_ok hx'
        · refine (e0.hok b o e).stay (fun c v hc z => keep c v ?_ z) (fun _ e => e) fun _ _ e => e
          rcases hc with rfl | hc
          · exact hb
          · exact at_ne ha hc exo_own
      · have hdn : s.heap.get? dx = none := by
          cases e : s.heap.get? dx with
          | none => rfl
          | some o => exact absurd rfl (kp.nd dx o e (nd0 dx) _ hx')
        have hHd : H dx = none := by
          cases e : H dx with
          | none => rfl
          | some o =>
            obtain ⟨u, eu⟩ := objOk_get (e0.hok dx o e)
            rw [hdn] at eu
            cases eu
        have nd : ∀ {b : Addr} {o : Obj}, s.heap.get? b = some o → b ≠ dx := fun {b o} e z => by rw [z, hdn] at e; cases e
        have hne : fs ≠ [] := fun z => by
          subst z
          exact hr0 (by simp)
        refine ⟨.non, _, rfl, e0.bare, ⟨fun b o e n _ _ => keep b o (na n) e, fun b o e n _ _ => ⟨o.slots, keep b o (na n) e⟩, fun b o e n _ => by rw [upd_ne (na n), upd_ne (nd e)]; exact n, fun b o e _ => kp.there b o e,
          fun b xs e => by rw [upd_ne (at_ne ha e exo_tup), upd_ne (ne_of_none e hHd)]; exact e, fun b o u e => by rw [upd_ne (at_ne ha e exo_frz), upd_ne (ne_of_none e hHd)]; exact e, fun b ps e => ⟨#[], by rw [upd_ne (at_ne ha e exo_tbl), upd_ne (ne_of_none e hHd), e]; simp⟩⟩, fun b o e => ?_, rfl, q1 hne dx hHd ne⟩
        by_cases hb : b = a
        · subst hb
          rw [upd_same] at e
          cases e
          exact exo_ok hx'
        · rw [upd_ne hb] at e
          by_cases hd : b = dx
          · subst hd
            rw [upd_same] at e
            cases e
            refine exd_ok hn fun g => ?_
            rw [hlk g]
            have := rel_look rw' fs [] [] (fun _ => True.intro) g
            simpa using this
          · rw [upd_ne hd] at e
            refine (e0.hok b o e).stay (fun c v hc z => keep c v ?_ z) (fun c hc => by rw [upd_ne (at_ne ha hc exo_own), upd_ne (ne_of_none hc hHd)]; exact hc) (fun c xs hc => by rw [upd_ne (at_ne ha hc exo_tup), upd_ne (ne_of_none hc hHd)]; exact hc)
            rcases hc with rfl | hc
            · exact hb
            · exact at_ne ha hc exo_own
end
end AmX

set_option Elab.async false
set_option linter.all false
set_option maxRecDepth 100000
set_option maxHeartbeats 4000000
namespace AmX
open PySem PySem.W PySem.Calls PyProof.Rows PySem.HandSPX PySem.ESX
section
variable {prog : Program} {w : World} {A : Around} {E : Value → Shared → Prop} {R : Result → Shared → Prop} {h : Heap} {g : Array GenState} {d : Drawn} {t : Nat} {os : OsState}
variable {nm q : Str} {C N : Addr} {bs bm bmB : List Value} {hdct : Bool} {sn : List Str} {sub : List Value} {ab : Bool} {col : Option Bool} {dd : Option Addr} {k0 k1 k2 k3 k5 : Option Value} {B newId initId : String}
/-- a new one, though names are told -/
theorem mk_new (F : ExcBaseFacts B newId initId bmB) (hT : ∀ X : String, bm.contains (.type X) = bmB.contains (.type X)) {us : List Value} {kw : List (Str × Value)}
    (hC : h.get? C = some (excClassObj nm q C N bs bm hdct sn sub ab col dd k0 k1 k2 k3 k5 newId)) (hz : us.length ≤ sizeLine)
    (hq : R (.ok (.ret (.ref (h.objs.size + 1)))) ⟨(h.push (W.kdv_tup us)).push (excO C h.objs.size), g, d, t, os⟩) :
    codeAny (model prog w) A (.builtin newId ⟨.ref C :: us, kw⟩) R ⟨h, g, d, t, os⟩ := by
  have hends := F.ends
  have cB : (Value.ref C :: bm).contains (.type B) = true := by rw [List.contains_cons, hT, F.hasB, Bool.or_true]
  have cA : (Value.ref C :: bm).contains (.type "AttributeError") = false := by rw [List.contains_cons, hT, F.noAttr]; rfl
  have cN : (Value.ref C :: bm).contains (.type "NameError") = false := by rw [List.contains_cons, hT, F.noName]; rfl
  refine codeAny_builtinAt F.entry ?_
  unfold Builtin.«BaseException.__new__»
  refine PySem.wpAt_bind ?_
  show PySem.wpAt _ _ _ (stack >>= _) _ _ _
  refine PySem.wpAt_bind (PySem.wpAt_stack fun p below => PySem.wpAt_of_wpAny ?_)
  wp_walk
  refine PySem.wpAt_of_wpAny ?_
  rw [F.owner]
  repeat (first | with_reducible refine wpAny_madeHere_exc F.canon hC ?_ | with_reducible refine wpAny_loadPart_at hC ?_ | (with_reducible refine wpAny_isSubtype_exc hC ?_; first | rw [cB] | rw [cA] | rw [cN]) | wp_step)
  show R _ _
  rw [Heap.size_push]
  exact hq
theorem mk_chk {M : Model} (F : ExcBaseFacts B newId initId bmB) (hT : ∀ X : String, bm.contains (.type X) = bmB.contains (.type X)) {us : List Value} {kw : List (Str × Value)} {Q : Unit → Shared → Prop}
    (hC : h.get? C = some (excClassObj nm q C N bs bm hdct sn sub ab col dd k0 k1 k2 k3 k5 newId)) (hq : Q () ⟨h, g, d, t, os⟩) : wpAny M A (checkBuiltinCall newId ⟨.ref C :: us, kw⟩) Q E ⟨h, g, d, t, os⟩ := by
  have hcont : (Value.ref C :: bm).contains (.type B) = true := by rw [List.contains_cons, hT, F.hasB, Bool.or_true]
  have hstar := F.noStar
  simp only [checkBuiltinCall, F.newKind, F.newSplit, F.newRow]
  repeat (first | refine wpAny_loadPart_at hC ?_ | (refine wpAny_isSubtype_exc hC ?_; rw [hcont]) | refine wpAny_staticBase_exc hC ?_ | refine wpAny_madeBy_exc hC ?_ | simp only [bne_self_eq_false, Bool.false_eq_true, if_false] | wp_step)
  exact hq
theorem mk_type (F : ExcBaseFacts B newId initId bmB) (hT : ∀ X : String, bm.contains (.type X) = bmB.contains (.type X)) {us : List Value} {kw : List (Str × Value)} {fI : Addr} {Q : Fin → Shared → Prop}
    (hC : h.get? C = some (excClassObj nm q C N bs bm hdct sn sub ab col dd k0 k1 k2 k3 k5 newId))
    (hi : W.Looks (model prog w) h (typeLookup (.ref C) "__init__") (some (.ref fI))) (hb : ∀ self, W.Looks (model prog w) h (bindSpecial (.ref fI) self) (.ref fI, [self])) (hz : us.length ≤ sizeLine)
    (hq : codeAny (model prog w) A (.call (.ref fI) ⟨.ref (h.objs.size + 1) :: us, kw⟩)
      (fun r s' => match r with | .ok (.ret v) => v = .none ∧ Q (.done (.ret (.ref (h.objs.size + 1)))) s' | .ok _ => False | .error e => E e s')
      ⟨(h.push (W.kdv_tup us)).push (excO C h.objs.size), g, d, t, os⟩) :
    wpAny (model prog w) A (Builtin.«type.__call__» ⟨.ref C :: us, kw⟩) Q E ⟨h, g, d, t, os⟩ := by
  repeat (first | with_reducible refine wpAny_loadPart_at hC ?_ | with_reducible refine wpAny_madeBy_exc hC ?_ | wp_step)
  refine codeAny_call_builtin_code (Code.quiet_builtin _ F.quiet) (mk_chk F hT hC ?_)
  refine mk_new F hT hC hz ?_
  show wpAny _ _ _ _ _ _
  have k : ∀ b o, h.get? b = some o → ((h.push (W.kdv_tup us)).push (excO C h.objs.size)).get? b = some o := fun b o e => Heap.get?_push_of_some _ (Heap.get?_push_of_some _ e)
  have hC₁ := k _ _ hC
  have hget : ((h.push (W.kdv_tup us)).push (excO C h.objs.size)).get? (h.objs.size + 1) = some (excO C h.objs.size) := by heap_get
  have cC : (Value.ref C :: bm).contains (.ref C) = true := by simp
  have i1 := hi.keeps k
  have b1 := (hb (.ref (h.objs.size + 1))).keeps k
  unfold isInstance
  repeat (first | with_reducible refine wpAny_loadPart_at hget ?_ | (with_reducible refine wpAny_isSubtype_exc hC₁ ?_; rw [cC]) | wp_step)
  show wpAny _ _ (typeLookup (.ref C) _) _ _ _
  refine i1.at ?_
  refine wpAny_holding (wpAny_bind (b1.at ?_))
  refine wpAny_bind (wpAny_call (codeAny_mono hq fun r s' z => ?_))
  rcases r with e | (v | _ | _ | _) <;> first | exact z | exact z.elim | skip
  obtain ⟨rfl, z⟩ := z
  first
    | exact wpAny_pure (wpAny_pure z)
    | (wp_walk; exact z)
theorem mk_call (F : ExcBaseFacts B newId initId bmB) (hT : ∀ X : String, bm.contains (.type X) = bmB.contains (.type X)) {us : List Value} {kw : List (Str × Value)} {fI : Addr}
    (hC : h.get? C = some (excClassObj nm q C N bs bm hdct sn sub ab col dd k0 k1 k2 k3 k5 newId))
    (hi : W.Looks (model prog w) h (typeLookup (.ref C) "__init__") (some (.ref fI))) (hb : ∀ self, W.Looks (model prog w) h (bindSpecial (.ref fI) self) (.ref fI, [self])) (hz : us.length ≤ sizeLine)
    (hq : codeAny (model prog w) (A.under (.builtin "type.__call__" ⟨.ref C :: us, kw⟩)) (.call (.ref fI) ⟨.ref (h.objs.size + 1) :: us, kw⟩) (W.InitBack (h.objs.size + 1) R)
      ⟨(h.push (W.kdv_tup us)).push (excO C h.objs.size), g, d, t, os⟩) :
    codeAny (model prog w) A (.call (.ref C) ⟨us, kw⟩) R ⟨h, g, d, t, os⟩ := by
  have f1 := tc_lookup
  have f2 := tc_bind (.ref C)
  have hTy : (⟨h, g, d, t, os⟩ : Shared).TypeIs (.ref C) "type" := ⟨_, hC, rfl⟩
  refine codeAny_of_tree ?_
  show wpAny _ _ (callAny (.ref C) _) _ _ _
  repeat (any_goals (first | assumption | with_reducible refine wpAny_loadPart_at hC ?_ | wp_step))
  refine ⟨rfl, ?_⟩
  refine codeAny_call_builtin_at (Code.quiet_builtin _ (by decide +kernel)) entry_typeCall (wpAny_check_type_call_sub hC (mk_type F hT hC hi hb hz ?_))
  refine codeAny_mono hq fun r s' z => ?_
  rcases r with e | (v | _ | _ | _) <;> exact z
end
end AmX

set_option Elab.async false
set_option linter.all false
set_option maxRecDepth 100000
set_option maxHeartbeats 4000000
namespace Am
open PySem L2 AmX
/-! ### own exceptions as values -/
theorem rel_exc {K : PySem.W.Frag} {μ : Nat → Addr} {h : Hq} {H : Hp} {p : Addr} {c : String} (rel : Rel K μ h H) (hp : H p = none) :
    Rel K (mset μ h.length p) (h ++ [.exc c []]) (upd H p (exo p (cla K c) none)) :=
  rel.new hp ⟨none, upd_same, .inl ⟨rfl, rfl⟩⟩
theorem rel_exc' {K : PySem.W.Frag} {μ : Nat → Addr} {h : Hq} {H : Hp} {p dx : Addr} {c : String} {fs : List (String × D)} {fv : List (Str × V)} (rel : Rel K μ h H) (hp : H p = none) (hd : H dx = none) (ne : dx ≠ p) (r : FRep μ h.length H fs fv) :
    Rel K (mset μ h.length p) (h ++ [.exc c fs]) (upd (upd H dx (exd dx fv)) p (exo p (cla K c) (some dx))) ∧
    Stp h.length μ H (h.length + 1) (mset μ h.length p) (upd (upd H dx (exd dx fv)) p (exo p (cla K c) (some dx))) := by
  have st1 : Stp h.length μ H h.length μ (upd H dx (exd dx fv)) := stp_tup hd
  have rel1 : Rel K μ h (upd H dx (exd dx fv)) := ⟨rel.inj, fun i q e => (rel.obj i q e).mono st1 (fun _ e => up_new hd e) fun _ _ e => up_new hd e⟩
  have hp1 : upd H dx (exd dx fv) p = none := by rw [upd_ne (Ne.symm ne)]; exact hp
  have st2 := stp_new (u := exo p (cla K c) (some dx)) (h := h) (μ := μ) hp1
  exact ⟨rel1.new hp1 ⟨some dx, upd_same, .inr ⟨dx, fv, rfl, by rw [upd_ne ne, upd_same], (r.mono st1).mono st2⟩⟩, st1.trans st2⟩
theorem frep_zip {μ : Nat → Addr} {N : Nat} {H : Hp} : ∀ {ns : List String} {ds : List D} {vs : List V}, Reps μ N H ds vs → ns.length = ds.length → FRep μ N H (ns.zip ds) ((ns.map Str.ofString).zip vs)
  | [], _, _, .nil, _ => .nil
  | _ :: _, _, _, .cons h r, e => .cons h (frep_zip r (by simpa using e))
  | [], _, _, .cons _ _, e => by simp at e
  | _ :: _, _, _, .nil, e => by simp at e
theorem FRep.append {μ : Nat → Addr} {N : Nat} {H : Hp} : ∀ {fs gs : List (String × D)} {us vs : List (Str × V)}, FRep μ N H fs us → FRep μ N H gs vs → FRep μ N H (fs ++ gs) (us ++ vs)
  | _, _, _, _, .nil, s => s
  | _, _, _, _, .cons h r, s => .cons h (FRep.append r s)
theorem FRep.reverse {μ : Nat → Addr} {N : Nat} {H : Hp} : ∀ {fs : List (String × D)} {us : List (Str × V)}, FRep μ N H fs us → FRep μ N H fs.reverse us.reverse
  | _, _, .nil => .nil
  | _, _, .cons h r => by
    rw [List.reverse_cons, List.reverse_cons]
    exact FRep.append (FRep.reverse r) (.cons h .nil)
/-- the values, in the order of the parameters -/
def sel {α : Type} (ix : List Nat) (l : List α) : List α := ix.filterMap (l[·]?)
theorem reps_get' {μ : Nat → Addr} {N : Nat} {H : Hp} {ds : List D} {vs : List V} (r : Reps μ N H ds vs) (i : Nat) : (ds[i]? = none ∧ vs[i]? = none) ∨ ∃ d v, ds[i]? = some d ∧ vs[i]? = some v ∧ Rep μ N H d v := by
  cases e : ds[i]? with
  | none => exact .inl ⟨rfl, by rw [List.getElem?_eq_none_iff] at e ⊢; rw [← r.length]; exact e⟩
  | some d =>
    obtain ⟨v, h1, h2⟩ := r.get e
    exact .inr ⟨d, v, rfl, h1, h2⟩
theorem Reps.sel {μ : Nat → Addr} {N : Nat} {H : Hp} {ds : List D} {vs : List V} (r : Reps μ N H ds vs) : ∀ ix : List Nat, Reps μ N H (sel ix ds) (sel ix vs)
  | [] => .nil
  | i :: ix => by
    unfold Am.sel
    rcases reps_get' r i with ⟨a, b⟩ | ⟨d, v, a, b, c⟩
    · rw [List.filterMap_cons_none a, List.filterMap_cons_none b]; exact Reps.sel r ix
    · rw [List.filterMap_cons_some a, List.filterMap_cons_some b]; exact .cons c (Reps.sel r ix)
theorem vals_get' {vs : List V} {us : List Value} (r : Vals vs us) : ∀ i : Nat, (vs[i]? = none ∧ us[i]? = none) ∨ ∃ v u, vs[i]? = some v ∧ us[i]? = some u ∧ RelV v u := by
  induction r with
  | nil => exact fun i => .inl ⟨by simp, by simp⟩
  | cons h _ ih =>
    intro i
    cases i with
    | zero => exact .inr ⟨_, _, rfl, rfl, h⟩
    | succ i => simpa using ih i
theorem vals_sel {vs : List V} {us : List Value} (r : Vals vs us) : ∀ ix : List Nat, Vals (sel ix vs) (sel ix us)
  | [] => .nil
  | i :: ix => by
    unfold sel
    rcases vals_get' r i with ⟨a, b⟩ | ⟨d, v, a, b, c⟩
    · rw [List.filterMap_cons_none a, List.filterMap_cons_none b]; exact vals_sel r ix
    · rw [List.filterMap_cons_some a, List.filterMap_cons_some b]; exact .cons c (vals_sel r ix)
/-- an own exception's class, as the written part has it -/
structure Xc (P : Program) (w : World) (K : PySem.W.Frag) (mg : Str → Option Value) (base : Heap) (c : String) (fs : List String) (fI : Addr) (fd : FuncData) : Prop where
  cls : XCls K (cla K c)
  mgc : mg (Str.ofString c) = some (.ref (cla K c))
  ini : PySem.W.findIn K (.ref (cla K c)) "__init__" = some (some (.ref fI))
  tyI : PySem.W.typeIn K (.ref fI) = some (.type "function")
  ok : FnOk P w K mg base (L2.CX P w) 1 fI fd ("self" :: fs.map Str.ofString) (spX (cla K c) (fs.map Str.ofString))
def eMk (c : String) (fs : List String) (n m : Nat) (ix : List Nat) (a k : EA) : E := fun ρ h => (a ρ h).bind fun us h1 => (k ρ h1).bind fun ws h2 =>
  if us.length = n ∧ ws.length = m ∧ (sel ix (us ++ ws)).length = fs.length then .ok (.ref h2.length) (h2 ++ [.exc c (fs.zip (sel ix (us ++ ws))).reverse]) else .bad
section
variable {X : Cx} {W : WX} {c : String} {fs : List String} {fI : Addr} {fd : FuncData} {pins : List (Addr × Obj)} {σ : L2.St} {H : Hp} {s : Shared} {Q : VK}
theorem run_mk {us ws : List Value} {vs zs : List V} {ks : List Str} {ix : List Nat} {μ : Nat → Addr} {h : Hq} {ds es : List D} (C : Xc X.prog X.w X.K X.mg X.base c fs fI fd) (hr : Room 2 X.A)
    (hb : ∀ (s : Shared) (x : Value), X.K.In s.heap → BindsTo s fd ⟨x :: us, ks.zip ws⟩ ((("self" : Str) :: fs.map Str.ofString).zip (x :: sel ix (us ++ ws))))
    (I : Inv X pins σ H s) (r : Vals vs us) (rz : Vals zs ws) (rel : Rel X.K μ h H) (rd : Reps μ h.length H ds vs) (re : Reps μ h.length H es zs) (hl : (sel ix (ds ++ es)).length = fs.length) (hus : us.length ≤ sizeLine)
    (g : G X.K W σ h.length μ H rpD (.ok (.ref h.length) (h ++ [.exc c (fs.zip (sel ix (ds ++ es))).reverse])) Q) :
    wpAny (model X.prog X.w) X.A (call (.ref (cla X.K c)) us (ks.zip ws)) (EP X pins σ Q) X.xe s := by
  obtain ⟨nm, q, N, bs, bm, sn, sub, ab, col, dd, k0, k1, k2, k3, k5, hC, hbm⟩ := C.cls.cls
  obtain ⟨hp, gg, dr, tk, os⟩ := s
  have hsz : hp.objs.size ≤ hp.objs.size + 1 := Nat.le_succ _
  have hn : H (hp.objs.size + 1) = none := I.hok.fresh hsz
  have kk : ∀ b o, hp.get? b = some o → ((hp.push (PySem.W.kdv_tup us)).push (PySem.HandSPX.excO (cla X.K c) hp.objs.size)).get? b = some o := fun b o e => Heap.get?_push_of_some _ (Heap.get?_push_of_some _ e)
  have hget : ((hp.push (PySem.W.kdv_tup us)).push (PySem.HandSPX.excO (cla X.K c) hp.objs.size)).get? (hp.objs.size + 1) = some (PySem.HandSPX.excO (cla X.K c) hp.objs.size) := by heap_get
  have I2 : Inv X pins σ (upd H (hp.objs.size + 1) (exo (hp.objs.size + 1) (cla X.K c) none)) ⟨(hp.push (PySem.W.kdv_tup us)).push (PySem.HandSPX.excO (cla X.K c) hp.objs.size), gg, dr, tk, os⟩ :=
    I.laid (t' := tk) (a := hp.objs.size + 1) (o := exo (hp.objs.size + 1) (cla X.K c) none) (h' := (hp.push (PySem.W.kdv_tup us)).push (PySem.HandSPX.excO (cla X.K c) hp.objs.size)) kk hsz (exo_ok hget)
  have r2 : Vals (V.ref (hp.objs.size + 1) :: sel ix (vs ++ zs)) (Value.ref (hp.objs.size + 1) :: sel ix (us ++ ws)) := .cons rfl (vals_sel (r.append rz) ix)
  have rds := (rd.append re).sel ix
  have hq : spX (cla X.K c) (fs.map Str.ofString) (V.ref (hp.objs.size + 1) :: sel ix (vs ++ zs)) (upd H (hp.objs.size + 1) (exo (hp.objs.size + 1) (cla X.K c) none)) (fun v H3 => v = .non ∧ Q (.ref (hp.objs.size + 1)) H3) (fun _ _ _ => False) := by
    refine ⟨hp.objs.size + 1, _, rfl, by rw [List.length_map, ← rds.length, hl], upd_same, fun e => ?_, fun e dx hdx ne => ?_⟩
    · have e0 : fs = [] := by simpa using e
      subst e0
      refine ⟨rfl, g _ _ _ ?_ (rel_exc rel hn) ?_⟩
      · rw [List.length_append]; exact stp_new hn
      · rw [List.length_append]
        have := Rep.ref (μ := mset μ h.length (hp.objs.size + 1)) (N := h.length + 1) (H := upd H (hp.objs.size + 1) (exo (hp.objs.size + 1) (cla X.K c) none)) (n := h.length) (Nat.lt_succ_self _)
        rw [mset_same] at this
        exact this
    · have hdx' : H dx = none := by rw [upd_ne ne] at hdx; exact hdx
      have fr := (frep_zip (ns := fs) rds hl.symm).reverse
      obtain ⟨rel', st'⟩ := rel_exc' (c := c) rel hn hdx' ne fr
      have eq : upd (upd (upd H (hp.objs.size + 1) (exo (hp.objs.size + 1) (cla X.K c) none)) dx (exd dx ((fs.map Str.ofString).zip (sel ix (vs ++ zs))).reverse)) (hp.objs.size + 1) (exo (hp.objs.size + 1) (cla X.K c) (some dx)) =
          upd (upd H dx (exd dx ((fs.map Str.ofString).zip (sel ix (vs ++ zs))).reverse)) (hp.objs.size + 1) (exo (hp.objs.size + 1) (cla X.K c) (some dx)) := by
        funext b
        by_cases hb : b = hp.objs.size + 1
        · subst hb; rw [upd_same, upd_same]
        · rw [upd_ne hb, upd_ne hb]
          by_cases hd : b = dx
          · subst hd; rw [upd_same, upd_same]
          · rw [upd_ne hd, upd_ne hd, upd_ne hb]
      rw [eq]
      refine ⟨rfl, g _ _ _ ?_ rel' ?_⟩
      · rw [List.length_append]; exact st'
      · rw [List.length_append]
        have := Rep.ref (μ := mset μ h.length (hp.objs.size + 1)) (N := h.length + 1) (H := upd (upd H dx (exd dx ((fs.map Str.ofString).zip (sel ix (vs ++ zs))).reverse)) (hp.objs.size + 1) (exo (hp.objs.size + 1) (cla X.K c) (some dx))) (n := h.length) (Nat.lt_succ_self _)
        rw [mset_same] at this
        exact this
  refine wpAny_call (mk_call F.excBase_Exception (fun Y => exOk_contains Y bm hbm) (I.kIn _ _ hC) (PySem.W.looks_findIn I.kIn C.ini) (fun self => PySem.W.bind_fn I.kIn self C.tyI) hus
    (codeAny_mono (C.ok.run _ X.stack _ _ ⟨Value.ref (hp.objs.size + 1) :: us, ks.zip ws⟩ (Value.ref (hp.objs.size + 1) :: sel ix (us ++ ws)) _ _ (fun _ _ _ => False) (hr.make (cla X.K c) us (ks.zip ws)) (I2.env0.make (cla X.K c) us (ks.zip ws)) (hb _ _ I2.kIn) r2 hq) fun r s' hq' => ?_))
  cases r with
  | error er =>
    obtain ⟨_, _, _, _, _, _, _, _, _, _, _, _, z⟩ := hq'
    exact z.elim
  | ok fl =>
    cases fl with
    | ret u =>
      obtain ⟨v, H', I3, rv, ev, q3⟩ := I2.after hq'
      subst ev
      exact ⟨rv, ⟨V.ref (hp.objs.size + 1), H', I3, rfl, q3⟩⟩
    | next => exact False.elim hq'
    | brk => exact False.elim hq'
    | cont => exact False.elim hq'
end
end Am

set_option Elab.async false
set_option linter.all false
set_option maxRecDepth 100000
set_option maxHeartbeats 4000000
namespace Am
open PySem L2 AmX
def Bd (K : PySem.W.Frag) (fd : FuncData) (fs : List String) (n m : Nat) (ix : List Nat) (ks : List Str) : Prop := ∀ (us ws : List Value), us.length = n → ws.length = m → ∀ (s : Shared) (x : Value), K.In s.heap → BindsTo s fd ⟨x :: us, ks.zip ws⟩ ((("self" : Str) :: fs.map Str.ofString).zip (x :: sel ix (us ++ ws)))
section
variable {X : Cx} {W : WX} {k : Nat} {c : String} {fs : List String} {fI : Addr} {fd : FuncData} {x : Str} {p pos : Pos} {e : Expr} {es : List Expr} {m mk : EA} {n : Nat} {ix : List Nat} {kws : List Keyword} {ks : List Str}
theorem len_le {σ : L2.St} {H : Hp} {vs : List V} {us : List Value} (r : Vals vs us) {n : Nat} (h : vs.length = n) (hn : n ≤ 1000) : us.length ≤ sizeLine := by
  rw [← r.length, h, sizeLine_eq]; omega
/-- C(e, ..) -/
theorem b_mk (C : Xc X.prog X.w X.K X.mg X.base c fs fI fd) (Z : Ctx X W k) (hb : Bd X.K fd fs n 0 ix []) (ha : PA X (e :: es) (tEA X.K W m)) (hk : 2 ≤ k := by omega) (hn : n ≤ 1000 := by omega) (hg : Gl X (Str.ofString c) := by rfl)
    (hdb : ((Str.ofString c : Str) == ("__debug__" : Str)) = false := by decide) (he : starEach (e :: es) X.env = (false, eval e X.env) :: starEach es X.env := by rfl) (hpl : (backTo pos (starEach es X.env)).any (·.1) = false := by rfl) :
    PE X (.Call (.Name (Str.ofString c) p) (e :: es) [] pos) (tE X.K W (eMk c fs n 0 ix m eNil)) := by
  refine ⟨fun pins s σ H Q I h => ?_⟩
  obtain ⟨μ, h, ρ, rel, sr, g⟩ := h
  refine wpAny_Call_Name_kw (ld_glob I hg C.mgc ?_ hdb)
  refine PySem.W.callWith_K (h₀ := X.base) I.ok.mod.kin C.cls.kC (thn (ha.run pos pins s σ H _ I ⟨μ, h, ρ, rel, sr, G.bind (rp := rpL) g⟩) fun us s1 ⟨vs, H1, I1, r1, q1⟩ => ⟨I1.kIn, ?_⟩) he hpl
  obtain ⟨μ1, ds, h1, st1, rel1, rd, g1⟩ := q1
  unfold eNil at g1
  simp only [R.bind] at g1
  by_cases hc : ds.length = n ∧ ([] : List D).length = 0 ∧ (sel ix (ds ++ [])).length = fs.length
  · rw [if_pos hc] at g1
    have hl : us.length = n := by rw [← r1.length, ← rd.length]; exact hc.1
    refine run_mk (us := us) (ws := []) (zs := []) (ks := []) C (Z.room.mono hk) (hb us [] hl rfl) I1 r1 .nil rel1 rd .nil hc.2.2 (by rw [hl, sizeLine_eq]; omega) g1
  · rw [if_neg hc] at g1
    exact g1.elim
/-- C() -/
theorem b_mk0 (C : Xc X.prog X.w X.K X.mg X.base c fs fI fd) (Z : Ctx X W k) (hb : Bd X.K fd fs 0 0 ix []) (hk : 2 ≤ k := by omega) (hg : Gl X (Str.ofString c) := by rfl)
    (hdb : ((Str.ofString c : Str) == ("__debug__" : Str)) = false := by decide) :
    PE X (.Call (.Name (Str.ofString c) p) [] [] pos) (tE X.K W (eMk c fs 0 0 ix eNil eNil)) := by
  refine ⟨fun pins s σ H Q I h => ?_⟩
  obtain ⟨μ, h, ρ, rel, sr, g⟩ := h
  refine wpAny_Call_Name_kw (ld_glob I hg C.mgc ?_ hdb)
  refine PySem.W.callWith_K0 I.kIn C.cls.kC ?_
  unfold eMk eNil at g
  simp only [R.bind] at g
  by_cases hc : ([] : List D).length = 0 ∧ ([] : List D).length = 0 ∧ (sel ix ([] ++ [] : List D)).length = fs.length
  · rw [if_pos hc] at g
    refine run_mk (us := []) (vs := []) (ws := []) (zs := []) (ks := []) C (Z.room.mono hk) (hb [] [] rfl rfl) I .nil .nil rel .nil .nil hc.2.2 (by rw [sizeLine_eq]; simp) g
  · rw [if_neg hc] at g
    exact g.elim
inductive KArgs : List Keyword → List Expr → Prop
  | nil : KArgs [] []
/-- keyword arguments -/
def tEK (K : PySem.W.Frag) (W : WX) (m : EA) : TA := tEA K W m
theorem k_nil : PK X [] (tEA X.K W eNil) := ⟨fun pos pins s σ H Q I q => pk_nil.run pos pins s σ H Q I (by obtain ⟨μ, h, ρ, rel, sr, g⟩ := q; exact g μ H [] .refl rel .nil)⟩
theorem k_cons {nm : Option Str} {kpos : Pos} {kr : List Keyword} {me : E} {mr : EA} (ha : PE X e (tE X.K W me)) (hr : PK X kr (tEA X.K W mr)) : PK X (⟨nm, e, kpos⟩ :: kr) (tEA X.K W (eCons me mr)) :=
  ⟨fun pos pins s σ H Q I q => (pk_cons ha hr).run pos pins s σ H Q I (by
    obtain ⟨μ, h, ρ, rel, sr, g⟩ := q
    unfold eCons at g
    refine ⟨μ, h, ρ, rel, sr, G.imp (fun x H1 z => ?_) (G.bind (rp := rpD) g)⟩
    obtain ⟨μ1, d, h1, st1, rel1, r1, g1⟩ := z
    refine ⟨μ1, h1, ρ, rel1, sr.mono st1, G.imp (fun xs H2 z => ?_) (G.bind (rp := rpL) g1)⟩
    obtain ⟨μ2, ds, h2, st2, rel2, r2, g2⟩ := z
    exact g2 μ2 H2 _ .refl rel2 (.cons (r1.mono st2) r2))⟩
/-- C(f = e, ..) -/
theorem b_mkK (C : Xc X.prog X.w X.K X.mg X.base c fs fI fd) (Z : Ctx X W k) (hb : Bd X.K fd fs 0 n ix ks) (ha : PK X kws (tEA X.K W m)) (hk : 2 ≤ k := by omega) (hg : Gl X (Str.ofString c) := by rfl)
    (hdb : ((Str.ofString c : Str) == ("__debug__" : Str)) = false := by decide) (hall : (backToKw pos (keywordEach kws X.env)).all (·.1.isSome) = true := by rfl) (hks : (backToKw pos (keywordEach kws X.env)).filterMap (·.1) = ks := by rfl)
    (hpl : ((backTo pos (starEach [] X.env)).any (·.1) || (backToKw pos (keywordEach kws X.env)).any (·.1.isNone)) = false := by rfl) :
    PE X (.Call (.Name (Str.ofString c) p) [] kws pos) (tE X.K W (eMk c fs 0 n ix eNil m)) := by
  refine ⟨fun pins s σ H Q I h => ?_⟩
  obtain ⟨μ, h, ρ, rel, sr, g⟩ := h
  refine wpAny_Call_Name_kw (ld_glob I hg C.mgc ?_ hdb)
  have g' : G X.K W σ h.length μ H rpD ((m ρ h).bind fun ws h2 => if ([] : List D).length = 0 ∧ ws.length = n ∧ (sel ix ([] ++ ws)).length = fs.length then R.ok (D.ref h2.length) (h2 ++ [O.exc c (fs.zip (sel ix ([] ++ ws))).reverse]) else R.bad) Q := g
  refine PySem.W.callWith_KW0 (h₀ := X.base) I.ok.mod.kin C.cls.kC hall ?_ hpl
  refine thn (ha.run pos pins s σ H _ I ⟨μ, h, ρ, rel, sr, G.bind (rp := rpL) g'⟩) fun ws s2 ⟨zs, H2, I2, rz, q2⟩ => ⟨I2.kIn, ?_⟩
  rw [hks]
  obtain ⟨μ1, ds, h1, st1, rel1, rd, g1⟩ := q2
  by_cases hc : ([] : List D).length = 0 ∧ ds.length = n ∧ (sel ix ([] ++ ds)).length = fs.length
  · rw [if_pos hc] at g1
    have hl : ws.length = n := by rw [← rz.length, ← rd.length]; exact hc.2.1
    refine run_mk (us := []) (vs := []) C (Z.room.mono hk) (hb [] ws rfl hl) I2 .nil rz rel1 .nil rd hc.2.2 (by rw [sizeLine_eq]; simp) g1
  · rw [if_neg hc] at g1
    exact g1.elim
end
end Am

set_option Elab.async false
set_option linter.all false
set_option maxRecDepth 100000
set_option maxHeartbeats 4000000
namespace Am
open PySem L2 AmX PyProof.Rows
/-! ### the fields of own exceptions -/
theorem ofs_inj {a b : String} (h : Str.ofString a = Str.ofString b) : a = b := by
  rw [Str.ofString_eq_toList, Str.ofString_eq_toList] at h
  have h1 : (a.toList.map Char.toNat).toArray = (b.toList.map Char.toNat).toArray := by injection h
  have h2 : a.toList.map Char.toNat = b.toList.map Char.toNat := by simpa using congrArg Array.toList h1
  have h3 : a.toList = b.toList := List.map_inj_right (fun x y e => Char.ext (UInt32.toNat.inj (by exact e))) |>.mp h2
  exact String.toList_inj.mp h3
/-- an exception as an instance -/
theorem exc_inst {X : Cx} {pins : List (Addr × Obj)} {σ : L2.St} {H : Hp} {s : Shared} {μ : Nat → Addr} {N : Nat} {a : Addr} {c : String} {fs : List (String × D)} (I : Inv X pins σ H s) (x : ORep X.K μ N H a (.exc c fs)) :
    ∃ ox od, PySem.W.InstAt s.heap a ox (cla X.K c) od ∧ ((fs = [] ∧ od = none) ∨ ∃ oD fv, od = some oD ∧ FRep μ N H fs fv ∧ ∀ f v, fv.lookup f = some v → ∃ u, RelV v u ∧ PySem.W.lookIn f oD = some (some u)) := by
  obtain ⟨d, e, r⟩ := x
  obtain ⟨t1, ho⟩ := exo_at I.hok e
  rcases r with ⟨z, rfl⟩ | ⟨dx, fv, rfl, e2, r⟩
  · exact ⟨_, none, ⟨ho, rfl, rfl, trivial⟩, .inl ⟨z, rfl⟩⟩
  · obtain ⟨mA, hns, hr⟩ := exd_at I.hok e2
    obtain ⟨oD, hoD, hl⟩ := lookIn_ns hns
    refine ⟨_, some oD, ⟨ho, rfl, rfl, hoD⟩, .inr ⟨oD, fv, rfl, r, fun f v l => ?_⟩⟩
    obtain ⟨u, hu, ru⟩ := RelO.some_of (v := v) (o := mA f) (by rw [← l]; exact hr f)
    exact ⟨u, ru, by rw [hl, hu]⟩
theorem FRep.look {μ : Nat → Addr} {N : Nat} {H : Hp} (f : String) : ∀ {fs : List (String × D)} {fv : List (Str × V)} {d : D}, FRep μ N H fs fv → fs.lookup f = some d → ∃ v, fv.lookup (Str.ofString f) = some v ∧ Rep μ N H d v
  | _, _, _, .nil, e => by simp at e
  | _, _, d, .cons (f := g) (d := d0) (v := v0) h r, e => by
    by_cases q : f = g
    · subst q
      simp [List.lookup] at e
      subst e
      exact ⟨v0, by simp [List.lookup], h⟩
    · have b : (f == g) = false := by simpa using q
      simp only [List.lookup, b] at e
      obtain ⟨v, h1, h2⟩ := FRep.look f r e
      refine ⟨v, ?_, h2⟩
      have q' : Str.ofString f ≠ Str.ofString g := fun z => q (ofs_inj z)
      have b' : (Str.ofString f == Str.ofString g) = false := by simpa using q'
      simp only [List.lookup, b']
      exact h1
/-- what the written part says of the fields' reading, for these classes and fields -/
def xaB (K : PySem.W.Frag) (p : String × String) : Bool := xfB K (cla K p.1) && decide (PySem.W.findIn K (.ref (cla K p.1)) (Str.ofString p.2) = some none)
def excF (h : Hq) (tb : List (String × String)) (f : String) : D → Option D
  | .ref n => match h[n]? with
    | some (.exc c fs) => if tb.contains (c, f) then fs.lookup f else none
    | _ => none
  | _ => none
def eXf (tb : List (String × String)) (f : String) (m : E) : E := fun ρ h => (m ρ h).bind fun d h1 => match excF h1 tb f d with
  | some v => .ok v h1
  | none => .bad
section
variable {X : Cx} {W : WX} {m : E} {e : Expr} {pos : Pos} {tb : List (String × String)} {f : String}
theorem b_xf (ht : ∀ p ∈ tb, xaB X.K p = true) (he : PE X e (tE X.K W m)) (hb : attributeBase e (Str.ofString f) X.env (eval e X.env) = eval e X.env := by rfl) : PE X (.Attribute e (Str.ofString f) pos) (tE X.K W (eXf tb f m)) := by
  refine ⟨fun pins s σ H Q I q => ?_⟩
  obtain ⟨μ, h, ρ, rel, sr, g⟩ := q
  refine attr_of hb (thn (he.run pins s σ H _ I ⟨μ, h, ρ, rel, sr, G.bind (rp := rpD) g⟩) fun u s1 hh => ?_)
  obtain ⟨v, H1, I1, rv, μ1, d, h1, st1, rel1, rd, g1⟩ := hh
  cases d with
  | ref n =>
    cases rd with
    | ref hn =>
      obtain rfl : u = Value.ref (μ1 n) := rv
      simp only [excF] at g1
      cases eo : h1[n]? with
      | none => rw [eo] at g1; exact g1.elim
      | some o =>
        rw [eo] at g1
        cases o with
        | exc c fs =>
          simp only at g1
          by_cases hc : tb.contains (c, f) = true
          · rw [if_pos hc] at g1
            cases el : fs.lookup f with
            | none => rw [el] at g1; exact g1.elim
            | some d =>
              rw [el] at g1
              have hk := ht (c, f) (by simpa using hc)
              obtain ⟨k1, k2⟩ := Bool.and_eq_true_iff.mp hk
              have T := xfB_ok k1
              have hno := of_decide_eq_true k2
              obtain ⟨ox, od, J, r⟩ := exc_inst I1 (rel1.obj n _ eo)
              rcases r with ⟨z, _⟩ | ⟨oD, fv, rfl, fr, look⟩
              · subst z; simp at el
              · obtain ⟨v, lv, rv⟩ := fr.look f el
                obtain ⟨u, ru, lu⟩ := look _ _ lv
                exact HandSPX.exc_get I1.kIn J T.ga T.gg T.exC (PySem.W.findObj_own T.hdC hno rfl lu) (handed_of ru) ⟨v, H1, I1.tok _, ru, g1 μ1 H1 v .refl rel1 rv⟩
          · rw [if_neg hc] at g1; exact g1.elim
        | _ => exact g1.elim
  | _ => exact g1.elim
end
/-! ### isinstance -/
inductive Cl where
  | ty (n : String) | own (c : String)
  deriving DecidableEq
def Cl.v (K : PySem.W.Frag) : Cl → V
  | .ty n => .ty n
  | .own c => .ref (cla K c)
def Cl.u (K : PySem.W.Frag) : Cl → Value
  | .ty n => .type n
  | .own c => .ref (cla K c)
theorem Cl.is (K : PySem.W.Frag) : ∀ c : Cl, ClsV (c.v K) (c.u K)
  | .ty n => .ty n
  | .own c => .own _
abbrev Tb := List ((Cl × Cl) × Bool)
def ktB (K : PySem.W.Frag) (tb : Tb) : Bool := tb.all fun p => decide (PySem.W.kitOne K (p.1.1.u K) (p.1.2.u K) = some p.2)
/-- own exception classes whose instances isinstance may be asked of -/
def xcB (K : PySem.W.Frag) (c : String) : Bool := (PySem.W.clsIn K (cla K c)).isSome && (decide (PySem.W.findIn K (.ref (cla K c)) "__getattribute__" = some (some (.builtin "BaseException.__getattribute__"))) && (decide (PySem.W.findIn K (.ref (cla K c)) "__getattr__" = some none) &&
  (decide (PySem.W.subIn K (.ref (cla K c)) (.type "BaseException") = some true) && (decide (PySem.W.findIn K (.ref (cla K c)) "__class__" = some (some (.builtin "object.__class__"))) && (decide (PySem.W.specialIn K (.builtin "object.__class__") "__get__" = some (some (.builtin "getset_descriptor.__get__"))) &&
  (decide (PySem.W.takesIn K (.builtin "object.__class__") = some true) && decide (PySem.W.mroIn K (cla K c) (.type "object") = some true)))))))
def clD (xs : List String) (h : Hq) : D → Option Cl
  | .non => some (.ty "NoneType")
  | .bl _ => some (.ty "bool")
  | .int _ => some (.ty "int")
  | .str _ => some (.ty "str")
  | .tup _ => some (.ty "tuple")
  | .ref n => match h[n]? with
    | some (.lst _) => some (.ty "list")
    | some (.fro _) => some (.ty "list")
    | some (.dic _) => some (.ty "dict")
    | some (.exc c _) => if xs.contains c then some (.own c) else none
    | _ => none
theorem kit_d {X : Cx} {pins : List (Addr × Obj)} {σ : L2.St} {H : Hp} {s : Shared} {μ : Nat → Addr} {h : Hq} {xs : List String} {d : D} {v : V} {u : Value} {t : Cl} (hx : ∀ c ∈ xs, xcB X.K c = true) (I : Inv X pins σ H s) (rel : Rel X.K μ h H)
    (rv : RelV v u) (rd : Rep μ h.length H d v) (e : clD xs h d = some t) : ∃ P : Heap → Prop, PySem.W.KitX X.K u (t.u X.K) P ∧ P s.heap ∧ u ≠ .builtin "__main__.__loader__#opaque" := by
  have base : ∀ {t : Cl}, TyX X.K H v (t.u X.K) → ∃ P : Heap → Prop, PySem.W.KitX X.K u (t.u X.K) P ∧ P s.heap ∧ u ≠ .builtin "__main__.__loader__#opaque" := fun ty => L2.kit_of I rv ty
  cases rd with
  | non => cases e; exact base (.base .non)
  | bl b => cases e; exact base (.base (.bl b))
  | int i => cases e; exact base (.base (.int i))
  | str i => cases e; exact base (.base (.str _))
  | tup h1 _ => cases e; exact base (.base (.tup h1))
  | @ref n hn =>
    simp only [clD] at e
    cases eo : h[n]? with
    | none => rw [eo] at e; cases e
    | some o =>
      rw [eo] at e
      have x := rel.obj n o eo
      cases o with
      | lst ys => cases e; obtain ⟨_, z, _⟩ := x; exact base (.base (.lst z))
      | fro ys =>
        cases e
        obtain ⟨_, z, _⟩ := x
        rcases z with ⟨ob, z⟩ | ⟨ob, _, _, z, zc, _⟩
        · exact base (.base (.frz z))
        · exact base (.kList z zc)
      | dic ys => cases e; obtain ⟨_, z, _⟩ := x; exact base (.base (.dK z))
      | exc c fs =>
        simp only at e
        by_cases hc : xs.contains c = true
        · rw [if_pos hc] at e
          cases e
          obtain rfl : u = Value.ref (μ n) := rv
          have q := hx c (by simpa using hc)
          unfold xcB at q
          simp only [Bool.and_eq_true] at q
          obtain ⟨q0, q1, q2, q3, q4, q5, q6, q7⟩ := q
          obtain ⟨ox, od, J, _⟩ := exc_inst I x
          exact ⟨_, PySem.W.kitx_exc q0 (of_decide_eq_true q1) (of_decide_eq_true q2) (of_decide_eq_true q3) (of_decide_eq_true q4) (of_decide_eq_true q5) (of_decide_eq_true q6) (of_decide_eq_true q7), J, fun z => nomatch z⟩
        · rw [if_neg hc] at e; cases e
      | set ys => cases e
      | ins c fs => cases e
def ansC (tb : Tb) (t : Cl) : List Cl → Option Bool
  | [] => some false
  | c :: cs => match tb.lookup (t, c), ansC tb t cs with
    | some b, some r => some (b || r)
    | _, _ => none
theorem tb_ok {K : PySem.W.Frag} {tb : Tb} (h : ktB K tb = true) {t c : Cl} {b : Bool} (e : tb.lookup (t, c) = some b) : PySem.W.kitOne K (t.u K) (c.u K) = some b := by
  have key : ∀ l : Tb, l.lookup (t, c) = some b → ((t, c), b) ∈ l := by
    intro l
    induction l with
    | nil => intro q; simp at q
    | cons p l ih =>
      obtain ⟨k, x⟩ := p
      intro q
      by_cases z : (t, c) = k
      · subst z
        simp [List.lookup] at q
        subst q
        exact List.mem_cons_self
      · have : ((t, c) == k) = false := by simpa using z
        simp only [List.lookup, this] at q
        exact List.mem_cons_of_mem _ (ih q)
  unfold ktB at h
  rw [List.all_eq_true] at h
  exact of_decide_eq_true (h _ (key tb e))
theorem ansC_ok {K : PySem.W.Frag} {tb : Tb} (h : ktB K tb = true) {t : Cl} : ∀ {cs : List Cl} {b : Bool}, ansC tb t cs = some b → PySem.W.kitAny K (t.u K) (cs.map (Cl.u K)) = some b
  | [], b, e => by cases e; rfl
  | c :: cs, b, e => by
    unfold ansC at e
    cases e1 : tb.lookup (t, c) with
    | none => rw [e1] at e; cases e
    | some b1 =>
      cases e2 : ansC tb t cs with
      | none => rw [e1, e2] at e; cases e
      | some r =>
        rw [e1, e2] at e
        cases e
        refine kitAny_cons (tb_ok h e1) (fun z => ?_) fun z => ?_
        · subst z; simpa using ansC_ok h e2
        · subst z; rfl
def eIs (xs : List String) (tb : Tb) (cs : List Cl) (m : E) : E := fun ρ h => (m ρ h).bind fun d h1 => match (clD xs h1 d).bind fun t => ansC tb t cs with
  | some b => .ok (.bl b) h1
  | none => .bad
def tCl (v : V) : TE := tC v
def rIs1 (K : PySem.W.Frag) (xs : List String) (tb : Tb) (c : Cl) : List V → Hp → VK → Prop := fun vs H Q => ∃ v μ h d, vs = [v, c.v K] ∧ Rel K μ h H ∧ Rep μ h.length H d v ∧ ∃ b, ((clD xs h d).bind fun t => ansC tb t [c]) = some b ∧ Q (.bl b) H
def rIsT (K : PySem.W.Frag) (xs : List String) (tb : Tb) (cs : List Cl) : List V → Hp → VK → Prop := fun vs H Q => ∃ v tp μ h d, vs = [v, .ref tp] ∧ H tp = some (.tup (cs.map (Cl.v K))) ∧ Rel K μ h H ∧ Rep μ h.length H d v ∧ ∃ b, ((clD xs h d).bind fun t => ansC tb t cs) = some b ∧ Q (.bl b) H
theorem paired_cls (K : PySem.W.Frag) : ∀ cs : List Cl, Paired ClsV (cs.map (Cl.v K)) (cs.map (Cl.u K))
  | [] => .nil
  | c :: cs => .cons (c.is K) (paired_cls K cs)
section
variable {X : Cx} {W : WX} {xs : List String} {tb : Tb} {c : Cl} {cs : List Cl} {m : E} {e k : Expr} {p pos : Pos}
theorem c_is1 (hx : ∀ c ∈ xs, xcB X.K c = true) (ht : ktB X.K tb = true) : CallR X (.builtin "isinstance") (rIs1 X.K xs tb c) := by
  intro pins s σ H vs us Q I r h
  obtain ⟨v, μ, hh, d, rfl, rel, rd, b, eb, q⟩ := h
  obtain ⟨u1, u2, rfl, r1, r2⟩ := vals2 r
  have e2 := (c.is X.K).eq r2
  subst e2
  obtain ⟨t, et, eb⟩ := Option.bind_eq_some_iff.mp eb
  obtain ⟨P, Z, pp, hxx⟩ := kit_d hx I rel r1 rd et
  have e1 : PySem.W.kitOne X.K (t.u X.K) (c.u X.K) = some b := by
    unfold ansC at eb
    cases e1 : tb.lookup (t, c) with
    | none => rw [e1] at eb; cases eb
    | some b1 => rw [e1] at eb; simp [ansC] at eb; subst eb; exact tb_ok ht e1
  exact PySem.W.kia_one Z I.kIn pp e1 hxx fun tk => ⟨.bl b, H, I.tok tk, rfl, q⟩
theorem c_isT (hx : ∀ c ∈ xs, xcB X.K c = true) (ht : ktB X.K tb = true) : CallR X (.builtin "isinstance") (rIsT X.K xs tb cs) := by
  intro pins s σ H vs us Q I r h
  obtain ⟨v, tp, μ, hh, d, rfl, hT, rel, rd, b, eb, q⟩ := h
  obtain ⟨u1, u2, rfl, r1, r2⟩ := vals2 r
  cases (show u2 = Value.ref tp from r2)
  obtain ⟨t, et, eb⟩ := Option.bind_eq_some_iff.mp eb
  obtain ⟨P, Z, pp, hxx⟩ := kit_d hx I rel r1 rd et
  obtain ⟨_, its, rv, o, h1, h2, n, h3⟩ := (show ObjOk X.prog X.w H s.heap tp (.tup (cs.map (Cl.v X.K))) from I.hok tp _ hT)
  have e3 := ClsV.all (paired_cls X.K cs) rv
  subst e3
  obtain ⟨oc, od, dt, sl⟩ := o
  simp only at h2 h3
  subst h2 h3
  exact PySem.W.kia_tup Z I.kIn pp h1 (ansC_ok ht eb) hxx fun tk => ⟨.bl b, H, I.tok tk, rfl, q⟩
/-- isinstance(e, c) -/
theorem b_is1 (hx : ∀ c ∈ xs, xcB X.K c = true) (ht : ktB X.K tb = true) (he : PE X e (tE X.K W m)) (hk : PE X k (tC (c.v X.K))) (hg : Gl X "isinstance" := by rfl) (hm : X.mg "isinstance" = none)
    (s1 : starEach [e, k] X.env = (false, eval e X.env) :: starEach [k] X.env := by rfl) (s2 : starEach [k] X.env = (false, eval k X.env) :: starEach [] X.env := by rfl) (hpl : (backTo pos (starEach [k] X.env)).any (·.1) = false := by rfl) :
    PE X (.Call (.Name "isinstance" p) [e, k] [] pos) (tE X.K W (eIs xs tb [c] m)) :=
  PE.imp (pe_callB (c_is1 hx ht) hg hm (by decide +kernel) (pa_cons he (pa_cons hk pa_nil s2) s1) (by decide) (by decide) s1 hpl) fun σ H Q q => by
    obtain ⟨μ, h, ρ, rel, sr, g⟩ := q
    refine ⟨μ, h, ρ, rel, sr, G.imp (fun v H1 z => ?_) (G.bind (rp := rpD) g)⟩
    obtain ⟨μ1, d, h1, st1, rel1, r1, g1⟩ := z
    cases eb : (clD xs h1 d).bind fun t => ansC tb t [c] with
    | none => rw [eb] at g1; exact g1.elim
    | some b =>
      rw [eb] at g1
      exact ⟨v, μ1, h1, d, rfl, rel1, r1, b, eb, g1 μ1 H1 _ .refl rel1 (.bl b)⟩
/-- isinstance(e, (c, ..)) -/
theorem b_isT {tpos : Pos} {ctx : _} {ks : List Expr} (hx : ∀ c ∈ xs, xcB X.K c = true) (ht : ktB X.K tb = true) (he : PE X e (tE X.K W m)) (hk : PA X ks (fun σ H Q => Q (cs.map (Cl.v X.K)) H)) (hl : cs.length ≤ 1000 := by decide) (hg : Gl X "isinstance" := by rfl) (hm : X.mg "isinstance" = none)
    (s1 : starEach [e, .Tuple ks ctx tpos] X.env = (false, eval e X.env) :: starEach [.Tuple ks ctx tpos] X.env := by rfl) (s2 : starEach [.Tuple ks ctx tpos] X.env = (false, eval (.Tuple ks ctx tpos) X.env) :: starEach [] X.env := by rfl) (hpl : (backTo pos (starEach [.Tuple ks ctx tpos] X.env)).any (·.1) = false := by rfl) :
    PE X (.Call (.Name "isinstance" p) [e, .Tuple ks ctx tpos] [] pos) (tE X.K W (eIs xs tb cs m)) :=
  PE.imp (pe_callB (c_isT hx ht) hg hm (by decide +kernel) (pa_cons he (pa_cons (pe_tup hk) pa_nil s2) s1) (by decide) (by decide) s1 hpl) fun σ H Q q => by
    obtain ⟨μ, h, ρ, rel, sr, g⟩ := q
    refine ⟨μ, h, ρ, rel, sr, G.imp (fun v H1 z => ?_) (G.bind (rp := rpD) g)⟩
    obtain ⟨μ1, d, h1, st1, rel1, r1, g1⟩ := z
    cases eb : (clD xs h1 d).bind fun t => ansC tb t cs with
    | none => rw [eb] at g1; exact g1.elim
    | some b =>
      rw [eb] at g1
      refine ⟨by rw [List.length_map, sizeLine_eq]; omega, fun p hp => ?_⟩
      exact ⟨v, p, μ1, h1, d, rfl, upd_same, rel1.newTup hp, r1.mono (stp_tup hp), b, eb, g1 μ1 _ _ (stp_tup hp) (rel1.newTup hp) (.bl b)⟩
theorem pc_own {x : String} (hm : X.mg (Str.ofString x) = some (.ref (cla X.K x))) (hg : Gl X (Str.ofString x) := by rfl) (hd : ((Str.ofString x : Str) == ("__debug__" : Str)) = false := by decide) : PE X (.Name (Str.ofString x) p) (tC ((Cl.own x).v X.K)) := pe_glob hg hm rfl hd
theorem pc_ty {x : String} (hm : X.mg (Str.ofString x) = none) (hg : Gl X (Str.ofString x) := by rfl) (hv : bootBuiltins (Str.ofString x) = some (.type x) := by decide +kernel) (hn : Str.ofString x ≠ "__name__" := by decide)
    (hd : ((Str.ofString x : Str) == ("__debug__" : Str)) = false := by decide) : PE X (.Name (Str.ofString x) p) (tC ((Cl.ty x).v X.K)) := pe_bltn hg hm hv rfl hn hd
theorem pcs_nil : PA X [] (fun σ H Q => Q (([] : List Cl).map (Cl.v X.K)) H) := PA.imp pa_nil fun σ H Q q => q
theorem pcs_cons {ks : List Expr} (hk : PE X k (tC (c.v X.K))) (hr : PA X ks (fun σ H Q => Q (cs.map (Cl.v X.K)) H)) (hs : starEach (k :: ks) X.env = (false, eval k X.env) :: starEach ks X.env := by rfl) : PA X (k :: ks) (fun σ H Q => Q ((c :: cs).map (Cl.v X.K)) H) :=
  PA.imp (pa_cons hk hr hs) fun σ H Q q => q
end
/-! ### an own exception class without its own __init__ -/
def eMkR (c : String) (m : E) : E := fun ρ h => (m ρ h).bind fun _ h1 => .ok (.ref h1.length) (h1 ++ [.exc c []])
theorem b_mkR {X : Cx} {W : WX} {c : String} {e : Expr} {m : E} {p pos : Pos} {bmB : List Value} {B newId initId : String} (F : ExcBaseFacts B newId initId bmB) (q : PySem.W.excIn X.K (cla X.K c) bmB newId = true) (gC : X.mg (Str.ofString c) = some (.ref (cla X.K c))) (kC : PySem.W.keepIn X.K (.ref (cla X.K c)) = true) (he : PE X e (tE X.K W m))
    (hg : Gl X (Str.ofString c) := by rfl) (hs : starEach [e] X.env = (false, eval e X.env) :: starEach [] X.env := by rfl) (hdb : ((Str.ofString c : Str) == ("__debug__" : Str)) = false := by decide) :
    PE X (.Call (.Name (Str.ofString c) p) [e] [] pos) (tE X.K W (eMkR c m)) := by
  refine ⟨fun pins s σ H Q I h => ?_⟩
  obtain ⟨μ, h, ρ, rel, sr, g⟩ := h
  refine wpAny_Call_Name_kw (ld_glob I hg gC ?_ hdb)
  refine PySem.W.callWith_K (h₀ := X.base) I.ok.mod.kin kC ?_ hs (by rfl)
  rw [hs]
  show wpAny _ _ (spliced ((false, eval e X.env) :: backTo pos (starEach [] X.env))) _ _ s
  refine Calls.spliced_cons (thn (he.run pins s σ H _ I ⟨μ, h, ρ, rel, sr, G.bind (rp := rpD) g⟩) fun u s1 ⟨v, H1, I1, r1, μ1, d, h1, st1, rel1, rd, g1⟩ => ?_)
  refine Calls.spliced_nil ⟨I1.kIn, ?_⟩
  show wpAny _ _ (call (.ref (cla X.K c)) [u]) _ _ _
  obtain ⟨bm, N, nm, qn, bs, hdct, sn, sub, ab, col, dd, k0, k1, k2, k3, k5, mN, hC, hN, hni, T⟩ := exc_obj I1.kIn q
  refine wpAny_call_exc_subT F T hC hN hni (fun h' a hm => ?_) (by show 1 ≤ sizeLine; rw [sizeLine_eq]; omega)
  have hn : H1 a = none := I1.hok.gone hm.new
  obtain ⟨t, ht, _, _⟩ := hm.there
  refine ⟨.ref a, upd H1 a (exo a (cla X.K c) none), I1.laidN hm.keeps hm.new hn (exo_ok ht), rfl, ?_⟩
  refine g1 _ _ _ ?_ (rel_exc rel1 hn) ?_
  · rw [List.length_append]; exact stp_new hn
  · rw [List.length_append]
    have := Rep.ref (μ := mset μ1 h1.length a) (N := h1.length + 1) (H := upd H1 a (exo a (cla X.K c) none)) (n := h1.length) (Nat.lt_succ_self _)
    rw [mset_same] at this
    exact this
end Am

set_option Elab.async false
set_option linter.all false
set_option maxRecDepth 100000
set_option maxHeartbeats 4000000
namespace Am
open PySem L2 AmX PyProof.Rows
/-! ### repr -/
def pyDs (f : D → Option PyData) : List D → Option (List PyData)
  | [] => some []
  | d :: ds => match f d, pyDs f ds with
    | some x, some xs => some (x :: xs)
    | _, _ => none
def pyKv (f : D → Option PyData) : List (D × D) → Option (List (PyData × PyData))
  | [] => some []
  | (k, d) :: ds => match f k, f d, pyKv f ds with
    | some y, some x, some xs => some ((y, x) :: xs)
    | _, _, _ => none
def pyD (h : Hq) : Nat → D → Option PyData
  | 0, _ => none
  | _ + 1, .non => some .none
  | _ + 1, .bl b => some (.bool b)
  | _ + 1, .int i => some (.int i)
  | _ + 1, .str s => some (.str (tx s))
  | n + 1, .tup xs => (pyDs (pyD h n) xs).map .tuple
  | n + 1, .ref i => match h[i]? with
    | some (.lst xs) => (pyDs (pyD h n) xs).map .list
    | some (.dic kvs) => (pyKv (pyD h n) kvs).map .dict
    | _ => none
def Rds (h : Heap) (u : Value) (d : PyData) : Prop := ∃ as, Reads h u d as ∧ ∀ a ∈ as, (a == sysModules) = false
def RdsA (h : Heap) (us : List Value) (ds : List PyData) : Prop := ∃ as, ReadsAll h us ds as ∧ ∀ a ∈ as, (a == sysModules) = false
section
variable {P : Program} {w : World} {K : PySem.W.Frag} {μ : Nat → Addr} {h : Hq} {H : Hp} {hp : Heap}
theorem rds_key {k : Key} {u : Value} (r : keyIs k u = true) {d : D} (e : keyD d = some k) {n : Nat} {p : PyData} (ep : pyD h (n + 1) d = some p) : Rds hp u p := by
  cases d with
  | int i =>
    cases e; cases ep
    rcases keyIs_shape r with ⟨i', t, e1, rfl⟩ | ⟨x, t, e1, rfl⟩ <;> cases e1
    exact ⟨[], .int _ _, by simp⟩
  | str x =>
    cases e; cases ep
    rcases keyIs_shape r with ⟨i', t, e1, rfl⟩ | ⟨x, t, e1, rfl⟩ <;> cases e1
    exact ⟨[], .str _ _, by simp⟩
  | _ => cases e
theorem rdsA_cons {u : Value} {us : List Value} {p : PyData} {ps : List PyData} (a : Rds hp u p) (b : RdsA hp us ps) : RdsA hp (u :: us) (p :: ps) := by
  obtain ⟨as, r, n⟩ := a
  obtain ⟨bs, q, m⟩ := b
  exact ⟨as ++ bs, .cons r q, fun a h => (List.mem_append.mp h).elim (n a) (m a)⟩
theorem rds_list {n : Nat} (ih : ∀ {d : D} {p : PyData} {v : V} {u : Value}, pyD h n d = some p → Rep μ h.length H d v → RelV v u → Rds hp u p) : ∀ {ds : List D} {ps : List PyData} {vs : List V} {us : List Value}, pyDs (pyD h n) ds = some ps → Reps μ h.length H ds vs → Vals vs us → RdsA hp us ps
  | [], ps, _, _, e, .nil, .nil => by cases e; exact ⟨[], .nil, by simp⟩
  | d :: ds, ps, _, _, e, .cons r rs, .cons q qs => by
    unfold pyDs at e
    cases e1 : pyD h n d with
    | none => rw [e1] at e; cases e
    | some x =>
      cases e2 : pyDs (pyD h n) ds with
      | none => rw [e1, e2] at e; cases e
      | some xs =>
        rw [e1, e2] at e
        cases e
        exact rdsA_cons (ih e1 r q) (rds_list ih e2 rs qs)
theorem rds_kv {n : Nat} (ih : ∀ {d : D} {p : PyData} {v : V} {u : Value}, pyD h n d = some p → Rep μ h.length H d v → RelV v u → Rds hp u p) (ihk : ∀ {d : D} {p : PyData} {k : Key} {u : Value}, pyD h n d = some p → keyD d = some k → keyIs k u = true → Rds hp u p) :
    ∀ {ds : List (D × D)} {ps : List (PyData × PyData)} {kk : List (Key × V)} {vs : List (Key × Value)} {es : List DictEntry}, pyKv (pyD h n) ds = some ps → KRep μ h.length H ds kk → KV kk vs → Pairs (knd := mixKind P w) es vs → RdsA hp (es.map (·.key)) (ps.map (·.1)) ∧ RdsA hp (es.map (·.val)) (ps.map (·.2))
  | [], ps, _, _, _, e, .nil, .nil, .nil => by cases e; exact ⟨⟨[], .nil, by simp⟩, ⟨[], .nil, by simp⟩⟩
  | (k, d) :: ds, ps, _, _, _, e, .cons ek r rs, .cons q qs, x => by
    unfold pyKv at e
    cases e0 : pyD h n k with
    | none => rw [e0] at e; cases e
    | some y =>
      cases e1 : pyD h n d with
      | none => rw [e0, e1] at e; cases e
      | some z =>
        cases e2 : pyKv (pyD h n) ds with
        | none => rw [e0, e1, e2] at e; cases e
        | some zs =>
          rw [e0, e1, e2] at e
          cases e
          cases x with
          | cons hk hv hr =>
            obtain ⟨q1, q2⟩ := q
            obtain ⟨i1, i2⟩ := rds_kv ih ihk e2 rs qs hr
            dsimp only at q1 q2
            rw [← q1] at hk
            rw [← hv] at q2
            exact ⟨rdsA_cons (ihk e0 ek hk) i1, rdsA_cons (ih e1 r q2) i2⟩
theorem rds_of (hok : HOk P w H hp) (rel : Rel K μ h H) (hs : H sysModules = none) : ∀ (n : Nat) {d : D} {p : PyData} {v : V} {u : Value}, pyD h n d = some p → Rep μ h.length H d v → RelV v u → Rds hp u p
  | 0, _, _, _, _, e, _, _ => by cases e
  | n + 1, d, p, v, u, e, r, q => by
    have ih := fun {d p v u} => rds_of hok rel hs n (d := d) (p := p) (v := v) (u := u)
    have far : ∀ {a : Addr} {o : HO}, H a = some o → (a == sysModules) = false := fun {a o} e => by
      rw [beq_eq_false_iff_ne]
      intro z
      rw [z, hs] at e
      cases e
    cases r with
    | non => cases e; cases (show u = Value.none from q); exact ⟨[], .none, by simp⟩
    | bl b => cases e; cases (show u = Value.bool b from q); exact ⟨[], .bool _, by simp⟩
    | int i => cases e; obtain ⟨t, z⟩ := (show ∃ t, u = Value.int i t from q); cases z; exact ⟨[], .int _ _, by simp⟩
    | str x => cases e; obtain ⟨t, z⟩ := (show ∃ t, u = Value.str (tx x) t from q); cases z; exact ⟨[], .str _ _, by simp⟩
    | @tup a xs vs ha rs =>
      cases (show u = Value.ref a from q)
      unfold pyD at e
      obtain ⟨ps, e1, rfl⟩ := Option.map_eq_some_iff.mp e
      obtain ⟨_, its, rv, o, h1, h2, m, h3⟩ := (show ObjOk P w H hp a (.tup vs) from hok a _ ha)
      obtain ⟨as, ra, na⟩ := rds_list ih e1 rs rv
      exact ⟨as, .tuple h1 h2 h3 (by simpa using ra), na⟩
    | @ref i hi =>
      cases (show u = Value.ref (μ i) from q)
      unfold pyD at e
      cases eo : h[i]? with
      | none => rw [eo] at e; cases e
      | some o =>
        rw [eo] at e
        have x := rel.obj i o eo
        cases o with
        | lst xs =>
          obtain ⟨ps, e1, rfl⟩ := Option.map_eq_some_iff.mp e
          obtain ⟨vs, ha, rs⟩ := x
          obtain ⟨_, its, m, rv, h1⟩ := (show ObjOk P w H hp (μ i) (.lst vs) from hok _ _ ha)
          obtain ⟨as, ra, na⟩ := rds_list ih e1 rs rv
          exact ⟨_, .list h1 rfl rfl (by simpa using ra), fun b hb => (List.mem_cons.mp hb).elim (fun z => by rw [z]; exact far ha) (na b)⟩
        | dic kvs =>
          obtain ⟨ps, e1, rfl⟩ := Option.map_eq_some_iff.mp e
          obtain ⟨kk, ha, rs⟩ := x
          obtain ⟨_, hsm, vs, rv, o, es, ep, h1, h2, h3, h4, h5, h6⟩ := (show ObjOk P w H hp (μ i) (.dK kk) from hok _ _ ha)
          obtain ⟨⟨as, ra, na⟩, ⟨bs, rb, nb⟩⟩ := rds_kv (P := P) (w := w) ih (fun {d p k u} e ek rk => by
            cases n with
            | zero => cases e
            | succ n => exact rds_key rk ek e) e1 rs rv h5
          refine ⟨_, .dict h1 h2.1 h3 ra rb, fun b hb => ?_⟩
          rcases List.mem_append.mp hb with z | z
          · exact (List.mem_cons.mp z).elim (fun z => by rw [z]; exact hsm) (na b)
          · exact nb b z
        | _ => cases e
end
/-- repr's text -/
def reprD : OpN
  | [d], h => match pyD h 40 d with
    | some p => if p.showable = true ∧ p.depth ≤ 100 ∧ p.shown.length ≤ lim then some (.str p.shown.cps.toList, h) else none
    | none => none
  | _, _ => none
theorem tx_cps (x : Str) : tx x.cps.toList = x := by
  obtain ⟨a⟩ := x
  simp [tx]
theorem c_repr {X : Cx} (hg : X.A.guards = some []) (hu : X.A.units + 200 < cLine) (hs : ∃ o, X.base.get? sysModules = some o) : CallR X (.builtin "repr") (rN X.K reprD) := by
  intro pins s σ H xs us Q I rv q
  obtain ⟨μ, h, ds, rel, r, a, h', ef, k⟩ := q
  cases r with
  | nil => cases ef
  | @cons d v ds vs r1 rs =>
    cases rs with
    | cons _ _ => cases ef
    | nil =>
      cases rv with
      | @cons _ u _ _ q1 qs =>
        cases qs
        unfold reprD at ef
        simp only at ef
        cases ep : pyD h 40 d with
        | none => rw [ep] at ef; cases ef
        | some p =>
          rw [ep] at ef
          simp only at ef
          by_cases hc : p.showable = true ∧ p.depth ≤ 100 ∧ p.shown.length ≤ lim
          · rw [if_pos hc] at ef
            cases ef
            obtain ⟨c1, c2, c3⟩ := hc
            have hsz : p.shown.length ≤ sizeLine := by rw [lim_eq]; exact c3
            have fin : ∀ t h2 tk, (∀ b o, s.heap.get? b = some o → h2.get? b = some o) → EP X pins σ Q (.str p.shown t) { s with heap := h2, toks := tk } := fun t h2 tk kk =>
              ⟨.str p.shown, H, I.kept kk, ⟨t, rfl⟩, by
                have z := k μ H (.str (tx p.shown.cps.toList)) .refl rel (.str _)
                rw [tx_cps] at z
                exact z⟩
            obtain ⟨ob, hob⟩ := hs
            have hsH : H sysModules = none := (I.bs sysModules ob hob).2
            obtain ⟨as, ra, na⟩ := rds_of I.hok rel hsH 40 ep r1 q1
            have hno : sysModules ∉ as := fun z => by have := na _ z; simp at this
            cases d with
            | non => cases ep; cases r1; cases (show u = Value.none from q1); exact PySem.P.repr_of_none (fin _ _ _ fun _ _ z => z)
            | bl b => cases ep; cases r1; cases (show u = Value.bool b from q1); exact PySem.P.repr_of_bool (fin _ _ _ fun _ _ z => z)
            | int i => cases ep; cases r1; obtain ⟨t, z⟩ := (show ∃ t, u = Value.int i t from q1); cases z; exact PySem.P.repr_of_int (of_decide_eq_true c1) (fin _ _ _ fun _ _ z => z)
            | str x => cases ep; cases r1; obtain ⟨t, z⟩ := (show ∃ t, u = Value.str (tx x) t from q1); cases z; exact PySem.P.repr_of_str (fin _ _ _ fun _ _ z => z) hsz
            | tup xs =>
              cases r1 with
              | tup h1 h2 =>
                cases (show u = Value.ref _ from q1)
                exact repr_of_reads' ra c1 (fun _ => hno) hg (by omega) (fun _ _ z => z) (fun h2 t tk kk => fin t h2 tk kk) hsz
            | ref n =>
              cases r1
              cases (show u = Value.ref _ from q1)
              exact repr_of_reads' ra c1 (fun _ => hno) hg (by omega) (fun _ _ z => z) (fun h2 t tk kk => fin t h2 tk kk) hsz
          · rw [if_neg hc] at ef; cases ef
end Am

set_option Elab.async false
set_option linter.all false
set_option maxRecDepth 100000
set_option maxHeartbeats 4000000
namespace Am
open PySem L2 AmX PyProof.Rows
/-! ### raise C(e, ..) -/
/-- a new object of ours is let go -/
theorem let_go {X : Cx} {pins : List (Addr × Obj)} {σ : L2.St} {H1 : Hp} {hp hp2 h2 : Heap} {g1 g2 : Array GenState} {d1 d2 : Drawn} {t1 t2 : Nat} {os1 os2 : OsState} {a C : Addr} (I1 : Inv X pins σ H1 ⟨hp, g1, d1, t1, os1⟩)
    (ha : hp.objs.size ≤ a) (k : ∀ b o, hp.get? b = some o → hp2.get? b = some o) (un : Un (frs X.stack) [] (upd H1 a (exo a C none)) (upd H1 a (exo a C none)) hp2 h2) (hok : HOk X.prog X.w (upd H1 a (exo a C none)) h2) (ho : os2 = os1) (hb : AllBare g2) :
    ∃ (t0 : Addr) (G : Heap), Inv X pins σ H1 ⟨G, g2, d2, t2, os2⟩ ∧ (∀ b o, G.get? b = some o → h2.get? b = some o) ∧ G.get? a = none ∧
      h2.get? a = some ({ cls := .ref C, dict := none, data := .fields #[.ref t0, .none, .none, .none, .bool false, .none] } : Obj) ∧ H1 a = none := by
  obtain ⟨t0, hoe⟩ := exo_at hok upd_same
  have hn : H1 a = none := I1.hok.fresh ha
  obtain ⟨G, g1', g2'⟩ := restrict h2 fun b => decide (b ≠ a)
  have gk : ∀ b, b ≠ a → G.get? b = h2.get? b := fun b hb => g1' b (decide_eq_true hb)
  have ge : G.get? a = none := g2' a (by simp)
  have nha : ∀ {b : Addr} {o : Obj}, hp.get? b = some o → b ≠ a := fun {b o} z => Nat.ne_of_lt (Nat.lt_of_lt_of_le (Heap.lt_size z) ha)
  have up : ∀ {b : Addr}, b ≠ a → H1 b = none → upd H1 a (exo a C none) b = none := fun {b} hb n => by rw [upd_ne hb]; exact n
  have U : Un (frs X.stack) [] H1 H1 hp G := {
    keep := fun b o z n hf hx => by rw [gk b (nha z)]; exact un.keep b o (k b o z) (up (nha z) n) hf hx
    slot := fun b o z n hf hx => by rw [gk b (nha z)]; exact un.slot b o (k b o z) (up (nha z) n) hf hx
    free := fun b o z n hx => n
    there := fun b o z hx => by rw [gk b (nha z)]; exact un.there b o (k b o z) hx
    tups := fun b xs z => z
    frzs := fun b o v z => z
    tbls := fun b ps z => ⟨#[], by rw [z]; simp⟩ }
  have hok3 : HOk X.prog X.w H1 G := fun b o z => by
    have hba : b ≠ a := fun e => by rw [e, hn] at z; cases z
    refine (hok b o (by rw [upd_ne hba]; exact z)).stay (fun c v hc y => by
          have hca : c ≠ a := by
            rcases hc with hc | hc
            · rw [hc]; exact hba
            · exact at_ne upd_same hc exo_own
          rw [gk c hca]
          exact y)
        (fun c hc => ?_) (fun c xs hc => ?_)
    · rw [upd_ne (at_ne upd_same hc exo_own)] at hc; exact hc
    · rw [upd_ne (at_ne upd_same hc exo_tup)] at hc; exact hc
  have J : Inv X pins σ H1 ⟨G, g2, d2, t2, os2⟩ := I1.call' (ch := []) ho U hok3 hb (fun b z => absurd z (by simp))
  refine ⟨t0, G, J, fun b o z => ?_, ge, hoe, hn⟩
  by_cases hba : b = a
  · rw [hba, ge] at z; cases z
  · exact (gk b hba).symm.trans z
/-- what is wished of the new exception -/
def xQ (K : PySem.W.Frag) (μ : Nat → Addr) (h : Hq) (H : Hp) (c : String) (fs : List (String × D)) (Q : XK) : Prop := ∀ H' cls dp, Stp h.length μ H h.length μ H' → Rel K μ h H' → XRep K μ h.length H' c fs cls dp → Q cls dp H'
section
variable {X : Cx} {W : WX} {c : String} {fs : List String} {fI : Addr} {fd : FuncData} {pins : List (Addr × Obj)} {σ : L2.St} {H : Hp} {s : Shared} {Q : XK}
theorem run_mkx {us ws : List Value} {vs zs : List V} {ks : List Str} {ix : List Nat} {μ : Nat → Addr} {h : Hq} {ds es : List D} (C : Xc X.prog X.w X.K X.mg X.base c fs fI fd) (hr : Room 2 X.A)
    (hb : ∀ (s : Shared) (x : Value), X.K.In s.heap → BindsTo s fd ⟨x :: us, ks.zip ws⟩ ((("self" : Str) :: fs.map Str.ofString).zip (x :: sel ix (us ++ ws))))
    (I : Inv X pins σ H s) (r : Vals vs us) (rz : Vals zs ws) (rel : Rel X.K μ h H) (rd : Reps μ h.length H ds vs) (re : Reps μ h.length H es zs) (hl : (sel ix (ds ++ es)).length = fs.length) (hus : us.length ≤ sizeLine)
    (q : xQ X.K μ h H c (fs.zip (sel ix (ds ++ es))).reverse Q) :
    wpAny (model X.prog X.w) X.A (call (.ref (cla X.K c)) us (ks.zip ws)) (L2N.MkP X pins σ Q) X.xe s := by
  obtain ⟨nm, q', N, bs, bm, sn, sub, ab, col, dd, k0, k1, k2, k3, k5, hC, hbm⟩ := C.cls.cls
  obtain ⟨hp, gg, dr, tk, os⟩ := s
  have hsz : hp.objs.size ≤ hp.objs.size + 1 := Nat.le_succ _
  have hn : H (hp.objs.size + 1) = none := I.hok.fresh hsz
  have kk : ∀ b o, hp.get? b = some o → ((hp.push (PySem.W.kdv_tup us)).push (PySem.HandSPX.excO (cla X.K c) hp.objs.size)).get? b = some o := fun b o e => Heap.get?_push_of_some _ (Heap.get?_push_of_some _ e)
  have hget : ((hp.push (PySem.W.kdv_tup us)).push (PySem.HandSPX.excO (cla X.K c) hp.objs.size)).get? (hp.objs.size + 1) = some (PySem.HandSPX.excO (cla X.K c) hp.objs.size) := by heap_get
  have I2 : Inv X pins σ (upd H (hp.objs.size + 1) (exo (hp.objs.size + 1) (cla X.K c) none)) ⟨(hp.push (PySem.W.kdv_tup us)).push (PySem.HandSPX.excO (cla X.K c) hp.objs.size), gg, dr, tk, os⟩ :=
    I.laid (t' := tk) (a := hp.objs.size + 1) (o := exo (hp.objs.size + 1) (cla X.K c) none) (h' := (hp.push (PySem.W.kdv_tup us)).push (PySem.HandSPX.excO (cla X.K c) hp.objs.size)) kk hsz (exo_ok hget)
  have r2 : Vals (V.ref (hp.objs.size + 1) :: sel ix (vs ++ zs)) (Value.ref (hp.objs.size + 1) :: sel ix (us ++ ws)) := .cons rfl (vals_sel (r.append rz) ix)
  have rds := (rd.append re).sel ix
  let fv := ((fs.map Str.ofString).zip (sel ix (vs ++ zs))).reverse
  have hq : spX (cla X.K c) (fs.map Str.ofString) (V.ref (hp.objs.size + 1) :: sel ix (vs ++ zs)) (upd H (hp.objs.size + 1) (exo (hp.objs.size + 1) (cla X.K c) none))
      (fun v H3 => v = .non ∧ ((fs = [] ∧ H3 = upd H (hp.objs.size + 1) (exo (hp.objs.size + 1) (cla X.K c) none)) ∨ ∃ dx, H dx = none ∧ dx ≠ hp.objs.size + 1 ∧ H3 = upd (upd (upd H (hp.objs.size + 1) (exo (hp.objs.size + 1) (cla X.K c) none)) dx (exd dx fv)) (hp.objs.size + 1) (exo (hp.objs.size + 1) (cla X.K c) (some dx)))) (fun _ _ _ => False) := by
    refine ⟨hp.objs.size + 1, _, rfl, by rw [List.length_map, ← rds.length, hl], upd_same, fun e => ⟨rfl, .inl ⟨by simpa using e, rfl⟩⟩, fun e dx hdx ne => ⟨rfl, .inr ⟨dx, by rw [upd_ne ne] at hdx; exact hdx, ne, rfl⟩⟩⟩
  refine wpAny_call (mk_call F.excBase_Exception (fun Y => exOk_contains Y bm hbm) (I.kIn _ _ hC) (PySem.W.looks_findIn I.kIn C.ini) (fun self => PySem.W.bind_fn I.kIn self C.tyI) hus
    (codeAny_mono (C.ok.run _ X.stack _ _ ⟨Value.ref (hp.objs.size + 1) :: us, ks.zip ws⟩ (Value.ref (hp.objs.size + 1) :: sel ix (us ++ ws)) _ _ (fun _ _ _ => False) (hr.make (cla X.K c) us (ks.zip ws)) (I2.env0.make (cla X.K c) us (ks.zip ws)) (hb _ _ I2.kIn) r2 hq) fun r s' hq' => ?_))
  cases r with
  | error er =>
    obtain ⟨_, _, _, _, _, _, _, _, _, _, _, _, z⟩ := hq'
    exact z.elim
  | ok fl =>
    cases fl with
    | ret u =>
      obtain ⟨v, H2, os2, bare2, un2, hok2, rv, ev, alt⟩ := hq'
      subst ev
      obtain ⟨h2, g2, d2, t2, os'⟩ := s'
      refine ⟨rv, ?_⟩
      rcases alt with ⟨e0, rfl⟩ | ⟨dx, hdx, ne, rfl⟩
      · obtain ⟨t0, G, J, kG, ge, hoe, na⟩ := let_go (d2 := d2) (t2 := t2) I hsz kk un2 hok2 os2 bare2
        subst e0
        refine ⟨hp.objs.size + 1, _, _, ⟨G, g2, d2, t2, os'⟩, _, .ref (cla X.K c), none, rfl, J, kG, ge, hoe, ⟨rfl, rfl, fun vs hv => ?_⟩, rfl, rfl, na, rfl, bare2, L2.raises_own C.cls.exC C.cls.tyC, q _ _ _ .refl rel ⟨rfl, .inl ⟨by simp, rfl⟩⟩⟩
        cases hv
        rfl
      · have ea : upd (upd (upd H (hp.objs.size + 1) (exo (hp.objs.size + 1) (cla X.K c) none)) dx (exd dx fv)) (hp.objs.size + 1) (exo (hp.objs.size + 1) (cla X.K c) (some dx)) (hp.objs.size + 1) = some (exo (hp.objs.size + 1) (cla X.K c) (some dx)) := upd_same
        have ed : upd (upd (upd H (hp.objs.size + 1) (exo (hp.objs.size + 1) (cla X.K c) none)) dx (exd dx fv)) (hp.objs.size + 1) (exo (hp.objs.size + 1) (cla X.K c) (some dx)) dx = some (exd dx fv) := by rw [upd_ne ne, upd_same]
        obtain ⟨t0, G, J, kG, ge, hoe, na⟩ := mk_end0 (d2 := d2) (t2 := t2) I hsz kk un2 hok2 os2 bare2 ea ed hdx
        have eq : upd (del (upd (upd (upd H (hp.objs.size + 1) (exo (hp.objs.size + 1) (cla X.K c) none)) dx (exd dx fv)) (hp.objs.size + 1) (exo (hp.objs.size + 1) (cla X.K c) (some dx))) (hp.objs.size + 1)) dx (.xd fv) = upd H dx (.xd fv) := by
          funext b
          by_cases hd : b = dx
          · subst hd; rw [upd_same, upd_same]
          · rw [upd_ne hd, upd_ne hd]
            by_cases hb : b = hp.objs.size + 1
            · subst hb; rw [del_same, hn]
            · rw [del_ne hb, upd_ne hb, upd_ne hd, upd_ne hb]
        rw [eq] at J na
        have st : Stp h.length μ H h.length μ (upd H dx (.xd fv)) := stp_tup hdx
        refine ⟨hp.objs.size + 1, _, _, ⟨G, g2, d2, t2, os'⟩, _, .ref (cla X.K c), some dx, rfl, J, kG, ge, hoe, ⟨rfl, rfl, fun vs hv => ?_⟩, rfl, rfl, na, rfl, bare2, L2.raises_own C.cls.exC C.cls.tyC, q _ _ _ st ?_ ⟨rfl, .inr ⟨dx, fv, rfl, upd_same, ((frep_zip (ns := fs) rds hl.symm).reverse).mono st⟩⟩⟩
        · cases hv
          rfl
        · exact ⟨rel.inj, fun i q e => (rel.obj i q e).mono st (fun _ e => up_new hdx e) fun _ _ e => up_new hdx e⟩
    | next => exact False.elim hq'
    | brk => exact False.elim hq'
    | cont => exact False.elim hq'
end
def sRaise (c : String) (fs : List String) (n : Nat) (ix : List Nat) (m : EA) : S := fun ρ h => (m ρ h).st ρ fun us h1 => if us.length = n ∧ (sel ix us).length = fs.length then .exc c (fs.zip (sel ix us)).reverse ρ h1 else .bad
section
variable {X : Cx} {W : WX} {k : Nat} {c : String} {fs : List String} {fI : Addr} {fd : FuncData} {p pos rpos : Pos} {e : Expr} {es : List Expr} {m : EA} {n : Nat} {ix : List Nat}
/-- the wish of a raise's expression -/
def tRz (K : PySem.W.Frag) (W : WX) (c : String) (fs : List String) (n : Nat) (ix : List Nat) (m : EA) : L2.St → Hp → XK → Prop := fun σ H Q => ∃ μ h ρ, Rel K μ h H ∧ SRep μ h.length H ρ σ ∧
  G K W σ h.length μ H rpL (m ρ h) fun vs H1 => ∃ μ1 ds h1, Rel K μ1 h1 H1 ∧ Reps μ1 h1.length H1 ds vs ∧ ds.length = n ∧ (sel ix ds).length = fs.length ∧ xQ K μ1 h1 H1 c (fs.zip (sel ix ds)).reverse Q
theorem mk_x (C : Xc X.prog X.w X.K X.mg X.base c fs fI fd) (hr : Room 2 X.A) (hb : Bd X.K fd fs n 0 ix []) (ha : PA X (e :: es) (tEA X.K W m)) (hn : n ≤ 1000 := by omega) (hg : Gl X (Str.ofString c) := by rfl)
    (hdb : ((Str.ofString c : Str) == ("__debug__" : Str)) = false := by decide) (he : starEach (e :: es) X.env = (false, eval e X.env) :: starEach es X.env := by rfl) (hpl : (backTo pos (starEach es X.env)).any (·.1) = false := by rfl) :
    L2N.PMk X (.Call (.Name (Str.ofString c) p) (e :: es) [] pos) (tRz X.K W c fs n ix m) := by
  intro pins s σ H Q I h
  obtain ⟨μ, h, ρ, rel, sr, g⟩ := h
  refine wpAny_Call_Name_kw (ld_glob I hg C.mgc ?_ hdb)
  refine PySem.W.callWith_K (h₀ := X.base) I.ok.mod.kin C.cls.kC (thn (ha.run pos pins s σ H _ I ⟨μ, h, ρ, rel, sr, g⟩) fun us s1 ⟨vs, H1, I1, r1, q1⟩ => ⟨I1.kIn, ?_⟩) he hpl
  obtain ⟨μ1, ds, h1, rel1, rd, hc, hs, q⟩ := q1
  have hl : us.length = n := by rw [← r1.length, ← rd.length]; exact hc
  have ea : ds ++ [] = ds := List.append_nil _
  exact run_mkx (us := us) (ws := []) (zs := []) (es := []) (ks := []) C hr (hb us [] hl rfl) I1 r1 .nil rel1 rd .nil (by rw [ea]; exact hs) (by rw [hl, sizeLine_eq]; omega) (by rw [ea]; exact q)
theorem mk_x0 (C : Xc X.prog X.w X.K X.mg X.base c fs fI fd) (hr : Room 2 X.A) (hb : Bd X.K fd fs 0 0 ix []) (hg : Gl X (Str.ofString c) := by rfl) (hdb : ((Str.ofString c : Str) == ("__debug__" : Str)) = false := by decide) :
    L2N.PMk X (.Call (.Name (Str.ofString c) p) [] [] pos) (tRz X.K W c fs 0 ix eNil) := by
  intro pins s σ H Q I h
  obtain ⟨μ, h, ρ, rel, sr, g⟩ := h
  refine wpAny_Call_Name_kw (ld_glob I hg C.mgc ?_ hdb)
  refine PySem.W.callWith_K0 I.kIn C.cls.kC ?_
  obtain ⟨μ1, ds, h1, rel1, rd, hc, hs, q⟩ := g μ H [] .refl rel .nil
  have e0 : ds = [] := List.eq_nil_of_length_eq_zero hc
  subst e0
  exact run_mkx (us := []) (vs := []) (ws := []) (zs := []) (es := []) (ks := []) C hr (hb [] [] rfl rfl) I .nil .nil rel1 .nil .nil hs (by rw [sizeLine_eq]; simp) q
theorem tRz_of {Dn : Ends} {σ : L2.St} {H : Hp} (q : tS X.K W (sRaise c fs n ix m) Dn σ H) : tRz X.K W c fs n ix m σ H fun cls d H' => W cls d σ H' := by
  obtain ⟨μ, h, ρ, rel, sr, g⟩ := q
  refine ⟨μ, h, ρ, rel, sr, G.imp (fun vs H1 z => ?_) (GS.st (rp := rpL) (h := h) sr g)⟩
  obtain ⟨μ1, ds, h1, st1, rel1, r1, sr1, g1⟩ := z
  by_cases hc : ds.length = n ∧ (sel ix ds).length = fs.length
  · rw [if_pos hc] at g1
    exact ⟨μ1, ds, h1, rel1, r1, hc.1, hc.2, fun H' cls dp st rel' xr => g1 μ1 H' σ cls dp st rel' (sr1.mono st) xr⟩
  · rw [if_neg hc] at g1; exact g1.elim
theorem pmk_zc {e : Expr} {t : L2.St → Hp → XK → Prop} (h : L2N.PMk X e t) : L2.PMk X e t := fun pins s σ H Q I q => thn (h pins s σ H Q I q) fun u s' ⟨a, oe, vs, sI, H', cls, d, e1, I', k, n, e2, z, r⟩ => ⟨a, oe, vs, sI, H', cls, d, e1, I', k, n, e2, z.zc, r⟩
/-- raise C(e, ..) -/
theorem s_raise (C : Xc X.prog X.w X.K X.mg X.base c fs fI fd) (Z : Ctx X W k) (hk : 2 ≤ k) (hc : X.calm = true) (hb : Bd X.K fd fs n 0 ix []) (ha : PA X (e :: es) (tEA X.K W m)) (hn : n ≤ 1000 := by omega) (hg : Gl X (Str.ofString c) := by rfl)
    (hdb : ((Str.ofString c : Str) == ("__debug__" : Str)) = false := by decide) (he : starEach (e :: es) X.env = (false, eval e X.env) :: starEach es X.env := by rfl) (hpl : (backTo pos (starEach es X.env)).any (·.1) = false := by rfl) :
    PS X (.Raise (some (.Call (.Name (Str.ofString c) p) (e :: es) [] pos)) none rpos) (tS X.K W (sRaise c fs n ix m)) :=
  PS.imp (L2.ps_raise hc Z.takes (pmk_zc (mk_x C (Z.room.mono hk) hb ha hn hg hdb he hpl))) fun _ _ _ q => tRz_of q
theorem s_raiseN (C : Xc X.prog X.w X.K X.mg X.base c fs fI fd) (hr : Room 2 X.A) (tk : L2N.Takes X W) (hc : X.calm = true) (hb : Bd X.K fd fs n 0 ix []) (ha : PA X (e :: es) (tEA X.K W m)) (hn : n ≤ 1000 := by omega) (hg : Gl X (Str.ofString c) := by rfl)
    (hdb : ((Str.ofString c : Str) == ("__debug__" : Str)) = false := by decide) (he : starEach (e :: es) X.env = (false, eval e X.env) :: starEach es X.env := by rfl) (hpl : (backTo pos (starEach es X.env)).any (·.1) = false := by rfl) :
    PS X (.Raise (some (.Call (.Name (Str.ofString c) p) (e :: es) [] pos)) none rpos) (tS X.K W (sRaise c fs n ix m)) :=
  PS.imp (L2N.ps_raise hc tk (mk_x C hr hb ha hn hg hdb he hpl)) fun _ _ _ q => tRz_of q
theorem s_raiseN0 (C : Xc X.prog X.w X.K X.mg X.base c fs fI fd) (hr : Room 2 X.A) (tk : L2N.Takes X W) (hc : X.calm = true) (hb : Bd X.K fd fs 0 0 ix []) (hg : Gl X (Str.ofString c) := by rfl) (hdb : ((Str.ofString c : Str) == ("__debug__" : Str)) = false := by decide) :
    PS X (.Raise (some (.Call (.Name (Str.ofString c) p) [] [] pos)) none rpos) (tS X.K W (sRaise c fs 0 ix eNil)) :=
  PS.imp (L2N.ps_raise hc tk (mk_x0 C hr hb hg hdb)) fun _ _ _ q => tRz_of q
end
end Am

set_option Elab.async false
set_option linter.all false
set_option maxRecDepth 100000
set_option maxHeartbeats 4000000
namespace Am
open PySem L2 L2H AmX PyProof.Rows
/-! ### a def that asks for the classes of the exception that is handled: lists of isinstance, one behind another -/
def Sub (H H' : Hp) : Prop := ∀ b o, H b = some o → H' b = some o
theorem Sub.up {H H' : Hp} {q : Addr} {u : HO} (s : Sub H H') (hq : H' q = none) : Sub H (upd H' q u) := fun b o e => by rw [upd_ne (ne_of_none (s b o e) hq)]; exact s b o e
def dOk (d : Option Addr) (H : Hp) : Prop := ∀ dd, d = some dd → ∃ fv, H dd = some (.xd fv)
theorem dOk.sub {d : Option Addr} {H H' : Hp} (h : dOk d H) (s : Sub H H') : dOk d H' := fun dd e => let ⟨fv, z⟩ := h dd e; ⟨fv, s _ _ z⟩
theorem dOk.up {d : Option Addr} {H : Hp} {q : Addr} {u : HO} (h : dOk d H) (hq : H q = none) : dOk d (upd H q u) := h.sub (Sub.up (fun _ _ e => e) hq)
def ansL (tb : Tb) (t : Cl) : List Cl → Option (List Bool)
  | [] => some []
  | c :: cs => match tb.lookup (t, c), ansL tb t cs with
    | some b, some bs => some (b :: bs)
    | _, _ => none
section
variable {X : Cx} {c : String} {a : Addr} {d : Option Addr} {oe : Obj} {tb : Tb} {ks : List Expr} {cs : List Cl} {k : Cl} {ke : Expr} {x y : Str}
def rIsH (K : PySem.W.Frag) (a : Addr) (d : Option Addr) (c : String) : List V → Hp → VK → Prop := fun xs H Q => ∃ (k : Cl) (b : Bool), xs = [.ref a, k.v K] ∧ dOk d H ∧ PySem.W.kitOne K (.ref (cla K c)) (k.u K) = some b ∧ Q (.bl b) H
theorem c_isH (hp : (a, oe) ∈ X.pn) (hz : L2N.Zn (.ref (cla X.K c)) d oe) (hf : ∃ vs, oe.data = .fields vs) (hc : xcB X.K c = true) : CallR X (.builtin "isinstance") (rIsH X.K a d c) := by
  intro pins s σ H xs us Q I r h
  obtain ⟨k, b, rfl, dk, e, q⟩ := h
  obtain ⟨u1, u2, rfl, r1, r2⟩ := vals2 r
  have e2 := (k.is X.K).eq r2
  subst e2
  obtain rfl : u1 = Value.ref a := r1
  obtain ⟨hget, _⟩ := I.pin (a, oe) (List.mem_append_left _ hp)
  obtain ⟨vs, hv⟩ := hf
  obtain ⟨z1, z2, _⟩ := hz
  unfold xcB at hc
  simp only [Bool.and_eq_true] at hc
  obtain ⟨q0, q1, q2, q3, q4, q5, q6, q7⟩ := hc
  have J : ∃ od, PySem.W.InstAt s.heap a oe (cla X.K c) od := by
    obtain ⟨oc, odd, oda, osl⟩ := oe
    dsimp only at z1 z2 hv
    subst z1 z2 hv
    cases odd with
    | none => exact ⟨none, hget, rfl, rfl, trivial⟩
    | some dd =>
      obtain ⟨fv, ed⟩ := dk dd rfl
      obtain ⟨mA, ⟨o, _, _, ho, _⟩, _⟩ := (show ObjOk X.prog X.w H s.heap dd (.xd fv) from I.hok dd _ ed)
      exact ⟨some o, hget, rfl, rfl, ho⟩
  obtain ⟨od, J⟩ := J
  exact PySem.W.kia_one (PySem.W.kitx_exc q0 (of_decide_eq_true q1) (of_decide_eq_true q2) (of_decide_eq_true q3) (of_decide_eq_true q4) (of_decide_eq_true q5) (of_decide_eq_true q6) (of_decide_eq_true q7)) I.kIn J e (fun z => nomatch z) fun tk => ⟨.bl b, H, I.tok tk, rfl, q⟩
/-- where the def stands: slot 0 bears the exception -/
structure At0 (X : Cx) (a : Addr) (d : Option Addr) (c : String) (x y : Str) (oe : Obj) (tb : Tb) : Prop where
  n0 : X.N[0]? = some x
  n1 : X.N[1]? = some y
  nd : X.N.Nodup
  v0 : X.env.scope.names.lookup x = some .local
  v1 : X.env.scope.names.lookup y = some .local
  hp : (a, oe) ∈ X.pn
  hz : L2N.Zn (.ref (cla X.K c)) d oe
  hf : ∃ vs, oe.data = .fields vs
  hc : xcB X.K c = true
  ht : ktB X.K tb = true
  hm : X.mg "isinstance" = none
  hu : X.A.units + 200 < cLine
/-- a list of isinstance's -/
inductive IsL (X : Cx) (x : Str) : List Expr → List Cl → Prop
  | nil : IsL X x [] []
  | cons {ke : Expr} {k : Cl} {es : List Expr} {cs : List Cl} {p p1 pos : Pos} : PE X ke (tC (k.v X.K)) → starEach [.Name x p1, ke] X.env = (false, eval (.Name x p1) X.env) :: starEach [ke] X.env → starEach [ke] X.env = (false, eval ke X.env) :: starEach [] X.env →
      (backTo pos (starEach [ke] X.env)).any (·.1) = false → starEach (.Call (.Name "isinstance" p) [.Name x p1, ke] [] pos :: es) X.env = (false, eval (.Call (.Name "isinstance" p) [.Name x p1, ke] [] pos) X.env) :: starEach es X.env →
      IsL X x es cs → IsL X x (.Call (.Name "isinstance" p) [.Name x p1, ke] [] pos :: es) (k :: cs)
theorem isl_pa (T : At0 X a d c x y oe tb) (hg : Gl X "isinstance") (hd : (x == ("__debug__" : Str)) = false) (hcd : (x == ("__classdict__" : Str)) = false) : ∀ {es : List Expr} {cs : List Cl}, IsL X x es cs →
    PA X es (fun σ H Q => σ[0]? = some (some (.ref a)) ∧ dOk d H ∧ ∃ bs, ansL tb (.own c) cs = some bs ∧ Q (bs.map V.bl) H)
  | _, _, .nil => PA.imp pa_nil fun σ H Q ⟨_, _, bs, e, q⟩ => by cases e; exact q
  | _, _, .cons (k := k) (cs := cs) hk s1 s2 hpl s3 r =>
    PA.imp (pa_cons (pe_callB (c_isH T.hp T.hz T.hf T.hc) hg T.hm (by decide +kernel) (pa_cons (pe_var T.n0 (.inl T.v0) hd hcd) (pa_cons hk pa_nil s2) s1) (by decide) (by decide) s1 hpl) (isl_pa T hg hd hcd r) s3) fun σ H Q ⟨h0, dk, bs, e, q⟩ => by
      unfold ansL at e
      cases e1 : tb.lookup (.own c, k) with
      | none => rw [e1] at e; cases e
      | some b =>
        cases e2 : ansL tb (.own c) cs with
        | none => rw [e1, e2] at e; cases e
        | some bs' =>
          rw [e1, e2] at e
          cases e
          exact ⟨_, h0, k, b, rfl, dk, tb_ok T.ht e1, h0, dk, bs', rfl, q⟩
def J0 (a : Addr) (d : Option Addr) (H0 : Hp) (σ : L2.St) (H : Hp) : Prop := σ.length = 2 ∧ σ[0]? = some (some (.ref a)) ∧ dOk d H ∧ Sub H0 H
def J1 (a : Addr) (d : Option Addr) (H0 : Hp) (bs : List Bool) (σ : L2.St) (H : Hp) : Prop := J0 a d H0 σ H ∧ bs.length ≤ 1000 ∧ ∃ q, σ[1]? = some (some (.ref q)) ∧ H q = some (.lst (bs.map V.bl))
variable {es : List Expr} {p pos spos yp yp2 : Pos}
theorem J1.new {H0 H : Hp} {σ : L2.St} {q : Addr} {bs : List Bool} (j : J0 a d H0 σ H) (hq : H q = none) (hb : bs.length ≤ 1000) : J1 a d H0 bs (σ.set 1 (some (.ref q))) (upd H q (.lst (bs.map V.bl))) := by
  obtain ⟨l, h0, dk, s⟩ := j
  refine ⟨⟨by rw [List.length_set]; exact l, ?_, dk.up hq, s.up hq⟩, hb, q, ?_, upd_same⟩
  · rw [List.getElem?_set_ne (by decide)]; exact h0
  · rw [List.getElem?_set_self (by omega)]
theorem h_first (T : At0 X a d c x y oe tb) (hg : Gl X "isinstance") (hd : (x == ("__debug__" : Str)) = false) (hcd : (x == ("__classdict__" : Str)) = false) (r : IsL X x es cs) (hs : swapsWith (.List es pos) (some (.Name y yp)) spos.line X.env = pure false) :
    PS X (.Assign [.Name y yp] (.List es pos) spos) (fun D σ H => ∃ H0 bs, ansL tb (.own c) cs = some bs ∧ bs.length ≤ 1000 ∧ J0 a d H0 σ H ∧ ∀ σ' H', J1 a d H0 bs σ' H' → D.nx σ' H') :=
  PS.imp (ps_set (i := 1) T.nd T.n1 (.inl T.v1) (pe_lst (isl_pa T hg hd hcd r)) hs (.inr T.v1)) fun D σ H ⟨H0, bs, e, hb, j, q⟩ =>
    ⟨j.2.1, j.2.2.1, bs, e, by rw [List.length_map, sizeLine_eq]; omega, fun p hp => q _ _ (J1.new j hp hb)⟩
theorem cat_t (T : At0 X a d c x y oe tb) (hg : Gl X "isinstance") (hd : (x == ("__debug__" : Str)) = false) (hcd : (x == ("__classdict__" : Str)) = false) (hd2 : (y == ("__debug__" : Str)) = false) (hcd2 : (y == ("__classdict__" : Str)) = false) (r : IsL X x es cs) :
    PE X (.BinOp (.Name y yp) .Add (.List es pos) p) (fun σ H Q => ∃ H0 b0 bs, ansL tb (.own c) cs = some bs ∧ (b0 ++ bs).length ≤ 1000 ∧ J1 a d H0 b0 σ H ∧ ∀ q1 q2, H q1 = none → (upd H q1 (.lst (bs.map V.bl))) q2 = none → Q (.ref q2) (upd (upd H q1 (.lst (bs.map V.bl))) q2 (.lst ((b0 ++ bs).map V.bl)))) :=
  PE.imp (pe_op op_cat (pe_var T.n1 (.inl T.v1) hd2 hcd2) (pe_lst (isl_pa T hg hd hcd r))) fun σ H Q ⟨H0, b0, bs, e, hb, j, q⟩ => by
    obtain ⟨⟨l, h0, dk, s⟩, hb0, q0, e0, e1⟩ := j
    rw [List.length_append] at hb
    refine ⟨_, e0, h0, dk, bs, e, by rw [List.length_map, sizeLine_eq]; omega, fun q1 h1 => ⟨q0, q1, _, _, rfl, rfl, by rw [upd_ne (ne_of_none e1 h1)]; exact e1, upd_same, by rw [List.length_map, List.length_map, sizeLine_eq]; omega, fun q2 h2 => ?_⟩⟩
    rw [← List.map_append]
    exact q q1 q2 h1 h2
theorem h_more (T : At0 X a d c x y oe tb) (hg : Gl X "isinstance") (hd : (x == ("__debug__" : Str)) = false) (hcd : (x == ("__classdict__" : Str)) = false) (hd2 : (y == ("__debug__" : Str)) = false) (hcd2 : (y == ("__classdict__" : Str)) = false) (r : IsL X x es cs)
    (hs : swapsWith (.BinOp (.Name y yp) .Add (.List es pos) p) (some (.Name y yp2)) spos.line X.env = pure false) :
    PS X (.Assign [.Name y yp2] (.BinOp (.Name y yp) .Add (.List es pos) p) spos) (fun D σ H => ∃ H0 b0 bs, ansL tb (.own c) cs = some bs ∧ (b0 ++ bs).length ≤ 1000 ∧ J1 a d H0 b0 σ H ∧ ∀ σ' H', J1 a d H0 (b0 ++ bs) σ' H' → D.nx σ' H') :=
  PS.imp (ps_set (i := 1) T.nd T.n1 (.inl T.v1) (cat_t T hg hd hcd hd2 hcd2 r) hs (.inr T.v1)) fun D σ H ⟨H0, b0, bs, e, hb, j, q⟩ =>
    ⟨H0, b0, bs, e, hb, j, fun q1 q2 h1 h2 => q _ _ (J1.new ⟨j.1.1, j.1.2.1, j.1.2.2.1.up h1, j.1.2.2.2.up h1⟩ h2 hb)⟩
theorem h_ret (T : At0 X a d c x y oe tb) (hg : Gl X "isinstance") (hd : (x == ("__debug__" : Str)) = false) (hcd : (x == ("__classdict__" : Str)) = false) (hd2 : (y == ("__debug__" : Str)) = false) (hcd2 : (y == ("__classdict__" : Str)) = false) (r : IsL X x es cs) :
    PS X (.Return (some (.BinOp (.Name y yp) .Add (.List es pos) p)) spos) (fun D σ H => ∃ H0 b0 bs, ansL tb (.own c) cs = some bs ∧ (b0 ++ bs).length ≤ 1000 ∧ J1 a d H0 b0 σ H ∧ ∀ q H', Sub H0 H' → H' q = some (.lst ((b0 ++ bs).map V.bl)) → H0 q = none → D.rt (.ref q) H') :=
  PS.imp (ps_ret (cat_t T hg hd hcd hd2 hcd2 r)) fun D σ H ⟨H0, b0, bs, e, hb, j, q⟩ =>
    ⟨H0, b0, bs, e, hb, j, fun q1 q2 h1 h2 => q _ _ ((j.1.2.2.2.up h1).up h2) upd_same (by
      cases z : H0 q2 with
      | none => rfl
      | some o =>
        have := (j.1.2.2.2.up (u := .lst (bs.map V.bl)) h1) _ _ z
        rw [h2] at this
        cases this)⟩
end
end Am

set_option Elab.async false
set_option linter.all false
set_option maxRecDepth 100000
set_option maxHeartbeats 4000000
namespace Am
open PySem L2 L2H AmX PyProof.Rows
theorem ansL_app {tb : Tb} {t : Cl} : ∀ {cs ds : List Cl}, ansL tb t (cs ++ ds) = (ansL tb t cs).bind fun a => (ansL tb t ds).map (a ++ ·)
  | [], ds => by
    simp only [List.nil_append, ansL, Option.bind_some]
    cases ansL tb t ds <;> rfl
  | c :: cs, ds => by
    simp only [List.cons_append, ansL, ansL_app]
    cases tb.lookup (t, c) with
    | none => rfl
    | some b =>
      cases ansL tb t cs with
      | none => rfl
      | some x => cases ansL tb t ds <;> rfl
theorem ansL_split {tb : Tb} {t : Cl} {cs ds : List Cl} {l : List Bool} (e : ansL tb t (cs ++ ds) = some l) : ∃ a b, ansL tb t cs = some a ∧ ansL tb t ds = some b ∧ l = a ++ b := by
  rw [ansL_app] at e
  obtain ⟨a, e1, e2⟩ := Option.bind_eq_some_iff.mp e
  obtain ⟨b, e3, e4⟩ := Option.map_eq_some_iff.mp e2
  exact ⟨a, b, e1, e3, e4.symm⟩
/-- the body's reading -/
def tHot (tb : Tb) (c : String) (a : Addr) (d : Option Addr) (cs : List Cl) : TS := fun D σ H => ∃ H0 all, ansL tb (.own c) cs = some all ∧ all.length ≤ 1000 ∧ J0 a d H0 σ H ∧ ∀ q H', Sub H0 H' → H' q = some (.lst (all.map V.bl)) → H0 q = none → D.rt (.ref q) H'
theorem hot4 {X : Cx} {s1 s2 s3 s4 : Stmt} {a : Addr} {d : Option Addr} {c : String} {tb : Tb} {c1 c2 c3 c4 : List Cl}
    (h1 : PS X s1 (fun D σ H => ∃ H0 bs, ansL tb (.own c) c1 = some bs ∧ bs.length ≤ 1000 ∧ J0 a d H0 σ H ∧ ∀ σ' H', J1 a d H0 bs σ' H' → D.nx σ' H'))
    (h2 : PS X s2 (fun D σ H => ∃ H0 b0 bs, ansL tb (.own c) c2 = some bs ∧ (b0 ++ bs).length ≤ 1000 ∧ J1 a d H0 b0 σ H ∧ ∀ σ' H', J1 a d H0 (b0 ++ bs) σ' H' → D.nx σ' H'))
    (h3 : PS X s3 (fun D σ H => ∃ H0 b0 bs, ansL tb (.own c) c3 = some bs ∧ (b0 ++ bs).length ≤ 1000 ∧ J1 a d H0 b0 σ H ∧ ∀ σ' H', J1 a d H0 (b0 ++ bs) σ' H' → D.nx σ' H'))
    (h4 : PS X s4 (fun D σ H => ∃ H0 b0 bs, ansL tb (.own c) c4 = some bs ∧ (b0 ++ bs).length ≤ 1000 ∧ J1 a d H0 b0 σ H ∧ ∀ q H', Sub H0 H' → H' q = some (.lst ((b0 ++ bs).map V.bl)) → H0 q = none → D.rt (.ref q) H')) :
    PSs X [s1, s2, s3, s4] (tHot tb c a d (c1 ++ (c2 ++ (c3 ++ c4)))) :=
  PSs.imp (pss_cons h1 (pss_cons h2 (pss_cons h3 (pss_one h4)))) fun D σ H ⟨H0, all, ea, hl, j, q⟩ => by
    obtain ⟨b1, r1, e1, ea1, rfl⟩ := ansL_split ea
    obtain ⟨b2, r2, e2, ea2, rfl⟩ := ansL_split ea1
    obtain ⟨b3, b4, e3, e4, rfl⟩ := ansL_split ea2
    simp only [List.length_append] at hl
    refine ⟨H0, b1, e1, by omega, j, fun σ1 H1 j1 => ⟨H0, b1, b2, e2, by rw [List.length_append]; omega, j1, fun σ2 H2 j2 => ⟨H0, b1 ++ b2, b3, e3, by simp only [List.length_append]; omega, j2, fun σ3 H3 j3 => ⟨H0, b1 ++ b2 ++ b3, b4, e4, by simp only [List.length_append]; omega, j3, fun p H4 a1 a2 a3 => q p H4 a1 ?_ a3⟩⟩⟩⟩
    rw [a2]
    simp only [List.append_assoc]
section
variable {P : Program} {w : World} {K : PySem.W.Frag} {mg : Str → Option Value} {base : Heap} {x y gx qual : Str} {params : Arguments} {body : List Stmt} {scope : Scope} {f : Addr} {fd : FuncData} {cs : List Cl} {tb : Tb}
/-- a def that answers so, while the exception at a is handled -/
def HotFn (P : Program) (w : World) (K : PySem.W.Frag) (mg : Str → Option Value) (base : Heap) (x : Str) (f : Addr) (fd : FuncData) (tb : Tb) (cs : List Cl) : Prop :=
  ∀ (A : Around) (outer : List Env) (s : Shared) (H : Hp) (args : Args) (a : Addr) (oe : Obj) (d : Option Addr) (c : String) (all : List Bool) (Q : VK) (E : XK), RoomH 1 A → Hot1 A (a, oe) → PinOk outer H s (a, oe) → L2N.Zn (.ref (cla K c)) d oe → (∃ vs, oe.data = .fields vs) → xcB K c = true → dOk d H →
    Env0 P w K mg base A outer s H → BindsTo s fd args [(x, .ref a)] → ansL tb (.own c) cs = some all → all.length ≤ 1000 → (∀ q H', Sub H H' → H' q = some (.lst (all.map V.bl)) → H q = none → Q (.ref q) H') → codeAny (model P w) A (.call (.ref f) args) (CR (L2.CX P w) outer P w H s Q E) s
theorem hot_fn (F : FunD K gx qual params body scope [] [] f fd) (S : FnScope [x, y] [x] scope) (v0 : scope.names.lookup x = some .local) (v1 : scope.names.lookup y = some .local) (ht : ktB K tb = true) (hm : mg "isinstance" = none)
    (hb : ∀ (cdv : Value) (A : Around) (outer : List Env) (s : Shared) (H : Hp) (E : XK) (a : Addr) (d : Option Addr) (c : String) (oe : Obj), At0 (cxH (L2.CX P w) P w K mg base [x, y] qual scope f cdv A outer s H E (a, oe)) a d c x y oe tb → PSs (cxH (L2.CX P w) P w K mg base [x, y] qual scope f cdv A outer s H E (a, oe)) body (tHot tb c a d cs)) : HotFn P w K mg base x f fd tb cs := by
  intro A outer s H args a oe d c all Q E hr hot hpin hz hf hc dk e0 hbd ea hal hq
  obtain ⟨oc, od, dV, kV, doc, pm, an, cdv, ct, osl, rfl, lk, hcd, _, _⟩ := F.ex
  have KX : K.In s.heap := e0.mod.kin.keeps fun b o e => (e0.bs b o e).1
  have lim : s.heap.NoLimit := e0.mod.nolimit.keeps fun b o e => (e0.bs b o e).1
  have hkind : ∀ y ∈ [(x, Value.ref a)], scope.names.lookup y.1 = some .local ∨ (scope.names.lookup y.1 = some .cell ∧ ((cellsFrom (s.heap.objs.size + 1) scope.names []).lookup y.1).isSome = true) := fun ⟨n, v⟩ hy => by
    have e : (n, v) = (x, Value.ref a) := by simpa using hy
    cases e
    exact .inl v0
  refine codeAny_call_function hr.depth (KX _ _ lk) rfl S.co S.gen rfl (PySem.W.codeRec_of KX hcd) (hbd _ _ _ _ ?_)
  refine wpAny_newFunctionEnv_cells S.kind hkind fun env he s1 x1 => ?_
  subst he
  refine ⟨lim.keeps x1.toInCall.keep, codeAny_func ?_⟩
  have I : Inv (cxH (L2.CX P w) P w K mg base [x, y] qual scope f cdv A outer s H E (a, oe)) [] (L2.start [x, y] [.ref a]) H s1 := inv_startH (ps := [x]) (us := [.ref a]) (vs := [.ref a]) S hpin e0 rfl (.cons rfl .nil) x1
  have T : At0 (cxH (L2.CX P w) P w K mg base [x, y] qual scope f cdv A outer s H E (a, oe)) a d c x y oe tb := ⟨rfl, rfl, S.nd, v0, v1, List.mem_singleton.mpr rfl, hz, hf, hc, ht, hm, (hr.deeper (k := 0) _).un⟩
  have ht := hb cdv A outer s H E a d c oe T
  refine wpAny_mono (ht.run [] s1 (L2.start [x, y] [.ref a]) H { nx := fun _ H' => Q .non H', rt := Q } I ⟨H, all, ea, hal, ⟨rfl, rfl, dk, fun _ _ e => e⟩, fun q H' a1 a2 a3 => hq q H' a1 a2 a3⟩) (fun fl s' hs => ?_) fun e s' hs => hs
  have fin : ∀ {σ' : L2.St} {H' : Hp} {v : V} {u : Value}, Inv (cxH (L2.CX P w) P w K mg base [x, y] qual scope f cdv A outer s H E (a, oe)) [] σ' H' s' → RelV v u → Q v H' → CE outer P w H s Q u s' :=
    fun {σ' H' v u} J rv q => ⟨v, H', J.os, J.bare, J.base, J.hok, rv, q⟩
  cases fl with
  | ret u =>
    obtain ⟨v, σ', H', J, rv, q⟩ := hs
    exact fin J rv q
  | next =>
    obtain ⟨σ', H', J, q⟩ := hs
    exact fin (v := V.non) (u := Value.none) J rfl q
  | brk =>
    obtain ⟨_, _, _, q⟩ := hs
    exact False.elim q
  | cont =>
    obtain ⟨_, _, _, q⟩ := hs
    exact False.elim q
end
/-- its call in the suite -/
theorem pe_hot {X : Cx} {a : Addr} {oe : Obj} {d : Option Addr} {pn : List (Addr × Obj)} {cls : Value} {g x n : Str} {f : Addr} {fd : FuncData} {tb : Tb} {cs : List Cl} {i : Nat} {p p1 pos : Pos} (F : HotFn X.prog X.w X.K X.mg X.base x f fd tb cs) (hr : RoomH 1 X.A) (hg : Gl X g) (hm : X.mg g = some (.ref f)) (hk : PySem.W.keepIn X.K (.ref f) = true)
    (hb : Binds X.K fd [x] []) (hz : L2N.Zn cls d oe) (hf : ∃ vs, oe.data = .fields vs) (hN : X.N[i]? = some n) (hv : X.env.scope.names.lookup n = some .local) (hd : (n == ("__debug__" : Str)) = false) (hcd : (n == ("__classdict__" : Str)) = false) (hdg : (g == ("__debug__" : Str)) = false)
    (he : starEach [.Name n p1] X.env = (false, eval (.Name n p1) X.env) :: starEach [] X.env) (hpl : (backTo pos (starEach [] X.env)).any (·.1) = false) :
    PE (X.suite a ((a, oe) :: pn)) (.Call (.Name g p) [.Name n p1] [] pos) (fun σ H Q => σ[i]? = some (some (.ref a)) ∧ dOk d H ∧ ∃ c, cls = .ref (cla X.K c) ∧ xcB X.K c = true ∧ ∃ all, ansL tb (.own c) cs = some all ∧ all.length ≤ 1000 ∧ ∀ q H', Sub H H' → H' q = some (.lst (all.map V.bl)) → H q = none → Q (.ref q) H') := by
  refine ⟨fun pins s σ H Q I h => ?_⟩
  obtain ⟨h0, dk, c, rfl, hc, all, ea, hal, q⟩ := h
  refine wpAny_Call_Name_kw (ld_glob I hg hm ?_ hdg)
  refine PySem.W.callWith_K (h₀ := X.base) I.ok.mod.kin hk (thn ((pa_cons (X := X.suite a ((a, oe) :: pn)) (pe_var hN (.inl hv) hd hcd) pa_nil he).run pos pins s σ H (fun vs H1 => vs = [.ref a] ∧ H1 = H) I ⟨_, h0, rfl, rfl⟩) fun us s1 ⟨vs, H1, I1, r, e1, e2⟩ => ⟨I1.kIn, ?_⟩) he hpl
  subst e1 e2
  cases r with
  | cons r rr =>
    cases rr
    obtain rfl : _ = Value.ref a := r
    have b := hb s1 [.ref a] I1.kIn rfl
    have P1 := I1.pin (a, oe) (List.mem_append_left _ List.mem_cons_self)
    have hpin : PinOk X.stack H1 s1 (a, oe) := ⟨P1.1, P1.2.1, fun hm => (List.mem_cons.mp (I1.stkSub a hm)).elim P1.2.2.1 P1.2.2.2.1, P1.2.2.2.2⟩
    have hot : Hot1 (X.A.mark (some (.ref a))) (a, oe) := ⟨rfl, by
      obtain ⟨vs, hv⟩ := hf
      exact ⟨vs, hv, hz.2.2 vs hv⟩⟩
    refine wpAny_call (codeAny_mono (F (X.A.mark (some (.ref a))) X.stack s1 H1 ⟨[.ref a], []⟩ a oe d c all Q (fun _ _ _ => False) ⟨hr.dp, hr.un⟩ hot hpin hz hf hc dk I1.env0 b ea hal q) fun r s' hq => ?_)
    cases r with
    | error e =>
      obtain ⟨_, _, _, _, _, _, _, _, _, _, _, _, z⟩ := hq
      exact z.elim
    | ok fl =>
      cases fl with
      | ret u => exact I1.after hq
      | next => exact False.elim hq
      | brk => exact False.elim hq
      | cont => exact False.elim hq
/-! ### try: body, except x as n: y = g(n) -/
theorem SRep.both {μ : Nat → Addr} {N : Nat} {H : Hp} {x : Option V} : ∀ {ds : Ev} {vs : L2.St} (i : Nat), SRep μ N H ds vs → SRep μ N H (ds.set i none) (vs.set i x)
  | _, _, _, .nil => .nil
  | _, _, 0, .no t => .no t
  | _, _, 0, .yes _ t => .no t
  | _, _, i + 1, .no t => .no (SRep.both i t)
  | _, _, i + 1, .yes q t => .yes q (SRep.both i t)
def sTryH (i j : Nat) (xs : List String) (tb : Tb) (cs : List Cl) (m : S) : S := fun ρ h => match m ρ h with
  | .exc c fs ρ' h' => if xs.contains c = true ∧ i < ρ'.length then match ansL tb (.own c) cs with
    | some bs => if bs.length ≤ 1000 then .nx (((ρ'.set i none).set j (some (.ref h'.length))).set i none) (h' ++ [.lst (bs.map .bl)]) else .bad
    | none => .bad
    else .bad
  | r => r
theorem reps_bls {μ : Nat → Addr} {N : Nat} {H : Hp} : ∀ bs : List Bool, Reps μ N H (bs.map D.bl) (bs.map V.bl)
  | [] => .nil
  | b :: bs => .cons (.bl b) (reps_bls bs)
theorem Rel.sub {K : PySem.W.Frag} {μ : Nat → Addr} {h : Hq} {H H' : Hp} (rel : Rel K μ h H) (s : Sub H H') : Rel K μ h H' :=
  ⟨rel.inj, fun i o e => (rel.obj i o e).mono ⟨Nat.le_refl _, fun _ _ => rfl, fun a vs e => s _ _ e⟩ (fun o e => s _ _ e) fun b φ e => s _ _ e⟩
theorem Rel.addList {K : PySem.W.Frag} {μ : Nat → Addr} {h : Hq} {H H' : Hp} {q : Addr} {bs : List Bool} (rel : Rel K μ h H) (s : Sub H H') (e : H' q = some (.lst (bs.map V.bl))) (n : H q = none) :
    Rel K (mset μ h.length q) (h ++ [.lst (bs.map .bl)]) H' ∧ Stp h.length μ H (h.length + 1) (mset μ h.length q) H' := by
  have st : Stp h.length μ H (h.length + 1) (mset μ h.length q) H' := ⟨Nat.le_succ _, fun i hi => mset_ne (Nat.ne_of_lt hi), fun a vs e => s _ _ e⟩
  have old : ∀ i o, i < h.length → (h ++ [O.lst (bs.map .bl)])[i]? = some o → h[i]? = some o := fun i o hi e => by rw [List.getElem?_append_left hi] at e; exact e
  have last : ∀ i o, ¬ i < h.length → (h ++ [O.lst (bs.map .bl)])[i]? = some o → i = h.length ∧ o = .lst (bs.map .bl) := fun i o hi e => by
    have hl := (List.getElem?_eq_some_iff.mp e).1
    rw [List.length_append, List.length_singleton] at hl
    have : i = h.length := by omega
    subst this
    rw [List.getElem?_append_right (Nat.le_refl _), Nat.sub_self] at e
    exact ⟨rfl, by simpa using e.symm⟩
  have far : ∀ i o, h[i]? = some o → o.isFro = false → μ i ≠ q := fun i o e hf z => by
    obtain ⟨w, hw⟩ := (rel.obj i o e).some hf
    rw [z, n] at hw; cases hw
  refine ⟨⟨fun i j oi oj ei ej fi fj e => ?_, fun i o e' => ?_⟩, st⟩
  · by_cases hi : i < h.length
    · by_cases hj : j < h.length
      · rw [mset_ne (Nat.ne_of_lt hi), mset_ne (Nat.ne_of_lt hj)] at e
        exact rel.inj i j oi oj (old _ _ hi ei) (old _ _ hj ej) fi fj e
      · obtain ⟨rfl, rfl⟩ := last j oj hj ej
        rw [mset_ne (Nat.ne_of_lt hi), mset_same] at e
        exact (far i oi (old _ _ hi ei) fi e).elim
    · obtain ⟨rfl, rfl⟩ := last i oi hi ei
      by_cases hj : j < h.length
      · rw [mset_same, mset_ne (Nat.ne_of_lt hj)] at e
        exact (far j oj (old _ _ hj ej) fj e.symm).elim
      · obtain ⟨rfl, rfl⟩ := last j oj hj ej
        rfl
  · rw [List.length_append, List.length_singleton]
    by_cases hi : i < h.length
    · rw [mset_ne (Nat.ne_of_lt hi)]
      exact (rel.obj i o (old _ _ hi e')).mono st (fun o e => s _ _ e) fun b φ e => s _ _ e
    · obtain ⟨rfl, rfl⟩ := last i o hi e'
      rw [mset_same]
      exact ⟨_, e, reps_bls bs⟩
def exB (K : PySem.W.Frag) (b : String) (xs : List String) : Bool := xs.all fun c => xcB K c && decide (PySem.W.exmOne K (.ref (cla K c)) (.ref (cla K b)) = some true)
theorem s_tryH {X : Cx} {W : WX} {b n y g x : Str} {bc : String} {f : Addr} {fd : FuncData} {tb : Tb} {cs : List Cl} {xs : List String} {i j : Nat} {m : S} {body : List Stmt} {yp np p p1 pos spos hpos tpos : Pos}
    (hs : X.stack = X.env :: X.outer) (hfr : X.env.frame = some X.env.locals) (hN : X.N.Nodup) (hi : X.N[i]? = some n) (hj : X.N[j]? = some y) (hln : X.env.scope.names.lookup n = some .local) (hly : X.env.scope.names.lookup y = some .local)
    (hc : Names X b (.ref (cla X.K bc))) (hx : exB X.K bc xs = true)
    (F : HotFn X.prog X.w X.K X.mg X.base x f fd tb cs) (hr : RoomH 1 X.A) (hg : Gl X g) (hm : X.mg g = some (.ref f)) (hk : PySem.W.keepIn X.K (.ref f) = true) (hb : Binds X.K fd [x] [])
    (hd : (n == ("__debug__" : Str)) = false) (hcd : (n == ("__classdict__" : Str)) = false) (hdg : (g == ("__debug__" : Str)) = false)
    (hbody : ∀ (W : WX) (pn : List (Addr × Obj)) (xe : Value → Shared → Prop), L2N.Takes (X.tr pn xe) W → PSs (X.tr pn xe) body (tS X.K W m))
    (he : starEach [.Name n p1] X.env = (false, eval (.Name n p1) X.env) :: starEach [] X.env := by rfl) (hpl : (backTo pos (starEach [] X.env)).any (·.1) = false := by rfl) (hsw : swapsWith (.Call (.Name g p) [.Name n p1] [] pos) (some (.Name y yp)) spos.line X.env = pure false := by rfl) :
    PS X (.Try body [.ExceptHandler (some (.Name b np)) (some n) [.Assign [.Name y yp] (.Call (.Name g p) [.Name n p1] [] pos) spos] hpos] [] [] tpos) (tS X.K W (sTryH i j xs tb cs m)) := by
  refine PS.imp (L2N.ps_try_as (i := i) (Wout := fun _ _ _ _ => False) (tb := fun W => tS X.K W m) (ts := fun a cls d D σ H => σ[i]? = some (some (.ref a)) ∧ dOk d H ∧ ∃ c, cls = .ref (cla X.K c) ∧ xcB X.K c = true ∧ ∃ all, ansL tb (.own c) cs = some all ∧ all.length ≤ 1000 ∧ ∀ q H', Sub H H' → H' q = some (.lst (all.map V.bl)) → H q = none → D.nx (σ.set j (some (.ref q))) H')
    hs hfr hN hi hln hc (fun u s' h => by
      obtain ⟨_, _, _, _, _, _, _, _, _, _, _, _, _, _, _, _, z⟩ := h
      exact z.elim) (fun W pn xe tk _ => hbody W pn xe tk) fun a oe cls d pn hz hf => pss_one (PS.imp (ps_set (i := j) hN hj (.inl hly) (pe_hot F hr hg hm hk hb hz hf hi hln hd hcd hdg he hpl) hsw (.inr hly)) fun D σ H q => q)) fun D σ H q => ?_
  obtain ⟨μ, h, ρ, rel, sr, gs⟩ := q
  refine ⟨μ, h, ρ, rel, sr, ?_⟩
  unfold sTryH at gs
  cases e : m ρ h with
  | exc c fs ρ' h' =>
    rw [e] at gs
    simp only at gs
    by_cases hcx : xs.contains c = true ∧ i < ρ'.length
    · rw [if_pos hcx] at gs
      cases ea : ansL tb (.own c) cs with
      | none => rw [ea] at gs; exact gs.elim
      | some bs =>
        rw [ea] at gs
        simp only at gs
        by_cases hl : bs.length ≤ 1000
        · rw [if_pos hl] at gs
          intro μ' H' σ' cls dp st rel' sr' xr
          have hxx := hx
          unfold exB at hxx
          rw [List.all_eq_true] at hxx
          obtain ⟨k1, k2⟩ := Bool.and_eq_true_iff.mp (hxx c (by simpa using hcx.1))
          obtain ⟨xr1, xr2⟩ := xr
          refine ⟨true, by rw [xr1]; exact of_decide_eq_true k2, fun _ a ha => ⟨?_, ?_, c, xr1, k1, bs, ea, hl, fun q H'' s e1 e2 => ?_⟩, fun z => by cases z⟩
          · have : i < σ'.length := by
              rw [← sr'.length]
              exact hcx.2
            rw [List.getElem?_set_self this]
          · rcases xr2 with ⟨_, z⟩ | ⟨dd, fv, z1, z2, _⟩
            · intro dd e; rw [z] at e; cases e
            · intro dd' e; rw [z1] at e; cases e; exact ⟨fv, z2⟩
          · obtain ⟨rel2, st2⟩ := rel'.addList s e1 e2
            have sr2 := ((((sr'.both (x := some (.ref a)) i).mono st2).set (d := .ref h'.length) (v := .ref q) (by
              have := Rep.ref (μ := mset μ' h'.length q) (N := h'.length + 1) (H := H'') (n := h'.length) (Nat.lt_succ_self _)
              rw [mset_same] at this
              exact this) j).both (x := none) i)
            refine gs _ _ _ ?_ rel2 ?_
            · rw [List.length_append]; exact st.trans st2
            · rw [List.length_append]; exact sr2
        · rw [if_neg hl] at gs; exact gs.elim
    · rw [if_neg hcx] at gs; exact gs.elim
  | nx ρ' h' => rw [e] at gs; exact gs
  | rt d h' => rw [e] at gs; exact gs
  | bk ρ' h' => rw [e] at gs; exact gs
  | ct ρ' h' => rw [e] at gs; exact gs
  | bad => rw [e] at gs; exact gs
end Am

set_option Elab.async false
set_option linter.all false
set_option maxRecDepth 100000
set_option maxHeartbeats 4000000
namespace Am
open PySem L2
def negD : D → Option D
  | .int i => some (.int (-i))
  | _ => none
def eNeg (m : E) : E := fun ρ h => (m ρ h).bind fun d h1 => match negD d with
  | some x => .ok x h1
  | none => .bad
theorem b_neg {X : Cx} {W : WX} {e : Expr} {m : E} {pos : Pos} (he : PE X e (tE X.K W m)) : PE X (.UnaryOp .USub e pos) (tE X.K W (eNeg m)) :=
  PE.imp (pe_un un_neg he) fun σ H Q q => by
    obtain ⟨μ, h, ρ, rel, sr, g⟩ := q
    refine ⟨μ, h, ρ, rel, sr, G.imp (fun x H1 z => ?_) (G.bind (rp := rpD) g)⟩
    obtain ⟨μ1, d, h1, st1, rel1, r1, g1⟩ := z
    cases d with
    | int i => cases r1; exact ⟨i, rfl, g1 μ1 H1 _ .refl rel1 (.int _)⟩
    | _ => exact g1.elim
/-! ### a, b = x, y -/
def sPar (i j : Nat) (a : EA) : S := fun ρ h => (a ρ h).st ρ fun ds h1 => match ds with
  | [d, e] => .nx ((ρ.set i (some d)).set j (some e)) h1
  | _ => .bad
def sPar3 (i j l : Nat) (a : EA) : S := fun ρ h => (a ρ h).st ρ fun ds h1 => match ds with
  | [d, e, f] => .nx (((ρ.set i (some d)).set j (some e)).set l (some f)) h1
  | _ => .bad
section
variable {X : Cx} {W : WX} {x y z : Str} {a b c : Expr} {m : EA} {px py pz pt pos : Pos} {kt k2 : Nat} {pt2 : Pos}
theorem s_par (i j : Nat) (hc : X.calm = true) (hN : X.N.Nodup) (ha : PA X [a, b] (tEA X.K W m)) (hi : X.N[i]? = some x := by rfl) (hj : X.N[j]? = some y := by rfl) (hij : i ≠ j := by decide)
    (hx : X.env.scope.names.lookup x = some .local := by rfl) (hy : X.env.scope.names.lookup y = some .local := by rfl)
    (hw : swappedStores [.Tuple [.Name x px, .Name y py] kt pt] (.Tuple [a, b] k2 pt2) X.env = pure (some [x, y]) := by rfl)
    (hs : swapsWithSole [.Tuple [.Name x px, .Name y py] kt pt] (.Tuple [a, b] k2 pt2) pos.line X.env = pure false := by rfl) :
    PS X (.Assign [.Tuple [.Name x px, .Name y py] kt pt] (.Tuple [a, b] k2 pt2) pos) (tS X.K W (sPar i j m)) :=
  PS.imp (ps_par hc hN hi hj hij hx hy ha hw hs) fun D σ H ⟨μ, h, ρ, rel, sr, g⟩ => ⟨μ, h, ρ, rel, sr, G.imp (fun vs H1 z => by
    obtain ⟨μ1, ds, h1, st1, rel1, r1, sr1, g1⟩ := z
    match ds, vs, r1 with
    | [d, e], _, .cons q1 (.cons q2 .nil) => exact ⟨_, _, rfl, g1 μ1 H1 _ .refl rel1 ((sr1.set q1 i).set q2 j)⟩
    | [], _, _ => exact g1.elim
    | [_], _, _ => exact g1.elim
    | _ :: _ :: _ :: _, _, _ => exact g1.elim) (GS.st (rp := rpL) (h := h) sr g)⟩
theorem s_par3 (i j l : Nat) (hc : X.calm = true) (hN : X.N.Nodup) (ha : PA X [a, b, c] (tEA X.K W m)) (hi : X.N[i]? = some x := by rfl) (hj : X.N[j]? = some y := by rfl) (hl : X.N[l]? = some z := by rfl) (hij : i ≠ j := by decide) (hil : i ≠ l := by decide) (hjl : j ≠ l := by decide)
    (hx : X.env.scope.names.lookup x = some .local := by rfl) (hy : X.env.scope.names.lookup y = some .local := by rfl) (hz : X.env.scope.names.lookup z = some .local := by rfl)
    (hw : swappedStores [.Tuple [.Name x px, .Name y py, .Name z pz] kt pt] (.Tuple [a, b, c] k2 pt2) X.env = pure (some [x, y, z]) := by rfl)
    (hs : swapsWithSole [.Tuple [.Name x px, .Name y py, .Name z pz] kt pt] (.Tuple [a, b, c] k2 pt2) pos.line X.env = pure false := by rfl) :
    PS X (.Assign [.Tuple [.Name x px, .Name y py, .Name z pz] kt pt] (.Tuple [a, b, c] k2 pt2) pos) (tS X.K W (sPar3 i j l m)) :=
  PS.imp (ps_par3 hc hN hi hj hl hij hil hjl hx hy hz ha hw hs) fun D σ H ⟨μ, h, ρ, rel, sr, g⟩ => ⟨μ, h, ρ, rel, sr, G.imp (fun vs H1 q => by
    obtain ⟨μ1, ds, h1, st1, rel1, r1, sr1, g1⟩ := q
    match ds, vs, r1 with
    | [d, e, f], _, .cons q1 (.cons q2 (.cons q3 .nil)) => exact ⟨_, _, _, rfl, g1 μ1 H1 _ .refl rel1 (((sr1.set q1 i).set q2 j).set q3 l)⟩
    | [], _, _ => exact g1.elim
    | [_], _, _ => exact g1.elim
    | [_, _], _, _ => exact g1.elim
    | _ :: _ :: _ :: _ :: _, _, _ => exact g1.elim) (GS.st (rp := rpL) (h := h) sr g)⟩
end
end Am

set_option Elab.async false
set_option linter.all false
set_option maxRecDepth 100000
set_option maxHeartbeats 4000000
namespace Am
open PySem PySem.Spec L2 PyProof.Rows
/-! ### a def that is called where no repr runs -/
structure FnG (P : Program) (w : World) (K : PySem.W.Frag) (mg : Str → Option Value) (base : Heap) (CX : CXT) (k : Nat) (f : Addr) (fd : FuncData) (ps : List Str) (sp : Sp) : Prop where
  run : ∀ (A : Around) (outer : List Env) (s : Shared) (H : Hp) (args : Args) (us : List Value) (vs : List V) (Q : VK) (E : XK), A.guards = some [] → Room k A → Env0 P w K mg base A outer s H → BindsTo s fd args (ps.zip us) → Vals vs us → sp vs H Q E →
    codeAny (model P w) A (.call (.ref f) args) (CR CX outer P w H s Q E) s
theorem body_okG {P : Program} {w : World} {K : PySem.W.Frag} {mg : Str → Option Value} {base : Heap} {N ps : List Str} {x qual : Str} {params : Arguments} {body : List Stmt} {scope : Scope} {dvs : List V} {kws : List (Str × V)} {f : Addr} {fd : FuncData} {k : Nat} {m : S}
    (F : FunD K x qual params body scope dvs kws f fd) (Sc : FnScope N ps scope)
    (hb : ∀ (cdv : Value) (A : Around) (outer : List Env) (s : Shared) (H : Hp) (Ee : XK), (cxOf (L2.CX P w) P w K mg base N qual scope f cdv A outer s H Ee).A.guards = some [] → Ctx (cxOf (L2.CX P w) P w K mg base N qual scope f cdv A outer s H Ee) (fun c d _ H => Ee c d H) k → PSs (cxOf (L2.CX P w) P w K mg base N qual scope f cdv A outer s H Ee) body (tS K (fun c d _ H => Ee c d H) m)) :
    FnG P w K mg base (L2.CX P w) (k + 1) f fd ps (spB K ps.length (fnB N.length m)) := by
  refine ⟨fun A outer s H args us vs Q Ee gA hr e0 hbd r hsp => ?_⟩
  obtain ⟨oc, od, dV, kV, doc, pm, an, cdv, ct, osl, rfl, lk, hcd, _, _⟩ := F.ex
  obtain ⟨μ, h, ds, rel, rd, hl0, g⟩ := hsp
  have hl : vs.length = ps.length := by rw [← rd.length, hl0]
  have KX : K.In s.heap := e0.mod.kin.keeps fun b o e => (e0.bs b o e).1
  have lim : s.heap.NoLimit := e0.mod.nolimit.keeps fun b o e => (e0.bs b o e).1
  have hkind : ∀ y ∈ ps.zip us, scope.names.lookup y.1 = some .local ∨ (scope.names.lookup y.1 = some .cell ∧ ((cellsFrom (s.heap.objs.size + 1) scope.names []).lookup y.1).isSome = true) := fun ⟨n, v⟩ hy => by
    rcases Sc.par n (List.of_mem_zip hy).1 with q | q
    · exact .inl q
    · exact .inr ⟨q, PySem.W.cellsFrom_some _ _ _ (.inl q)⟩
  refine codeAny_call_function hr.depth (KX _ _ lk) rfl Sc.co Sc.gen rfl (PySem.W.codeRec_of KX hcd) (hbd _ _ _ _ ?_)
  refine wpAny_newFunctionEnv_cells Sc.kind hkind fun env he s1 x1 => ?_
  subst he
  refine ⟨lim.keeps x1.toInCall.keep, codeAny_func ?_⟩
  have I : Inv (cxOf (L2.CX P w) P w K mg base N qual scope f cdv A outer s H Ee) [] (L2.start N vs) H s1 := inv_start Sc hr.hd e0 hl r x1
  have ht := hb cdv A outer s H Ee gA ⟨hr.deeper _, passAt (takes_of rfl rfl rfl rfl), takes_of rfl rfl rfl rfl, passes_of rfl⟩
  refine wpAny_mono (ht.run [] s1 (L2.start N vs) H { nx := fun _ H' => Q .non H', rt := Q } I ⟨μ, h, ds.map some ++ List.replicate (N.length - ds.length) none, rel, ?_, ?_⟩) (fun fl s' hs => ?_) fun e s' hs => hs
  · unfold L2.start
    rw [rd.length]
    exact SRep.start rd
  · unfold fnB at g
    cases e : m (ds.map some ++ List.replicate (N.length - ds.length) none) h with
    | nx ρ' h' => rw [e] at g; exact fun μ' H' σ' st rel' sr => fin_rt rel g st rel' .non
    | rt d h' => rw [e] at g; exact fun μ' H' v st rel' rr => fin_rt rel g st rel' rr
    | exc c fs ρ' h' => rw [e] at g; exact fun μ' H' σ' cls dp st rel' sr xr => fin_exc (W := fun c d _ H => Ee c d H) rel g st rel' xr
    | bk ρ' h' => rw [e] at g; exact g.elim
    | ct ρ' h' => rw [e] at g; exact g.elim
    | bad => rw [e] at g; exact g.elim
  · have fin : ∀ {σ' : L2.St} {H' : Hp} {v : V} {u : Value}, Inv (cxOf (L2.CX P w) P w K mg base N qual scope f cdv A outer s H Ee) [] σ' H' s' → RelV v u → Q v H' → CE outer P w H s Q u s' :=
      fun {σ' H' v u} J rv q => ⟨v, H', J.os, J.bare, J.base, J.hok, rv, q⟩
    cases fl with
    | ret u =>
      obtain ⟨v, σ', H', J, rv, q⟩ := hs
      exact fin J rv q
    | next =>
      obtain ⟨σ', H', J, q⟩ := hs
      exact fin (v := V.non) (u := Value.none) J rfl q
    | brk =>
      obtain ⟨_, _, _, q⟩ := hs
      exact False.elim q
    | cont =>
      obtain ⟨_, _, _, q⟩ := hs
      exact False.elim q
/-! ### the law's call: its script is a frozen list -/
/-- the plain script -/
def scr (ns : List Int) : Hq := [.fro (ns.map .int)]
theorem reps_ints {μ : Nat → Addr} {N : Nat} {H : Hp} : ∀ ns : List Int, Reps μ N H (ns.map D.int) (ns.map V.int)
  | [] => .nil
  | n :: ns => .cons (.int n) (reps_ints ns)
theorem law_callG {P : Program} {w : World} {K : PySem.W.Frag} {mg mb : Str → Option Value} {k : Nat} {fa a : Addr} {fd : FuncData} {x : Str} {F : FN} {s₁ : Shared} {vs : List Value} {ns : List Int}
    (KX : K.In s₁.heap) (hns : s₁.heap.Ns mainGlobals mg) (hb : s₁.heap.Ns builtinsNs mb) (hbb : ∀ x : Str, x ≠ "__name__" → mb x = bootBuiltins x) (hlim : s₁.heap.NoLimit) (hg : s₁.gens = #[])
    (ha : s₁.heap.get? a = some { cls := .type "list", data := .seq vs.toArray }) (hi : IntsAre vs ns) (hl : ns.length ≤ sizeLine) (hr : Room k callerA)
    (hF : ∀ base : Heap, K.In base → base.Ns mainGlobals mg → FnG P w K mg base (L2.CX P w) k fa fd [x] (spB K 1 F)) (hbind : ∀ (s : Shared) (u : Value), BindsTo s fd ⟨[u], []⟩ [(x, u)])
    (hlaw : ∃ h', F [.ref 0] (scr ns) = .ok (.bl true) h') :
    codeAny (model P w) callerA (.call (.ref fa) ⟨[.ref a], []⟩) (fun r s' => r = .ok (.ret (.bool true)) ∧ OldK s₁.heap s'.heap ∧ s'.os = s₁.os ∧ AllBare s'.gens) s₁ := by
  have rv := vals_ints hi
  have lenV := hi.length
  have core : ∀ H : Hp, (∀ b, H b = none ∨ (b = a ∧ ∃ o, H b = some (.frz o (.lst (ns.map V.int))))) → (H a = none → ∃ o its n, K.lookup a = some o ∧ o.cls = Value.type "list" ∧ o.dict = none ∧ o.data = Data.seq its n ∧ its.size ≤ sizeLine ∧ Vals (ns.map V.int) its.toList) → HOk P w H s₁.heap → (H a ≠ none → K.lookup a = none) →
      codeAny (model P w) callerA (.call (.ref fa) ⟨[.ref a], []⟩) (fun r s' => r = .ok (.ret (.bool true)) ∧ OldK s₁.heap s'.heap ∧ s'.os = s₁.os ∧ AllBare s'.gens) s₁ := by
    intro H hO hS hok hK
    have noA : ∀ {b : Addr} {o : Obj} {es : Array DictEntry} {ep : Nat}, s₁.heap.get? b = some o → o.data = .dict es ep → H b = none := fun {b o es ep} e d => by
      rcases hO b with z | ⟨rfl, _⟩
      · exact z
      · rw [ha] at e; cases e
        have d' : Data.seq vs.toArray _ = Data.dict es ep := d
        cases d'
    have nsK : ∀ {b : Addr} {m : Str → Option Value}, s₁.heap.Ns b m → (hidT s₁.heap H).Ns b m := fun {b m} ⟨o, es, ep, e, d, r⟩ => ⟨o, es, ep, hidT_get e (noA e d), d, r⟩
    have hKb : K.In (hidT s₁.heap H) := fun b o e => hidT_get (KX b o e) (by
      rcases hO b with z | ⟨rfl, o', z⟩
      · exact z
      · rw [hK (by rw [z]; simp)] at e; cases e)
    have hM : Mod K mg (hidT s₁.heap H) := ⟨hKb, nsK hns, ⟨mb, nsK hb, hbb⟩, let ⟨mc, h1, h2⟩ := hlim; ⟨mc, nsK h1, h2⟩⟩
    have e0 : Env0 P w K mg (hidT s₁.heap H) callerA [] s₁ H := ⟨rfl, hM, fun b o e => of_hidT e, Nat.le_of_eq (hidT_size _ _), trivial, fun b hb => absurd (show b ∈ ([] : List Addr) from hb) (by simp), hok, .of_eq hg⟩
    have rel : Rel K (fun _ => a) (scr ns) H := by
      refine ⟨fun i j oi oj ei ej fi fj e => ?_, fun i o e => ?_⟩
      · match i, ei with
        | 0, ei => cases ei; cases fi
        | i + 1, ei => simp [scr] at ei
      · match i, e with
        | 0, e =>
          cases e
          refine ⟨ns.map V.int, ?_, reps_ints ns⟩
          rcases hO a with z | ⟨_, o, z⟩
          · exact .inr (hS z)
          · exact .inl ⟨o, z⟩
        | i + 1, e => simp [scr] at e
    obtain ⟨h', eF⟩ := hlaw
    have sp : spB K 1 F [.ref a] H (fun v _ => v = .bl true) fun _ _ _ => False := by
      refine ⟨fun _ => a, scr ns, [.ref 0], rel, .cons (.ref (n := 0) (by simp [scr])) .nil, rfl, ?_⟩
      rw [eF]
      intro μ' H' b st rel' rb
      cases rb
      rfl
    refine codeAny_mono ((hF _ hKb (nsK hns)).run callerA [] s₁ H ⟨[.ref a], []⟩ [.ref a] [.ref a] _ _ rfl hr e0 (hbind s₁ (.ref a)) (.cons rfl .nil) sp) fun r s' h => ?_
    cases r with
    | error e =>
      obtain ⟨_, _, _, _, _, _, _, _, _, _, _, _, z⟩ := h
      exact z.elim
    | ok fl =>
      cases fl with
      | next => exact False.elim h
      | brk => exact False.elim h
      | cont => exact False.elim h
      | ret u =>
        obtain ⟨v, H', os, bare, un, hok', r', q⟩ := h
        have q' : v = .bl true := q
        subst q'
        obtain rfl : u = Value.bool true := r'
        refine ⟨rfl, OldK.of_keep fun b o e => ?_, os, bare⟩
        rcases hO b with z | ⟨_, ob, z⟩
        · exact un.keep b o e z (by intro z; exact absurd (show b ∈ ([] : List Addr) from z) (by simp)) (by simp)
        · obtain ⟨e1, _⟩ := hok b _ z
          obtain ⟨e2, _⟩ := hok' b _ (un.frzs b ob _ z)
          rw [e] at e1; cases e1
          exact e2
  cases hk : K.lookup a with
  | some o =>
    have e := KX a o hk
    rw [ha] at e
    cases e
    exact core (fun _ => none) (fun _ => .inl rfl) (fun _ => ⟨_, vs.toArray, _, hk, rfl, rfl, rfl, by rw [List.size_toArray, lenV]; exact hl, by simpa using rv⟩) (fun b u z => by have z' : (none : Option HO) = some u := z; cases z') fun z => absurd rfl z
  | none =>
    refine core (fun b => if b = a then some (.frz { cls := .type "list", data := .seq vs.toArray } (.lst (ns.map V.int))) else none) (fun b => ?_) (fun z => ?_) (fun b u z => ?_) fun _ => hk
    · by_cases hb : b = a
      · exact .inr ⟨hb, _, if_pos hb⟩
      · exact .inl (if_neg hb)
    · have z' := (if_pos rfl).symm.trans z
      cases z'
    · by_cases hb : b = a
      · have z' := (if_pos hb).symm.trans z
        cases z'
        subst hb
        exact ⟨ha, by rw [List.length_map]; exact hl, vs, _, rv, ha⟩
      · have z' := (if_neg hb).symm.trans z
        cases z'
theorem walk_ofG {l : PySem.W.OpenLaw} {n k : Nat} {q : Program} {loose : List Str} {XP : (Str → Option Value) → Heap → Prop} {YP : World → Heap → Prop} {d : DefRec} {x : Str} {F : FN}
    (hn : l.most = some n) (hn2 : n ≤ sizeLine) (hdf : d.params.defaults = []) (hr : Room k callerA)
    (hF : ∀ (w : World) (mg : Str → Option Value) (fa : Addr) (h : Heap), YP w h → h.Ns mainGlobals mg → mg d.name = some (.ref fa) →
      ∃ (K : PySem.W.Frag) (fd : FuncData), K.In h ∧ (∀ (s : Shared) (u : Value), BindsTo s fd ⟨[u], []⟩ [(x, u)]) ∧ ∀ base : Heap, K.In base → base.Ns mainGlobals mg → FnG l.prog w K mg base (L2.CX l.prog w) k fa fd [x] (spB K 1 F))
    (hlaw : ∀ ns : List Int, ns.length ≤ n → ∃ h', F [.ref 0] (scr ns) = .ok (.bl true) h') :
    PySem.W.WalkO q loose XP YP l.row.toRowW d [] (fun f vs => PySem.call f vs) := by
  refine Att.attach_call hn hdf fun w s₀ s₁ mg mb fa o pm cd doc a vs ns G Y ho hd hcd hmg hobj hints hlen hg => ?_
  obtain ⟨K, fd, KX, hb, hFn⟩ := hF w mg fa _ Y G.T.g hmg
  exact law_callG KX G.T.g G.T.b G.T.builtins G.T.nolimit hg hobj hints (Nat.le_trans hlen hn2) hr hFn hb (hlaw ns hlen)
/-! ### the Hook: any reading of the written part -/
def kOf (n : Nat) (g : Addr → Option Obj) : PySem.W.Frag := He.frG g (He.asD g n ++ [sysModules, cStatics])
def hookK (n : Nat) {α : Type} (ob : PySem.W.Frag → α) (v : α) : PySem.W.Hook where
  α := α
  obs := fun s => ob (kOf n s.heap.get?)
  val := fun _ => v
  says := fun _ h => ∃ K : PySem.W.Frag, K.In h ∧ ob K = v
  of := fun _ _ e => ⟨_, He.frG_in, e⟩
  keeps := fun _ _ _ ⟨K, hK, c⟩ k => ⟨K, PySem.W.Frag.In.keeps hK k, c⟩
end Am

set_option Elab.async false
set_option linter.all false
set_option maxRecDepth 100000
set_option maxHeartbeats 4000000
namespace Am
open PySem L2 AmX PyProof.Rows
/-! ### what the hook must see of own exception classes -/
def clsB (K : PySem.W.Frag) (C : Addr) : Bool := match K.lookup C with
  | some ⟨.type "type", _, .cls cd, sl⟩ => (match cd.mro, sl.toList with
    | .ref C' :: bm, [_, _, _, _, some (.builtin n), _] => C' == C && (n == "Exception.__new__" && (!cd.hasDel && (cd.hasDict && exOk bm)))
    | _, _ => false)
  | _ => false
def xclsB (K : PySem.W.Frag) (C : Addr) : Bool := clsB K C && (decide (PySem.W.findIn K (.ref C) "__setattr__" = some (some (.builtin "object.__setattr__"))) && (decide (PySem.W.subIn K (.ref C) (.type "BaseException") = some true) && (decide (PySem.W.typeIn K (.ref C) = some (.type "type")) && PySem.W.keepIn K (.ref C))))
theorem xclsB_ok {K : PySem.W.Frag} {C : Addr} (h : xclsB K C = true) : XCls K C := by
  unfold xclsB at h
  simp only [Bool.and_eq_true] at h
  obtain ⟨h0, h1, h2, h3, h4⟩ := h
  refine ⟨?_, of_decide_eq_true h1, of_decide_eq_true h2, of_decide_eq_true h3, h4⟩
  unfold clsB at h0
  split at h0
  · rename_i dd cd sl ho
    split at h0
    · rename_i C' bm k0 k1 k2 k3 n k5 hm hs
      simp only [Bool.and_eq_true, beq_iff_eq, Bool.not_eq_true'] at h0
      obtain ⟨rfl, rfl, hdel, hdic, hx⟩ := h0
      obtain ⟨nm, bs, mro, ns, qn, hd, sn, sub, ab, col, del⟩ := cd
      dsimp only at hm hdel hdic
      subst hm hdel hdic
      have hsl : sl = #[k0, k1, k2, k3, some (.builtin "Exception.__new__"), k5] := by
        obtain ⟨l⟩ := sl
        simp only at hs
        rw [hs]
      subst hsl
      exact ⟨_, _, _, _, _, _, _, _, _, _, _, _, _, _, _, ho, hx⟩
    · cases h0
  · cases h0
abbrev FnI : Type := Option (Str × Str × Arguments × FuncBody × Scope × Addr × List Str × Value × Addr)
def iniV (qual : Str) (params : Arguments) (body : List Stmt) (scope : Scope) : FnI := some ((Str.ofString "__init__" : Str), qual, params, FuncBody.stmts body, scope, mainGlobals, [(Str.ofString "__class__" : Str)], Value.none, builtinsNs)
def iniA (K : PySem.W.Frag) (c : String) : Addr := He.ma K (cla K c) "__init__"
def iniW (K : PySem.W.Frag) (c : String) : FnI := match K.lookup (iniA K c) with
  | some ⟨_, _, .func fd, _⟩ => some (fd.name, fd.qualname, fd.params, fd.body, fd.scope, fd.globals, fd.closure.map (·.1), fd.defaults, fd.builtins)
  | _ => none
def cellB (K : PySem.W.Frag) (cc C : Addr) : Bool := match K.lookup cc with
  | some ⟨_, _, .cell (some (.ref D)), _⟩ => D == C
  | _ => false
def fileB (K : PySem.W.Frag) (cda : Addr) (file : Str) : Bool := match K.lookup cda with
  | some ⟨_, _, .fields vs, _⟩ => (match (vs[2]? : Option Value) with
    | some (Value.str x _) => file == x
    | _ => false)
  | _ => false
def iniB (K : PySem.W.Frag) (c : String) (qual file : Str) : Bool := (match K.lookup (iniA K c) with
  | some ⟨_, _, .func fd, _⟩ => (match fd.closure, fd.code with
    | [(_, cc)], .ref cda => cellB K cc (cla K c) && (PySem.W.codeIn K (.ref cda) qual && fileB K cda file)
    | _, _ => false)
  | _ => false) && (decide (PySem.W.findIn K (.ref (cla K c)) "__init__" = some (some (.ref (iniA K c)))) && decide (PySem.W.typeIn K (.ref (iniA K c)) = some (.type "function")))
/-- the facts of one class -/
def xcW (K : PySem.W.Frag) (c : String) (fs : List String) (qual file : Str) : Bool := xclsB K (cla K c) && (iniB K c qual file && (decide (PySem.W.ks_superIn K (cla K c) (cla K c) "__init__" = some (some (.builtin "Exception.__init__"))) && fs.all fun g => decide (PySem.W.findIn K (.ref (cla K c)) (Str.ofString g) = some none)))
theorem xini_ok {P : Program} {K : PySem.W.Frag} {c : String} {fs : List String} {qual : Str} {params : Arguments} {body : List Stmt} {scope : Scope} (h : xcW K c fs qual P.main.file = true)
    (e : iniW K c = iniV qual params body scope) (free : PySem.W.nsIn K mainGlobals "super" = some none) (third : PySem.W.nsIn K cStatics "thirdparty.any" = some none) :
    XCls K (cla K c) ∧ PySem.W.findIn K (.ref (cla K c)) "__init__" = some (some (.ref (iniA K c))) ∧ PySem.W.typeIn K (.ref (iniA K c)) = some (.type "function") ∧ ∃ fd, XInit P K (cla K c) (iniA K c) qual params body scope (fs.map Str.ofString) fd := by
  unfold xcW at h
  simp only [Bool.and_eq_true] at h
  obtain ⟨h1, h2, h3, h4⟩ := h
  unfold iniB at h2
  simp only [Bool.and_eq_true] at h2
  obtain ⟨h2, h5, h6⟩ := h2
  refine ⟨xclsB_ok h1, of_decide_eq_true h5, of_decide_eq_true h6, ?_⟩
  have na : ∀ g ∈ fs.map Str.ofString, PySem.W.findIn K (.ref (cla K c)) g = some none := fun g hg => by
    obtain ⟨y, hy, rfl⟩ := List.mem_map.mp hg
    exact of_decide_eq_true (List.all_eq_true.mp h4 y hy)
  unfold iniW iniV at e
  cases q : K.lookup (iniA K c) with
  | none => rw [q] at e; cases e
  | some o =>
    obtain ⟨oc, od, dt, osl⟩ := o
    rw [q] at h2 e
    cases dt with
    | func fd =>
      obtain ⟨n1, n2, n3, n4, n5, n6, n7, n8, n9, n10, n11, n12, n13, n14, n15⟩ := fd
      dsimp only at e h2
      simp only [Option.some.injEq, Prod.mk.injEq] at e
      obtain ⟨e1, e2, e3, e4, e5, e6, e7, e8, e9⟩ := e
      subst e1 e2 e3 e4 e5 e6 e8 e9
      cases n7 with
      | nil => simp at e7
      | cons p r =>
        cases r with
        | cons _ _ => simp at e7
        | nil =>
          obtain ⟨nm, cc⟩ := p
          have enm : nm = "__class__" := by simpa using e7
          subst enm
          cases n13 with
          | ref cda =>
            dsimp only at h2
            simp only [Bool.and_eq_true] at h2
            obtain ⟨k1, k2, k3⟩ := h2
            unfold cellB at k1
            split at k1
            · rename_i cl cld D csl lcc
              have eD : D = cla K c := by simpa using k1
              subst eD
              unfold fileB at k3
              split at k3
              · rename_i ccl cdd vs ccs lcd
                split at k3
                · rename_i file tf hvs
                  exact ⟨_, ⟨oc, od, osl, n9, n10, n11, n12, n14, cda, cc, ccl, cdd, vs, ccs, file, tf, cl, cld, csl, rfl, q, k2, lcd, hvs, k3, lcc⟩, of_decide_eq_true h3, free, third, na⟩
                · cases k3
              · cases k3
            · cases k1
          | _ => cases h2
    | _ => cases h2
theorem xc_ok {P : Program} {w : World} {K : PySem.W.Frag} {mg : Str → Option Value} {base : Heap} {c : String} {fs : List String} {qual : Str} {params : Arguments} {body : List Stmt} {scope : Scope} {fd : FuncData} (B : XText P params body scope (fs.map Str.ofString))
    (hm : mg (Str.ofString c) = some (.ref (cla K c))) (T : XCls K (cla K c)) (h1 : PySem.W.findIn K (.ref (cla K c)) "__init__" = some (some (.ref (iniA K c)))) (h2 : PySem.W.typeIn K (.ref (iniA K c)) = some (.type "function"))
    (F : XInit P K (cla K c) (iniA K c) qual params body scope (fs.map Str.ofString) fd) : Xc P w K mg base c fs (iniA K c) fd :=
  ⟨T, hm, h1, h2, init_ok T F B⟩
end Am

set_option Elab.async false
set_option linter.all false
set_option maxRecDepth 100000
set_option maxHeartbeats 4000000
namespace Am
open PySem L2
/-! ### what the plain readings do -/
def okR {α : Type} (r : R α) (Q : α → Hq → Prop) : Prop := match r with
  | .ok a h => Q a h
  | _ => False
def okS (r : RS) (N : Ev → Hq → Prop) (Rt : D → Hq → Prop) : Prop := match r with
  | .nx ρ h => N ρ h
  | .rt d h => Rt d h
  | _ => False
section
variable {α β : Type} {Q : α → Hq → Prop} {N : Ev → Hq → Prop} {Rt : D → Hq → Prop} {ρ : Ev} {h : Hq}
@[simp] theorem okR_ok {a : α} : okR (.ok a h) Q = Q a h := rfl
@[simp] theorem okR_bad : okR (.bad : R α) Q = False := rfl
@[simp] theorem okR_bind {r : R β} {k : β → Hq → R α} : okR (r.bind k) Q = okR r (fun b h => okR (k b h) Q) := by cases r <;> rfl
@[simp] theorem okS_st {r : R β} {k : β → Hq → RS} : okS (r.st ρ k) N Rt = okR r (fun b h => okS (k b h) N Rt) := by cases r <;> rfl
@[simp] theorem okS_nx : okS (.nx ρ h) N Rt = N ρ h := rfl
@[simp] theorem okS_rt {d : D} : okS (.rt d h) N Rt = Rt d h := rfl
@[simp] theorem okS_bad : okS .bad N Rt = False := rfl
@[simp] theorem okR_of {a : α} : okR (R.of (some (a, h))) Q = Q a h := rfl
@[simp] theorem okR_ofN : okR (R.of none) Q = False := rfl
theorem okS_seq {a b : S} : okS (sSeq a b ρ h) N Rt = okS (a ρ h) (fun ρ' h' => okS (b ρ' h') N Rt) Rt := by
  unfold sSeq
  cases a ρ h <;> rfl
theorem okS_step {a b : S} (x : ∀ NN : Ev → Hq → Prop, (∀ ρ' h', okS (b ρ' h') N Rt → NN ρ' h') → okS (a ρ h) NN Rt) : okS (sSeq a b ρ h) N Rt := by
  rw [okS_seq]
  exact x _ fun _ _ q => q
theorem okR_imp {r : R α} {Q' : α → Hq → Prop} (x : okR r Q) (k : ∀ a h, Q a h → Q' a h) : okR r Q' := by
  cases r with
  | ok a h => exact k a h x
  | exc c fs h => exact x
  | bad => exact x
theorem okS_imp {r : RS} {N' : Ev → Hq → Prop} {R' : D → Hq → Prop} (x : okS r N Rt) (k : ∀ a h, N a h → N' a h) (k2 : ∀ a h, Rt a h → R' a h) : okS r N' R' := by
  cases r with
  | nx a h => exact k a h x
  | rt a h => exact k2 a h x
  | bk a h => exact x
  | ct a h => exact x
  | exc c fs _ h => exact x
  | bad => exact x
theorem okR_ex {r : R α} (x : okR r Q) : ∃ a h, r = .ok a h ∧ Q a h := by
  cases r with
  | ok a h => exact ⟨a, h, rfl, x⟩
  | exc c fs h => exact x.elim
  | bad => exact x.elim
/-- a def, from its body -/
theorem okR_fn {n : Nat} {m : S} {ds : List D} {Q : D → Hq → Prop} (x : okS (m (ds.map some ++ List.replicate (n - ds.length) none) h) (fun _ h' => okR (fin h .non h') Q) (fun d h' => okR (fin h d h') Q)) : okR (fnB n m ds h) Q := by
  unfold fnB
  cases e : m (ds.map some ++ List.replicate (n - ds.length) none) h with
  | nx a h => rw [e] at x; exact x
  | rt a h => rw [e] at x; exact x
  | bk a h => rw [e] at x; exact x.elim
  | ct a h => rw [e] at x; exact x.elim
  | exc c fs _ h => rw [e] at x; exact x.elim
  | bad => rw [e] at x; exact x.elim
/-- its end: what it made stays -/
theorem okR_fin {h' : Hq} {d : D} {Q : D → Hq → Prop} (q : Q d h') (q0 : d.cl h.length = true → h'.take h.length = h → Q d h) : okR (fin h d h') Q := by
  unfold fin
  by_cases e : (d.cl h.length && decide (h'.take h.length = h)) = true
  · rw [if_pos e]
    obtain ⟨e1, e2⟩ := Bool.and_eq_true_iff.mp e
    exact q0 e1 (of_decide_eq_true e2)
  · rw [if_neg e]; exact q
/-- its end: what it made is forgotten -/
theorem okR_fin0 {h' : Hq} {d : D} {Q : D → Hq → Prop} (e1 : d.cl h.length = true) (e2 : h'.take h.length = h) (q : Q d h) : okR (fin h d h') Q := by
  unfold fin
  rw [if_pos (by rw [e1, decide_eq_true e2]; rfl)]
  exact q
/-- a walk over items -/
theorem okS_for {g : T} {b : S} {c : Hq → Bool} (I : Nat → Ev → Hq → Prop) : ∀ (xs : List D) (j : Nat) (ρ : Ev) (h : Hq), I j ρ h → (∀ i ρ h, j ≤ i → i ≤ j + xs.length → I i ρ h → c h = true) →
    (∀ i x ρ h, j ≤ i → xs[i - j]? = some x → I i ρ h → ∃ ρ1 h1, g x ρ h = some (ρ1, h1) ∧ okS (b ρ1 h1) (I (i + 1)) Rt) → (∀ ρ h, I (j + xs.length) ρ h → N ρ h) → okS (forN g b c xs ρ h) N Rt
  | [], j, ρ, h, i0, hc, _, hn => by
    unfold forN
    rw [if_pos (hc j ρ h (Nat.le_refl _) (by simp) i0)]
    exact hn ρ h (by simpa using i0)
  | x :: xs, j, ρ, h, i0, hc, hs, hn => by
    unfold forN
    rw [if_pos (hc j ρ h (Nat.le_refl _) (by simp) i0)]
    obtain ⟨ρ1, h1, e, q⟩ := hs j x ρ h (Nat.le_refl _) (by simp) i0
    rw [e]
    show okS (fcK (forN g b c xs) (b ρ1 h1)) N Rt
    have ih := fun ρ h i0 => okS_for I xs (j + 1) ρ h i0 (fun i ρ h h1 h2 => hc i ρ h (by omega) (by simp; omega)) (fun i x ρ h h1 h2 => hs i x ρ h (by omega) (by
      have : i - j = (i - (j + 1)) + 1 := by omega
      rw [this, List.getElem?_cons_succ]
      exact h2)) (fun ρ h i1 => hn ρ h (by simpa [Nat.add_assoc, Nat.add_comm 1] using i1))
    cases e2 : b ρ1 h1 with
    | nx a h => rw [e2] at q; exact ih a h q
    | rt a h => rw [e2] at q; exact q
    | bk a h => rw [e2] at q; exact q.elim
    | ct a h => rw [e2] at q; exact q.elim
    | exc c fs _ h => rw [e2] at q; exact q.elim
    | bad => rw [e2] at q; exact q.elim
end
/-! ### looks into the heap -/
section
variable {h : Hq} {n m : Nat} {o o' : O}
theorem lk_lt (e : h[n]? = some o) : n < h.length := (List.getElem?_eq_some_iff.mp e).1
theorem lk_set (e : h[n]? = some o) : (h.set n o')[n]? = some o' := List.getElem?_set_self (lk_lt e)
theorem lk_ne (ne : n ≠ m) : (h.set n o')[m]? = h[m]? := List.getElem?_set_ne ne
theorem lk_app (e : h[n]? = some o) (t : Hq) : (h ++ t)[n]? = some o := by rw [List.getElem?_append_left (lk_lt e)]; exact e
theorem lk_new : (h ++ [o])[h.length]? = some o := by simp
end
/-! ### values as data, by objects from B on alone -/
def pyB (h : Hq) (B : Nat) : Nat → D → Option PyData
  | 0, _ => none
  | _ + 1, .non => some .none
  | _ + 1, .bl b => some (.bool b)
  | _ + 1, .int i => some (.int i)
  | _ + 1, .str s => some (.str (tx s))
  | n + 1, .tup xs => (pyDs (pyB h B n) xs).map .tuple
  | n + 1, .ref i => if B ≤ i then match h[i]? with
    | some (.lst xs) => (pyDs (pyB h B n) xs).map .list
    | some (.dic kvs) => (pyKv (pyB h B n) kvs).map .dict
    | _ => none
    else none
theorem pyDs_imp {f g : D → Option PyData} (k : ∀ d p, f d = some p → g d = some p) : ∀ {ds : List D} {ps : List PyData}, pyDs f ds = some ps → pyDs g ds = some ps
  | [], _, e => e
  | d :: ds, ps, e => by
    unfold pyDs at e ⊢
    cases e1 : f d with
    | none => rw [e1] at e; cases e
    | some x =>
      cases e2 : pyDs f ds with
      | none => rw [e1, e2] at e; cases e
      | some xs => rw [e1, e2] at e; rw [k _ _ e1, pyDs_imp k e2]; exact e
theorem pyKv_imp {f g : D → Option PyData} (k : ∀ d p, f d = some p → g d = some p) : ∀ {ds : List (D × D)} {ps : List (PyData × PyData)}, pyKv f ds = some ps → pyKv g ds = some ps
  | [], _, e => e
  | (a, d) :: ds, ps, e => by
    unfold pyKv at e ⊢
    cases e0 : f a with
    | none => rw [e0] at e; cases e
    | some y =>
      cases e1 : f d with
      | none => rw [e0, e1] at e; cases e
      | some x =>
        cases e2 : pyKv f ds with
        | none => rw [e0, e1, e2] at e; cases e
        | some xs => rw [e0, e1, e2] at e; rw [k _ _ e0, k _ _ e1, pyKv_imp k e2]; exact e
theorem pyB_mono {h h' : Hq} {B B' : Nat} (hb : B' ≤ B) (k : ∀ i o, B ≤ i → h[i]? = some o → h'[i]? = some o) : ∀ {f f' : Nat} {d : D} {p : PyData}, f ≤ f' → pyB h B f d = some p → pyB h' B' f' d = some p
  | 0, _, _, _, _, e => by cases e
  | f + 1, 0, _, _, hf, _ => by omega
  | f + 1, f' + 1, d, p, hf, e => by
    have ih := fun d p => pyB_mono hb k (f := f) (f' := f') (d := d) (p := p) (by omega)
    cases d with
    | tup xs =>
      unfold pyB at e ⊢
      obtain ⟨ps, e1, rfl⟩ := Option.map_eq_some_iff.mp e
      rw [pyDs_imp ih e1]; rfl
    | ref i =>
      unfold pyB at e ⊢
      by_cases hi : B ≤ i
      · rw [if_pos hi] at e
        rw [if_pos (Nat.le_trans hb hi)]
        cases eo : h[i]? with
        | none => rw [eo] at e; cases e
        | some o =>
          rw [eo] at e
          rw [k i o hi eo]
          cases o with
          | lst xs =>
            obtain ⟨ps, e1, rfl⟩ := Option.map_eq_some_iff.mp e
            show (pyDs _ _).map _ = _
            rw [pyDs_imp ih e1]; rfl
          | dic kvs =>
            obtain ⟨ps, e1, rfl⟩ := Option.map_eq_some_iff.mp e
            show (pyKv _ _).map _ = _
            rw [pyKv_imp ih e1]; rfl
          | _ => cases e
      · rw [if_neg hi] at e; cases e
    | _ => exact e
theorem pyB_pyD {h : Hq} {B : Nat} : ∀ {f f' : Nat} {d : D} {p : PyData}, f ≤ f' → pyB h B f d = some p → pyD h f' d = some p
  | 0, _, _, _, _, e => by cases e
  | f + 1, 0, _, _, hf, _ => by omega
  | f + 1, f' + 1, d, p, hf, e => by
    have ih := fun d p => pyB_pyD (h := h) (B := B) (f := f) (f' := f') (d := d) (p := p) (by omega)
    cases d with
    | tup xs =>
      unfold pyB at e; unfold pyD
      obtain ⟨ps, e1, rfl⟩ := Option.map_eq_some_iff.mp e
      rw [pyDs_imp ih e1]; rfl
    | ref i =>
      unfold pyB at e; unfold pyD
      by_cases hi : B ≤ i
      · rw [if_pos hi] at e
        cases eo : h[i]? with
        | none => rw [eo] at e; cases e
        | some o =>
          rw [eo] at e
          cases o with
          | lst xs =>
            obtain ⟨ps, e1, rfl⟩ := Option.map_eq_some_iff.mp e
            show (pyDs _ _).map _ = _
            rw [pyDs_imp ih e1]; rfl
          | dic kvs =>
            obtain ⟨ps, e1, rfl⟩ := Option.map_eq_some_iff.mp e
            show (pyKv _ _).map _ = _
            rw [pyKv_imp ih e1]; rfl
          | _ => cases e
      · rw [if_neg hi] at e; cases e
    | _ => exact e
/-- it may be shown -/
structure Gd (W E : Nat) (p : PyData) : Prop where
  sh : p.showable = true
  ls : p.leavesShort 50 = true
  wt : p.weight ≤ W
  dp : p.depth ≤ E
theorem Gd.mono {W W' E E' : Nat} {p : PyData} (g : Gd W E p) (h : W ≤ W') (h2 : E ≤ E') : Gd W' E' p := ⟨g.sh, g.ls, Nat.le_trans g.wt h, Nat.le_trans g.dp h2⟩
theorem Gd.list {W E : Nat} {ps : List PyData} (g : ∀ p ∈ ps, Gd W E p) : Gd ((W + 1) * ps.length) (E + 1) (.list ps) ∧ Gd ((W + 1) * ps.length) (E + 1) (.tuple ps) := by
  have key : ∀ ps : List PyData, (∀ p ∈ ps, Gd W E p) → PyData.showableAll ps = true ∧ PyData.leavesShortAll 50 ps = true ∧ PyData.weightAll ps ≤ (W + 1) * ps.length ∧ PyData.depthAll ps ≤ E := by
    intro ps
    induction ps with
    | nil => intro _; exact ⟨rfl, rfl, by simp [PyData.weightAll], by simp [PyData.depthAll]⟩
    | cons p ps ih =>
      intro g
      obtain ⟨a, b, c, d⟩ := ih fun q hq => g q (List.mem_cons_of_mem _ hq)
      have gp := g p List.mem_cons_self
      refine ⟨by simp only [PyData.showableAll, gp.sh, a, Bool.and_self], by simp only [PyData.leavesShortAll, gp.ls, b, Bool.and_self], ?_, ?_⟩
      · simp only [PyData.weightAll, List.length_cons, Nat.mul_succ]
        have := gp.wt
        omega
      · simp only [PyData.depthAll]
        have := gp.dp
        omega
  obtain ⟨a, b, c, d⟩ := key ps g
  exact ⟨⟨by simpa only [PyData.showable] using a, by simpa only [PyData.leavesShort] using b, by simpa only [PyData.weight] using c, by simpa only [PyData.depth] using Nat.succ_le_succ d⟩,
    ⟨by simpa only [PyData.showable] using a, by simpa only [PyData.leavesShort] using b, by simpa only [PyData.weight] using c, by simpa only [PyData.depth] using Nat.succ_le_succ d⟩⟩
theorem Gd.dict {W E : Nat} {k p : PyData} (gk : Gd W E k) (g : Gd W E p) : Gd (2 * W + 2) (E + 1) (.dict [(k, p)]) := by
  refine ⟨?_, ?_, ?_, ?_⟩
  · simp only [PyData.showable, PyData.showableKv, gk.sh, g.sh, Bool.and_self]
  · simp only [PyData.leavesShort, PyData.leavesShortKv, gk.ls, g.ls, Bool.and_self]
  · simp only [PyData.weight, PyData.weightKv]; have := gk.wt; have := g.wt; omega
  · simp only [PyData.depth, PyData.depthKv]; have := gk.dp; have := g.dp; omega
theorem Gd.shown {W E : Nat} {p : PyData} (g : Gd W E p) (h : 52 * W + 50 ≤ lim) : p.shown.length ≤ lim := by
  have := PyData.shown_le 50 (by decide) p g.ls
  have := g.wt
  omega
/-- repr -/
theorem repr_eq {h : Hq} {B f W E : Nat} {d : D} {p : PyData} (e : pyB h B f d = some p) (hf : f ≤ 40) (g : Gd W E p) (hW : 52 * W + 50 ≤ lim) (hE : E ≤ 100) : reprD [d] h = some (.str p.shown.cps.toList, h) := by
  unfold reprD
  simp only [pyB_pyD hf e]
  rw [if_pos ⟨g.sh, Nat.le_trans g.dp hE, g.shown hW⟩]
@[simp] theorem okR_nox {α : Type} {r : R α} {Q : α → Hq → Prop} : okR r.nox Q = okR r Q := by cases r <;> rfl
theorem okR_cmp {g : CT} {e : E} {c : Hq → Bool} {a : Nat} {ρ : Ev} (I : Nat → List D → Hq → Prop) {Q : Unit → Hq → Prop} : ∀ (xs : List D) (j : Nat) (acc : List D) (h : Hq), I j acc h → (∀ i acc h, I i acc h → c h = true) →
    (∀ i x acc h, j ≤ i → xs[i - j]? = some x → I i acc h → ∃ ρ2, g.set x ρ = some ρ2 ∧ okR (e ρ2 h) fun y h4 => mutL h4 (.ref a) = some acc ∧ acc.length < lim ∧ I (i + 1) (acc ++ [y]) (h4.set a (.lst (acc ++ [y])))) →
    (∀ acc h, I (j + xs.length) acc h → Q () h) → okR (cmpN g none e c a xs ρ h) Q
  | [], j, acc, h, i0, hc, _, hn => by
    unfold cmpN
    rw [if_pos (hc j acc h i0)]
    exact hn acc h (by simpa using i0)
  | x :: xs, j, acc, h, i0, hc, hs, hn => by
    unfold cmpN
    rw [if_pos (hc j acc h i0)]
    obtain ⟨ρ2, e2, q⟩ := hs j x acc h (Nat.le_refl _) (by simp) i0
    rw [e2]
    simp only [goC, tst, okR_bind, okR_ok, if_true, okR_nox]
    refine okR_imp q fun y h4 ⟨q1, q2, q3⟩ => ?_
    simp only [q1, putC, if_pos q2]
    exact okR_cmp I xs (j + 1) _ _ q3 hc (fun i x acc h h1 h2 => hs i x acc h (by omega) (by
      have : i - j = (i - (j + 1)) + 1 := by omega
      rw [this, List.getElem?_cons_succ]
      exact h2)) (fun acc h i1 => hn acc h (by simpa [Nat.add_assoc, Nat.add_comm 1] using i1))
theorem pyDs_all {g : D → Option PyData} {P : PyData → Prop} : ∀ {ds : List D}, (∀ d ∈ ds, ∃ p, g d = some p ∧ P p) → ∃ ps, pyDs g ds = some ps ∧ ps.length = ds.length ∧ ∀ p ∈ ps, P p
  | [], _ => ⟨[], rfl, rfl, by simp⟩
  | d :: ds, h => by
    obtain ⟨p, e, q⟩ := h d List.mem_cons_self
    obtain ⟨ps, e2, l, q2⟩ := pyDs_all (ds := ds) fun x hx => h x (List.mem_cons_of_mem _ hx)
    refine ⟨p :: ps, ?_, by simp [l], fun x hx => ?_⟩
    · unfold pyDs
      rw [e, e2]
    · rcases List.mem_cons.mp hx with rfl | z
      · exact q
      · exact q2 x z
end Am

set_option Elab.async false
set_option linter.all false
set_option maxRecDepth 100000
set_option maxHeartbeats 4000000
namespace K80
open PySem PySem.Spec PyProof.Rows L2 Am AmX
abbrev prog : Program := PySem.Challenge.pw_amidread_k80_errors
def top (i : Nat) : Stmt := prog.main.body.getD i (.Pass ⟨0, 0, 0, 0⟩)
def clB (s : Stmt) : List Stmt := match s with | .ClassDef _ _ _ b _ _ _ _ _ _ _ => b | _ => []
def ini (i : Nat) : Stmt := (clB (top i)).getD 0 (.Pass ⟨0, 0, 0, 0⟩)
theorem tx_BadFormat : XText prog (defArgs (ini 2)) (defBody (ini 2)) (defScope (ini 2)) ["part"] where
  body := ⟨_, _, _, _, _, _, _, _, _, rfl, (.cons .nil), fun env => ⟨_, rfl⟩⟩
  par := ⟨_, rfl, rfl⟩
  kind := rfl
  co := rfl
  gen := rfl
  cell := by decide +kernel
  self := rfl
  loc := by decide +kernel
  sup := rfl
  kls := rfl
  nd := by decide +kernel
  few := by decide
  top := rfl
theorem bp_BadFormat {K : PySem.W.Frag} {C f : Addr} {q : Str} {b : List Stmt} {sc : Scope} {gs : List Str} {fd : FuncData} (F : XInit prog K C f q (defArgs (ini 2)) b sc gs fd) : Bd K fd ["part"] 1 0 [0] [] := by
  obtain ⟨oc, od, osl, kV, doc, pm, an, ct, cda, cc, ccl, cdd, vs, ccs, file, tf, cl, cld, csl, rfl, _⟩ := F.ex
  intro us ws h1 h2 s x X
  match us, ws, h1, h2 with
  | [u], [], _, _ => exact .of_eq rfl
theorem bk_BadFormat {K : PySem.W.Frag} {C f : Addr} {q : Str} {b : List Stmt} {sc : Scope} {gs : List Str} {fd : FuncData} (F : XInit prog K C f q (defArgs (ini 2)) b sc gs fd) : Bd K fd ["part"] 0 1 [0] ["part"] := by
  obtain ⟨oc, od, osl, kV, doc, pm, an, ct, cda, cc, ccl, cdd, vs, ccs, file, tf, cl, cld, csl, rfl, _⟩ := F.ex
  intro us ws h1 h2 s x X
  match us, ws, h1, h2 with
  | [], [u], _, _ => exact .of_eq rfl
theorem tx_BadWord : XText prog (defArgs (ini 3)) (defBody (ini 3)) (defScope (ini 3)) ["word"] where
  body := ⟨_, _, _, _, _, _, _, _, _, rfl, (.cons .nil), fun env => ⟨_, rfl⟩⟩
  par := ⟨_, rfl, rfl⟩
  kind := rfl
  co := rfl
  gen := rfl
  cell := by decide +kernel
  self := rfl
  loc := by decide +kernel
  sup := rfl
  kls := rfl
  nd := by decide +kernel
  few := by decide
  top := rfl
theorem bp_BadWord {K : PySem.W.Frag} {C f : Addr} {q : Str} {b : List Stmt} {sc : Scope} {gs : List Str} {fd : FuncData} (F : XInit prog K C f q (defArgs (ini 3)) b sc gs fd) : Bd K fd ["word"] 1 0 [0] [] := by
  obtain ⟨oc, od, osl, kV, doc, pm, an, ct, cda, cc, ccl, cdd, vs, ccs, file, tf, cl, cld, csl, rfl, _⟩ := F.ex
  intro us ws h1 h2 s x X
  match us, ws, h1, h2 with
  | [u], [], _, _ => exact .of_eq rfl
theorem bk_BadWord {K : PySem.W.Frag} {C f : Addr} {q : Str} {b : List Stmt} {sc : Scope} {gs : List Str} {fd : FuncData} (F : XInit prog K C f q (defArgs (ini 3)) b sc gs fd) : Bd K fd ["word"] 0 1 [0] ["word"] := by
  obtain ⟨oc, od, osl, kV, doc, pm, an, ct, cda, cc, ccl, cdd, vs, ccs, file, tf, cl, cld, csl, rfl, _⟩ := F.ex
  intro us ws h1 h2 s x X
  match us, ws, h1, h2 with
  | [], [u], _, _ => exact .of_eq rfl
theorem tx_BadRecord : XText prog (defArgs (ini 4)) (defBody (ini 4)) (defScope (ini 4)) ["record"] where
  body := ⟨_, _, _, _, _, _, _, _, _, rfl, (.cons .nil), fun env => ⟨_, rfl⟩⟩
  par := ⟨_, rfl, rfl⟩
  kind := rfl
  co := rfl
  gen := rfl
  cell := by decide +kernel
  self := rfl
  loc := by decide +kernel
  sup := rfl
  kls := rfl
  nd := by decide +kernel
  few := by decide
  top := rfl
theorem bp_BadRecord {K : PySem.W.Frag} {C f : Addr} {q : Str} {b : List Stmt} {sc : Scope} {gs : List Str} {fd : FuncData} (F : XInit prog K C f q (defArgs (ini 4)) b sc gs fd) : Bd K fd ["record"] 1 0 [0] [] := by
  obtain ⟨oc, od, osl, kV, doc, pm, an, ct, cda, cc, ccl, cdd, vs, ccs, file, tf, cl, cld, csl, rfl, _⟩ := F.ex
  intro us ws h1 h2 s x X
  match us, ws, h1, h2 with
  | [u], [], _, _ => exact .of_eq rfl
theorem bk_BadRecord {K : PySem.W.Frag} {C f : Addr} {q : Str} {b : List Stmt} {sc : Scope} {gs : List Str} {fd : FuncData} (F : XInit prog K C f q (defArgs (ini 4)) b sc gs fd) : Bd K fd ["record"] 0 1 [0] ["record"] := by
  obtain ⟨oc, od, osl, kV, doc, pm, an, ct, cda, cc, ccl, cdd, vs, ccs, file, tf, cl, cld, csl, rfl, _⟩ := F.ex
  intro us ws h1 h2 s x X
  match us, ws, h1, h2 with
  | [], [u], _, _ => exact .of_eq rfl
theorem tx_InvalidText : XText prog (defArgs (ini 5)) (defBody (ini 5)) (defScope (ini 5)) ["line"] where
  body := ⟨_, _, _, _, _, _, _, _, _, rfl, (.cons .nil), fun env => ⟨_, rfl⟩⟩
  par := ⟨_, rfl, rfl⟩
  kind := rfl
  co := rfl
  gen := rfl
  cell := by decide +kernel
  self := rfl
  loc := by decide +kernel
  sup := rfl
  kls := rfl
  nd := by decide +kernel
  few := by decide
  top := rfl
theorem bp_InvalidText {K : PySem.W.Frag} {C f : Addr} {q : Str} {b : List Stmt} {sc : Scope} {gs : List Str} {fd : FuncData} (F : XInit prog K C f q (defArgs (ini 5)) b sc gs fd) : Bd K fd ["line"] 1 0 [0] [] := by
  obtain ⟨oc, od, osl, kV, doc, pm, an, ct, cda, cc, ccl, cdd, vs, ccs, file, tf, cl, cld, csl, rfl, _⟩ := F.ex
  intro us ws h1 h2 s x X
  match us, ws, h1, h2 with
  | [u], [], _, _ => exact .of_eq rfl
theorem bk_InvalidText {K : PySem.W.Frag} {C f : Addr} {q : Str} {b : List Stmt} {sc : Scope} {gs : List Str} {fd : FuncData} (F : XInit prog K C f q (defArgs (ini 5)) b sc gs fd) : Bd K fd ["line"] 0 1 [0] ["line"] := by
  obtain ⟨oc, od, osl, kV, doc, pm, an, ct, cda, cc, ccl, cdd, vs, ccs, file, tf, cl, cld, csl, rfl, _⟩ := F.ex
  intro us ws h1 h2 s x X
  match us, ws, h1, h2 with
  | [], [u], _, _ => exact .of_eq rfl
theorem tx_OtherLetters : XText prog (defArgs (ini 6)) (defBody (ini 6)) (defScope (ini 6)) [] where
  body := ⟨_, _, _, _, _, _, _, _, _, rfl, .nil, fun env => ⟨_, rfl⟩⟩
  par := ⟨_, rfl, rfl⟩
  kind := rfl
  co := rfl
  gen := rfl
  cell := by decide +kernel
  self := rfl
  loc := by decide +kernel
  sup := rfl
  kls := rfl
  nd := by decide +kernel
  few := by decide
  top := rfl
theorem bp_OtherLetters {K : PySem.W.Frag} {C f : Addr} {q : Str} {b : List Stmt} {sc : Scope} {gs : List Str} {fd : FuncData} (F : XInit prog K C f q (defArgs (ini 6)) b sc gs fd) : Bd K fd [] 0 0 [] [] := by
  obtain ⟨oc, od, osl, kV, doc, pm, an, ct, cda, cc, ccl, cdd, vs, ccs, file, tf, cl, cld, csl, rfl, _⟩ := F.ex
  intro us ws h1 h2 s x X
  match us, ws, h1, h2 with
  | [], [], _, _ => exact .of_eq rfl
theorem tx_NoReading : XText prog (defArgs (ini 7)) (defBody (ini 7)) (defScope (ini 7)) ["word"] where
  body := ⟨_, _, _, _, _, _, _, _, _, rfl, (.cons .nil), fun env => ⟨_, rfl⟩⟩
  par := ⟨_, rfl, rfl⟩
  kind := rfl
  co := rfl
  gen := rfl
  cell := by decide +kernel
  self := rfl
  loc := by decide +kernel
  sup := rfl
  kls := rfl
  nd := by decide +kernel
  few := by decide
  top := rfl
theorem bp_NoReading {K : PySem.W.Frag} {C f : Addr} {q : Str} {b : List Stmt} {sc : Scope} {gs : List Str} {fd : FuncData} (F : XInit prog K C f q (defArgs (ini 7)) b sc gs fd) : Bd K fd ["word"] 1 0 [0] [] := by
  obtain ⟨oc, od, osl, kV, doc, pm, an, ct, cda, cc, ccl, cdd, vs, ccs, file, tf, cl, cld, csl, rfl, _⟩ := F.ex
  intro us ws h1 h2 s x X
  match us, ws, h1, h2 with
  | [u], [], _, _ => exact .of_eq rfl
theorem bk_NoReading {K : PySem.W.Frag} {C f : Addr} {q : Str} {b : List Stmt} {sc : Scope} {gs : List Str} {fd : FuncData} (F : XInit prog K C f q (defArgs (ini 7)) b sc gs fd) : Bd K fd ["word"] 0 1 [0] ["word"] := by
  obtain ⟨oc, od, osl, kV, doc, pm, an, ct, cda, cc, ccl, cdd, vs, ccs, file, tf, cl, cld, csl, rfl, _⟩ := F.ex
  intro us ws h1 h2 s x X
  match us, ws, h1, h2 with
  | [], [u], _, _ => exact .of_eq rfl
theorem tx_TwoReadings : XText prog (defArgs (ini 8)) (defBody (ini 8)) (defScope (ini 8)) ["one", "other"] where
  body := ⟨_, _, _, _, _, _, _, _, _, rfl, (.cons (.cons .nil)), fun env => ⟨_, rfl⟩⟩
  par := ⟨_, rfl, rfl⟩
  kind := rfl
  co := rfl
  gen := rfl
  cell := by decide +kernel
  self := rfl
  loc := by decide +kernel
  sup := rfl
  kls := rfl
  nd := by decide +kernel
  few := by decide
  top := rfl
theorem bp_TwoReadings {K : PySem.W.Frag} {C f : Addr} {q : Str} {b : List Stmt} {sc : Scope} {gs : List Str} {fd : FuncData} (F : XInit prog K C f q (defArgs (ini 8)) b sc gs fd) : Bd K fd ["one", "other"] 2 0 [0, 1] [] := by
  obtain ⟨oc, od, osl, kV, doc, pm, an, ct, cda, cc, ccl, cdd, vs, ccs, file, tf, cl, cld, csl, rfl, _⟩ := F.ex
  intro us ws h1 h2 s x X
  match us, ws, h1, h2 with
  | [u, v], [], _, _ => exact .of_eq rfl
theorem bk_TwoReadings {K : PySem.W.Frag} {C f : Addr} {q : Str} {b : List Stmt} {sc : Scope} {gs : List Str} {fd : FuncData} (F : XInit prog K C f q (defArgs (ini 8)) b sc gs fd) : Bd K fd ["one", "other"] 0 2 [1, 0] ["other", "one"] := by
  obtain ⟨oc, od, osl, kV, doc, pm, an, ct, cda, cc, ccl, cdd, vs, ccs, file, tf, cl, cld, csl, rfl, _⟩ := F.ex
  intro us ws h1 h2 s x X
  match us, ws, h1, h2 with
  | [], [u, v], _, _ => exact .of_eq rfl
theorem tx_NotEnough : XText prog (defArgs (ini 9)) (defBody (ini 9)) (defScope (ini 9)) ["ahead", "behind"] where
  body := ⟨_, _, _, _, _, _, _, _, _, rfl, (.cons (.cons .nil)), fun env => ⟨_, rfl⟩⟩
  par := ⟨_, rfl, rfl⟩
  kind := rfl
  co := rfl
  gen := rfl
  cell := by decide +kernel
  self := rfl
  loc := by decide +kernel
  sup := rfl
  kls := rfl
  nd := by decide +kernel
  few := by decide
  top := rfl
theorem bp_NotEnough {K : PySem.W.Frag} {C f : Addr} {q : Str} {b : List Stmt} {sc : Scope} {gs : List Str} {fd : FuncData} (F : XInit prog K C f q (defArgs (ini 9)) b sc gs fd) : Bd K fd ["ahead", "behind"] 2 0 [0, 1] [] := by
  obtain ⟨oc, od, osl, kV, doc, pm, an, ct, cda, cc, ccl, cdd, vs, ccs, file, tf, cl, cld, csl, rfl, _⟩ := F.ex
  intro us ws h1 h2 s x X
  match us, ws, h1, h2 with
  | [u, v], [], _, _ => exact .of_eq rfl
theorem bk_NotEnough {K : PySem.W.Frag} {C f : Addr} {q : Str} {b : List Stmt} {sc : Scope} {gs : List Str} {fd : FuncData} (F : XInit prog K C f q (defArgs (ini 9)) b sc gs fd) : Bd K fd ["ahead", "behind"] 0 2 [1, 0] ["behind", "ahead"] := by
  obtain ⟨oc, od, osl, kV, doc, pm, an, ct, cda, cc, ccl, cdd, vs, ccs, file, tf, cl, cld, csl, rfl, _⟩ := F.ex
  intro us ws h1 h2 s x X
  match us, ws, h1, h2 with
  | [], [u, v], _, _ => exact .of_eq rfl
theorem tx_NotSure : XText prog (defArgs (ini 10)) (defBody (ini 10)) (defScope (ini 10)) ["place"] where
  body := ⟨_, _, _, _, _, _, _, _, _, rfl, (.cons .nil), fun env => ⟨_, rfl⟩⟩
  par := ⟨_, rfl, rfl⟩
  kind := rfl
  co := rfl
  gen := rfl
  cell := by decide +kernel
  self := rfl
  loc := by decide +kernel
  sup := rfl
  kls := rfl
  nd := by decide +kernel
  few := by decide
  top := rfl
theorem bp_NotSure {K : PySem.W.Frag} {C f : Addr} {q : Str} {b : List Stmt} {sc : Scope} {gs : List Str} {fd : FuncData} (F : XInit prog K C f q (defArgs (ini 10)) b sc gs fd) : Bd K fd ["place"] 1 0 [0] [] := by
  obtain ⟨oc, od, osl, kV, doc, pm, an, ct, cda, cc, ccl, cdd, vs, ccs, file, tf, cl, cld, csl, rfl, _⟩ := F.ex
  intro us ws h1 h2 s x X
  match us, ws, h1, h2 with
  | [u], [], _, _ => exact .of_eq rfl
theorem bk_NotSure {K : PySem.W.Frag} {C f : Addr} {q : Str} {b : List Stmt} {sc : Scope} {gs : List Str} {fd : FuncData} (F : XInit prog K C f q (defArgs (ini 10)) b sc gs fd) : Bd K fd ["place"] 0 1 [0] ["place"] := by
  obtain ⟨oc, od, osl, kV, doc, pm, an, ct, cda, cc, ccl, cdd, vs, ccs, file, tf, cl, cld, csl, rfl, _⟩ := F.ex
  intro us ws h1 h2 s x X
  match us, ws, h1, h2 with
  | [], [u], _, _ => exact .of_eq rfl
theorem tx_NoBook : XText prog (defArgs (ini 11)) (defBody (ini 11)) (defScope (ini 11)) ["length"] where
  body := ⟨_, _, _, _, _, _, _, _, _, rfl, (.cons .nil), fun env => ⟨_, rfl⟩⟩
  par := ⟨_, rfl, rfl⟩
  kind := rfl
  co := rfl
  gen := rfl
  cell := by decide +kernel
  self := rfl
  loc := by decide +kernel
  sup := rfl
  kls := rfl
  nd := by decide +kernel
  few := by decide
  top := rfl
theorem bp_NoBook {K : PySem.W.Frag} {C f : Addr} {q : Str} {b : List Stmt} {sc : Scope} {gs : List Str} {fd : FuncData} (F : XInit prog K C f q (defArgs (ini 11)) b sc gs fd) : Bd K fd ["length"] 1 0 [0] [] := by
  obtain ⟨oc, od, osl, kV, doc, pm, an, ct, cda, cc, ccl, cdd, vs, ccs, file, tf, cl, cld, csl, rfl, _⟩ := F.ex
  intro us ws h1 h2 s x X
  match us, ws, h1, h2 with
  | [u], [], _, _ => exact .of_eq rfl
theorem bk_NoBook {K : PySem.W.Frag} {C f : Addr} {q : Str} {b : List Stmt} {sc : Scope} {gs : List Str} {fd : FuncData} (F : XInit prog K C f q (defArgs (ini 11)) b sc gs fd) : Bd K fd ["length"] 0 1 [0] ["length"] := by
  obtain ⟨oc, od, osl, kV, doc, pm, an, ct, cda, cc, ccl, cdd, vs, ccs, file, tf, cl, cld, csl, rfl, _⟩ := F.ex
  intro us ws h1 h2 s x X
  match us, ws, h1, h2 with
  | [], [u], _, _ => exact .of_eq rfl
theorem tx_EvenLength : XText prog (defArgs (ini 12)) (defBody (ini 12)) (defScope (ini 12)) ["length"] where
  body := ⟨_, _, _, _, _, _, _, _, _, rfl, (.cons .nil), fun env => ⟨_, rfl⟩⟩
  par := ⟨_, rfl, rfl⟩
  kind := rfl
  co := rfl
  gen := rfl
  cell := by decide +kernel
  self := rfl
  loc := by decide +kernel
  sup := rfl
  kls := rfl
  nd := by decide +kernel
  few := by decide
  top := rfl
theorem bp_EvenLength {K : PySem.W.Frag} {C f : Addr} {q : Str} {b : List Stmt} {sc : Scope} {gs : List Str} {fd : FuncData} (F : XInit prog K C f q (defArgs (ini 12)) b sc gs fd) : Bd K fd ["length"] 1 0 [0] [] := by
  obtain ⟨oc, od, osl, kV, doc, pm, an, ct, cda, cc, ccl, cdd, vs, ccs, file, tf, cl, cld, csl, rfl, _⟩ := F.ex
  intro us ws h1 h2 s x X
  match us, ws, h1, h2 with
  | [u], [], _, _ => exact .of_eq rfl
theorem bk_EvenLength {K : PySem.W.Frag} {C f : Addr} {q : Str} {b : List Stmt} {sc : Scope} {gs : List Str} {fd : FuncData} (F : XInit prog K C f q (defArgs (ini 12)) b sc gs fd) : Bd K fd ["length"] 0 1 [0] ["length"] := by
  obtain ⟨oc, od, osl, kV, doc, pm, an, ct, cda, cc, ccl, cdd, vs, ccs, file, tf, cl, cld, csl, rfl, _⟩ := F.ex
  intro us ws h1 h2 s x X
  match us, ws, h1, h2 with
  | [], [u], _, _ => exact .of_eq rfl
theorem tx_NameTaken : XText prog (defArgs (ini 13)) (defBody (ini 13)) (defScope (ini 13)) ["name"] where
  body := ⟨_, _, _, _, _, _, _, _, _, rfl, (.cons .nil), fun env => ⟨_, rfl⟩⟩
  par := ⟨_, rfl, rfl⟩
  kind := rfl
  co := rfl
  gen := rfl
  cell := by decide +kernel
  self := rfl
  loc := by decide +kernel
  sup := rfl
  kls := rfl
  nd := by decide +kernel
  few := by decide
  top := rfl
theorem bp_NameTaken {K : PySem.W.Frag} {C f : Addr} {q : Str} {b : List Stmt} {sc : Scope} {gs : List Str} {fd : FuncData} (F : XInit prog K C f q (defArgs (ini 13)) b sc gs fd) : Bd K fd ["name"] 1 0 [0] [] := by
  obtain ⟨oc, od, osl, kV, doc, pm, an, ct, cda, cc, ccl, cdd, vs, ccs, file, tf, cl, cld, csl, rfl, _⟩ := F.ex
  intro us ws h1 h2 s x X
  match us, ws, h1, h2 with
  | [u], [], _, _ => exact .of_eq rfl
theorem bk_NameTaken {K : PySem.W.Frag} {C f : Addr} {q : Str} {b : List Stmt} {sc : Scope} {gs : List Str} {fd : FuncData} (F : XInit prog K C f q (defArgs (ini 13)) b sc gs fd) : Bd K fd ["name"] 0 1 [0] ["name"] := by
  obtain ⟨oc, od, osl, kV, doc, pm, an, ct, cda, cc, ccl, cdd, vs, ccs, file, tf, cl, cld, csl, rfl, _⟩ := F.ex
  intro us ws h1 h2 s x X
  match us, ws, h1, h2 with
  | [], [u], _, _ => exact .of_eq rfl
theorem tx_UnknownName : XText prog (defArgs (ini 14)) (defBody (ini 14)) (defScope (ini 14)) ["name"] where
  body := ⟨_, _, _, _, _, _, _, _, _, rfl, (.cons .nil), fun env => ⟨_, rfl⟩⟩
  par := ⟨_, rfl, rfl⟩
  kind := rfl
  co := rfl
  gen := rfl
  cell := by decide +kernel
  self := rfl
  loc := by decide +kernel
  sup := rfl
  kls := rfl
  nd := by decide +kernel
  few := by decide
  top := rfl
theorem bp_UnknownName {K : PySem.W.Frag} {C f : Addr} {q : Str} {b : List Stmt} {sc : Scope} {gs : List Str} {fd : FuncData} (F : XInit prog K C f q (defArgs (ini 14)) b sc gs fd) : Bd K fd ["name"] 1 0 [0] [] := by
  obtain ⟨oc, od, osl, kV, doc, pm, an, ct, cda, cc, ccl, cdd, vs, ccs, file, tf, cl, cld, csl, rfl, _⟩ := F.ex
  intro us ws h1 h2 s x X
  match us, ws, h1, h2 with
  | [u], [], _, _ => exact .of_eq rfl
theorem bk_UnknownName {K : PySem.W.Frag} {C f : Addr} {q : Str} {b : List Stmt} {sc : Scope} {gs : List Str} {fd : FuncData} (F : XInit prog K C f q (defArgs (ini 14)) b sc gs fd) : Bd K fd ["name"] 0 1 [0] ["name"] := by
  obtain ⟨oc, od, osl, kV, doc, pm, an, ct, cda, cc, ccl, cdd, vs, ccs, file, tf, cl, cld, csl, rfl, _⟩ := F.ex
  intro us ws h1 h2 s x X
  match us, ws, h1, h2 with
  | [], [u], _, _ => exact .of_eq rfl
def xsE : List String := ["ReadError", "BadFormat", "BadWord", "BadRecord", "InvalidText", "OtherLetters", "NoReading", "TwoReadings", "NotEnough", "NotSure", "NoBook", "EvenLength", "NameTaken", "UnknownName"]
def xsR : List String := ["ReadError", "BadFormat", "BadWord", "BadRecord", "InvalidText", "OtherLetters", "NoReading", "TwoReadings", "NotEnough", "NotSure", "NoBook", "EvenLength", "NameTaken", "UnknownName"]
def tbF : List (String × String) := [("BadFormat", "part"), ("BadWord", "word"), ("BadRecord", "record"), ("InvalidText", "line"), ("NoReading", "word"), ("TwoReadings", "one"), ("TwoReadings", "other"), ("NotEnough", "ahead"), ("NotEnough", "behind"), ("NotSure", "place"), ("NoBook", "length"), ("EvenLength", "length"), ("NameTaken", "name"), ("UnknownName", "name")]
def tbC : Tb := [((.own "ReadError", .own "ReadError"), true),
  ((.own "ReadError", .own "BadFormat"), false),
  ((.own "ReadError", .own "BadWord"), false),
  ((.own "ReadError", .own "BadRecord"), false),
  ((.own "ReadError", .own "InvalidText"), false),
  ((.own "ReadError", .own "OtherLetters"), false),
  ((.own "ReadError", .own "NoReading"), false),
  ((.own "ReadError", .own "TwoReadings"), false),
  ((.own "ReadError", .own "NotEnough"), false),
  ((.own "ReadError", .own "NotSure"), false),
  ((.own "ReadError", .own "NoBook"), false),
  ((.own "ReadError", .own "EvenLength"), false),
  ((.own "ReadError", .own "NameTaken"), false),
  ((.own "ReadError", .own "UnknownName"), false),
  ((.own "ReadError", .ty "Exception"), true),
  ((.own "ReadError", .ty "ValueError"), false),
  ((.own "ReadError", .ty "LookupError"), false),
  ((.own "ReadError", .ty "ArithmeticError"), false),
  ((.own "ReadError", .ty "TypeError"), false),
  ((.own "ReadError", .ty "RuntimeError"), false),
  ((.own "ReadError", .ty "AttributeError"), false),
  ((.own "ReadError", .ty "KeyError"), false),
  ((.own "BadFormat", .own "ReadError"), true),
  ((.own "BadFormat", .own "BadFormat"), true),
  ((.own "BadFormat", .own "BadWord"), false),
  ((.own "BadFormat", .own "BadRecord"), false),
  ((.own "BadFormat", .own "InvalidText"), false),
  ((.own "BadFormat", .own "OtherLetters"), false),
  ((.own "BadFormat", .own "NoReading"), false),
  ((.own "BadFormat", .own "TwoReadings"), false),
  ((.own "BadFormat", .own "NotEnough"), false),
  ((.own "BadFormat", .own "NotSure"), false),
  ((.own "BadFormat", .own "NoBook"), false),
  ((.own "BadFormat", .own "EvenLength"), false),
  ((.own "BadFormat", .own "NameTaken"), false),
  ((.own "BadFormat", .own "UnknownName"), false),
  ((.own "BadFormat", .ty "Exception"), true),
  ((.own "BadFormat", .ty "ValueError"), false),
  ((.own "BadFormat", .ty "LookupError"), false),
  ((.own "BadFormat", .ty "ArithmeticError"), false),
  ((.own "BadFormat", .ty "TypeError"), false),
  ((.own "BadFormat", .ty "RuntimeError"), false),
  ((.own "BadFormat", .ty "AttributeError"), false),
  ((.own "BadFormat", .ty "KeyError"), false),
  ((.own "BadWord", .own "ReadError"), true),
  ((.own "BadWord", .own "BadFormat"), false),
  ((.own "BadWord", .own "BadWord"), true),
  ((.own "BadWord", .own "BadRecord"), false),
  ((.own "BadWord", .own "InvalidText"), false),
  ((.own "BadWord", .own "OtherLetters"), false),
  ((.own "BadWord", .own "NoReading"), false),
  ((.own "BadWord", .own "TwoReadings"), false),
  ((.own "BadWord", .own "NotEnough"), false),
  ((.own "BadWord", .own "NotSure"), false),
  ((.own "BadWord", .own "NoBook"), false),
  ((.own "BadWord", .own "EvenLength"), false),
  ((.own "BadWord", .own "NameTaken"), false),
  ((.own "BadWord", .own "UnknownName"), false),
  ((.own "BadWord", .ty "Exception"), true),
  ((.own "BadWord", .ty "ValueError"), false),
  ((.own "BadWord", .ty "LookupError"), false),
  ((.own "BadWord", .ty "ArithmeticError"), false),
  ((.own "BadWord", .ty "TypeError"), false),
  ((.own "BadWord", .ty "RuntimeError"), false),
  ((.own "BadWord", .ty "AttributeError"), false),
  ((.own "BadWord", .ty "KeyError"), false),
  ((.own "BadRecord", .own "ReadError"), true),
  ((.own "BadRecord", .own "BadFormat"), false),
  ((.own "BadRecord", .own "BadWord"), false),
  ((.own "BadRecord", .own "BadRecord"), true),
  ((.own "BadRecord", .own "InvalidText"), false),
  ((.own "BadRecord", .own "OtherLetters"), false),
  ((.own "BadRecord", .own "NoReading"), false),
  ((.own "BadRecord", .own "TwoReadings"), false),
  ((.own "BadRecord", .own "NotEnough"), false),
  ((.own "BadRecord", .own "NotSure"), false),
  ((.own "BadRecord", .own "NoBook"), false),
  ((.own "BadRecord", .own "EvenLength"), false),
  ((.own "BadRecord", .own "NameTaken"), false),
  ((.own "BadRecord", .own "UnknownName"), false),
  ((.own "BadRecord", .ty "Exception"), true),
  ((.own "BadRecord", .ty "ValueError"), false),
  ((.own "BadRecord", .ty "LookupError"), false),
  ((.own "BadRecord", .ty "ArithmeticError"), false),
  ((.own "BadRecord", .ty "TypeError"), false),
  ((.own "BadRecord", .ty "RuntimeError"), false),
  ((.own "BadRecord", .ty "AttributeError"), false),
  ((.own "BadRecord", .ty "KeyError"), false),
  ((.own "InvalidText", .own "ReadError"), true),
  ((.own "InvalidText", .own "BadFormat"), false),
  ((.own "InvalidText", .own "BadWord"), false),
  ((.own "InvalidText", .own "BadRecord"), false),
  ((.own "InvalidText", .own "InvalidText"), true),
  ((.own "InvalidText", .own "OtherLetters"), false),
  ((.own "InvalidText", .own "NoReading"), false),
  ((.own "InvalidText", .own "TwoReadings"), false),
  ((.own "InvalidText", .own "NotEnough"), false),
  ((.own "InvalidText", .own "NotSure"), false),
  ((.own "InvalidText", .own "NoBook"), false),
  ((.own "InvalidText", .own "EvenLength"), false),
  ((.own "InvalidText", .own "NameTaken"), false),
  ((.own "InvalidText", .own "UnknownName"), false),
  ((.own "InvalidText", .ty "Exception"), true),
  ((.own "InvalidText", .ty "ValueError"), false),
  ((.own "InvalidText", .ty "LookupError"), false),
  ((.own "InvalidText", .ty "ArithmeticError"), false),
  ((.own "InvalidText", .ty "TypeError"), false),
  ((.own "InvalidText", .ty "RuntimeError"), false),
  ((.own "InvalidText", .ty "AttributeError"), false),
  ((.own "InvalidText", .ty "KeyError"), false),
  ((.own "OtherLetters", .own "ReadError"), true),
  ((.own "OtherLetters", .own "BadFormat"), false),
  ((.own "OtherLetters", .own "BadWord"), false),
  ((.own "OtherLetters", .own "BadRecord"), false),
  ((.own "OtherLetters", .own "InvalidText"), false),
  ((.own "OtherLetters", .own "OtherLetters"), true),
  ((.own "OtherLetters", .own "NoReading"), false),
  ((.own "OtherLetters", .own "TwoReadings"), false),
  ((.own "OtherLetters", .own "NotEnough"), false),
  ((.own "OtherLetters", .own "NotSure"), false),
  ((.own "OtherLetters", .own "NoBook"), false),
  ((.own "OtherLetters", .own "EvenLength"), false),
  ((.own "OtherLetters", .own "NameTaken"), false),
  ((.own "OtherLetters", .own "UnknownName"), false),
  ((.own "OtherLetters", .ty "Exception"), true),
  ((.own "OtherLetters", .ty "ValueError"), false),
  ((.own "OtherLetters", .ty "LookupError"), false),
  ((.own "OtherLetters", .ty "ArithmeticError"), false),
  ((.own "OtherLetters", .ty "TypeError"), false),
  ((.own "OtherLetters", .ty "RuntimeError"), false),
  ((.own "OtherLetters", .ty "AttributeError"), false),
  ((.own "OtherLetters", .ty "KeyError"), false),
  ((.own "NoReading", .own "ReadError"), true),
  ((.own "NoReading", .own "BadFormat"), false),
  ((.own "NoReading", .own "BadWord"), false),
  ((.own "NoReading", .own "BadRecord"), false),
  ((.own "NoReading", .own "InvalidText"), false),
  ((.own "NoReading", .own "OtherLetters"), false),
  ((.own "NoReading", .own "NoReading"), true),
  ((.own "NoReading", .own "TwoReadings"), false),
  ((.own "NoReading", .own "NotEnough"), false),
  ((.own "NoReading", .own "NotSure"), false),
  ((.own "NoReading", .own "NoBook"), false),
  ((.own "NoReading", .own "EvenLength"), false),
  ((.own "NoReading", .own "NameTaken"), false),
  ((.own "NoReading", .own "UnknownName"), false),
  ((.own "NoReading", .ty "Exception"), true),
  ((.own "NoReading", .ty "ValueError"), false),
  ((.own "NoReading", .ty "LookupError"), false),
  ((.own "NoReading", .ty "ArithmeticError"), false),
  ((.own "NoReading", .ty "TypeError"), false),
  ((.own "NoReading", .ty "RuntimeError"), false),
  ((.own "NoReading", .ty "AttributeError"), false),
  ((.own "NoReading", .ty "KeyError"), false),
  ((.own "TwoReadings", .own "ReadError"), true),
  ((.own "TwoReadings", .own "BadFormat"), false),
  ((.own "TwoReadings", .own "BadWord"), false),
  ((.own "TwoReadings", .own "BadRecord"), false),
  ((.own "TwoReadings", .own "InvalidText"), false),
  ((.own "TwoReadings", .own "OtherLetters"), false),
  ((.own "TwoReadings", .own "NoReading"), false),
  ((.own "TwoReadings", .own "TwoReadings"), true),
  ((.own "TwoReadings", .own "NotEnough"), false),
  ((.own "TwoReadings", .own "NotSure"), false),
  ((.own "TwoReadings", .own "NoBook"), false),
  ((.own "TwoReadings", .own "EvenLength"), false),
  ((.own "TwoReadings", .own "NameTaken"), false),
  ((.own "TwoReadings", .own "UnknownName"), false),
  ((.own "TwoReadings", .ty "Exception"), true),
  ((.own "TwoReadings", .ty "ValueError"), false),
  ((.own "TwoReadings", .ty "LookupError"), false),
  ((.own "TwoReadings", .ty "ArithmeticError"), false),
  ((.own "TwoReadings", .ty "TypeError"), false),
  ((.own "TwoReadings", .ty "RuntimeError"), false),
  ((.own "TwoReadings", .ty "AttributeError"), false),
  ((.own "TwoReadings", .ty "KeyError"), false),
  ((.own "NotEnough", .own "ReadError"), true),
  ((.own "NotEnough", .own "BadFormat"), false),
  ((.own "NotEnough", .own "BadWord"), false),
  ((.own "NotEnough", .own "BadRecord"), false),
  ((.own "NotEnough", .own "InvalidText"), false),
  ((.own "NotEnough", .own "OtherLetters"), false),
  ((.own "NotEnough", .own "NoReading"), false),
  ((.own "NotEnough", .own "TwoReadings"), false),
  ((.own "NotEnough", .own "NotEnough"), true),
  ((.own "NotEnough", .own "NotSure"), false),
  ((.own "NotEnough", .own "NoBook"), false),
  ((.own "NotEnough", .own "EvenLength"), false),
  ((.own "NotEnough", .own "NameTaken"), false),
  ((.own "NotEnough", .own "UnknownName"), false),
  ((.own "NotEnough", .ty "Exception"), true),
  ((.own "NotEnough", .ty "ValueError"), false),
  ((.own "NotEnough", .ty "LookupError"), false),
  ((.own "NotEnough", .ty "ArithmeticError"), false),
  ((.own "NotEnough", .ty "TypeError"), false),
  ((.own "NotEnough", .ty "RuntimeError"), false),
  ((.own "NotEnough", .ty "AttributeError"), false),
  ((.own "NotEnough", .ty "KeyError"), false),
  ((.own "NotSure", .own "ReadError"), true),
  ((.own "NotSure", .own "BadFormat"), false),
  ((.own "NotSure", .own "BadWord"), false),
  ((.own "NotSure", .own "BadRecord"), false),
  ((.own "NotSure", .own "InvalidText"), false),
  ((.own "NotSure", .own "OtherLetters"), false),
  ((.own "NotSure", .own "NoReading"), false),
  ((.own "NotSure", .own "TwoReadings"), false),
  ((.own "NotSure", .own "NotEnough"), false),
  ((.own "NotSure", .own "NotSure"), true),
  ((.own "NotSure", .own "NoBook"), false),
  ((.own "NotSure", .own "EvenLength"), false),
  ((.own "NotSure", .own "NameTaken"), false),
  ((.own "NotSure", .own "UnknownName"), false),
  ((.own "NotSure", .ty "Exception"), true),
  ((.own "NotSure", .ty "ValueError"), false),
  ((.own "NotSure", .ty "LookupError"), false),
  ((.own "NotSure", .ty "ArithmeticError"), false),
  ((.own "NotSure", .ty "TypeError"), false),
  ((.own "NotSure", .ty "RuntimeError"), false),
  ((.own "NotSure", .ty "AttributeError"), false),
  ((.own "NotSure", .ty "KeyError"), false),
  ((.own "NoBook", .own "ReadError"), true),
  ((.own "NoBook", .own "BadFormat"), false),
  ((.own "NoBook", .own "BadWord"), false),
  ((.own "NoBook", .own "BadRecord"), false),
  ((.own "NoBook", .own "InvalidText"), false),
  ((.own "NoBook", .own "OtherLetters"), false),
  ((.own "NoBook", .own "NoReading"), false),
  ((.own "NoBook", .own "TwoReadings"), false),
  ((.own "NoBook", .own "NotEnough"), false),
  ((.own "NoBook", .own "NotSure"), false),
  ((.own "NoBook", .own "NoBook"), true),
  ((.own "NoBook", .own "EvenLength"), false),
  ((.own "NoBook", .own "NameTaken"), false),
  ((.own "NoBook", .own "UnknownName"), false),
  ((.own "NoBook", .ty "Exception"), true),
  ((.own "NoBook", .ty "ValueError"), false),
  ((.own "NoBook", .ty "LookupError"), false),
  ((.own "NoBook", .ty "ArithmeticError"), false),
  ((.own "NoBook", .ty "TypeError"), false),
  ((.own "NoBook", .ty "RuntimeError"), false),
  ((.own "NoBook", .ty "AttributeError"), false),
  ((.own "NoBook", .ty "KeyError"), false),
  ((.own "EvenLength", .own "ReadError"), true),
  ((.own "EvenLength", .own "BadFormat"), false),
  ((.own "EvenLength", .own "BadWord"), false),
  ((.own "EvenLength", .own "BadRecord"), false),
  ((.own "EvenLength", .own "InvalidText"), false),
  ((.own "EvenLength", .own "OtherLetters"), false),
  ((.own "EvenLength", .own "NoReading"), false),
  ((.own "EvenLength", .own "TwoReadings"), false),
  ((.own "EvenLength", .own "NotEnough"), false),
  ((.own "EvenLength", .own "NotSure"), false),
  ((.own "EvenLength", .own "NoBook"), false),
  ((.own "EvenLength", .own "EvenLength"), true),
  ((.own "EvenLength", .own "NameTaken"), false),
  ((.own "EvenLength", .own "UnknownName"), false),
  ((.own "EvenLength", .ty "Exception"), true),
  ((.own "EvenLength", .ty "ValueError"), false),
  ((.own "EvenLength", .ty "LookupError"), false),
  ((.own "EvenLength", .ty "ArithmeticError"), false),
  ((.own "EvenLength", .ty "TypeError"), false),
  ((.own "EvenLength", .ty "RuntimeError"), false),
  ((.own "EvenLength", .ty "AttributeError"), false),
  ((.own "EvenLength", .ty "KeyError"), false),
  ((.own "NameTaken", .own "ReadError"), true),
  ((.own "NameTaken", .own "BadFormat"), false),
  ((.own "NameTaken", .own "BadWord"), false),
  ((.own "NameTaken", .own "BadRecord"), false),
  ((.own "NameTaken", .own "InvalidText"), false),
  ((.own "NameTaken", .own "OtherLetters"), false),
  ((.own "NameTaken", .own "NoReading"), false),
  ((.own "NameTaken", .own "TwoReadings"), false),
  ((.own "NameTaken", .own "NotEnough"), false),
  ((.own "NameTaken", .own "NotSure"), false),
  ((.own "NameTaken", .own "NoBook"), false),
  ((.own "NameTaken", .own "EvenLength"), false),
  ((.own "NameTaken", .own "NameTaken"), true),
  ((.own "NameTaken", .own "UnknownName"), false),
  ((.own "NameTaken", .ty "Exception"), true),
  ((.own "NameTaken", .ty "ValueError"), false),
  ((.own "NameTaken", .ty "LookupError"), false),
  ((.own "NameTaken", .ty "ArithmeticError"), false),
  ((.own "NameTaken", .ty "TypeError"), false),
  ((.own "NameTaken", .ty "RuntimeError"), false),
  ((.own "NameTaken", .ty "AttributeError"), false),
  ((.own "NameTaken", .ty "KeyError"), false),
  ((.own "UnknownName", .own "ReadError"), true),
  ((.own "UnknownName", .own "BadFormat"), false),
  ((.own "UnknownName", .own "BadWord"), false),
  ((.own "UnknownName", .own "BadRecord"), false),
  ((.own "UnknownName", .own "InvalidText"), false),
  ((.own "UnknownName", .own "OtherLetters"), false),
  ((.own "UnknownName", .own "NoReading"), false),
  ((.own "UnknownName", .own "TwoReadings"), false),
  ((.own "UnknownName", .own "NotEnough"), false),
  ((.own "UnknownName", .own "NotSure"), false),
  ((.own "UnknownName", .own "NoBook"), false),
  ((.own "UnknownName", .own "EvenLength"), false),
  ((.own "UnknownName", .own "NameTaken"), false),
  ((.own "UnknownName", .own "UnknownName"), true),
  ((.own "UnknownName", .ty "Exception"), true),
  ((.own "UnknownName", .ty "ValueError"), false),
  ((.own "UnknownName", .ty "LookupError"), false),
  ((.own "UnknownName", .ty "ArithmeticError"), false),
  ((.own "UnknownName", .ty "TypeError"), false),
  ((.own "UnknownName", .ty "RuntimeError"), false),
  ((.own "UnknownName", .ty "AttributeError"), false),
  ((.own "UnknownName", .ty "KeyError"), false)]
structure HX (w : World) (K : PySem.W.Frag) (mg : Str → Option Value) (base : Heap) (iA : String → Addr) (iD : String → FuncData) : Prop where
  len_ : mg "len" = none
  int_ : mg "int" = none
  list_ : mg "list" = none
  tuple_ : mg "tuple" = none
  range_ : mg "range" = none
  repr_ : mg "repr" = none
  isinstance_ : mg "isinstance" = none
  f_Exception : mg (Str.ofString "Exception") = none
  f_ValueError : mg (Str.ofString "ValueError") = none
  f_LookupError : mg (Str.ofString "LookupError") = none
  f_ArithmeticError : mg (Str.ofString "ArithmeticError") = none
  f_TypeError : mg (Str.ofString "TypeError") = none
  f_RuntimeError : mg (Str.ofString "RuntimeError") = none
  f_AttributeError : mg (Str.ofString "AttributeError") = none
  f_KeyError : mg (Str.ofString "KeyError") = none
  m_ReadError : mg (Str.ofString "ReadError") = some (.ref (cla K "ReadError"))
  m_BadFormat : mg (Str.ofString "BadFormat") = some (.ref (cla K "BadFormat"))
  c_BadFormat : Xc prog w K mg base "BadFormat" ["part"] (iA "BadFormat") (iD "BadFormat")
  bp_BadFormat : Bd K (iD "BadFormat") ["part"] 1 0 [0] []
  bk_BadFormat : Bd K (iD "BadFormat") ["part"] 0 1 [0] ["part"]
  m_BadWord : mg (Str.ofString "BadWord") = some (.ref (cla K "BadWord"))
  c_BadWord : Xc prog w K mg base "BadWord" ["word"] (iA "BadWord") (iD "BadWord")
  bp_BadWord : Bd K (iD "BadWord") ["word"] 1 0 [0] []
  bk_BadWord : Bd K (iD "BadWord") ["word"] 0 1 [0] ["word"]
  m_BadRecord : mg (Str.ofString "BadRecord") = some (.ref (cla K "BadRecord"))
  c_BadRecord : Xc prog w K mg base "BadRecord" ["record"] (iA "BadRecord") (iD "BadRecord")
  bp_BadRecord : Bd K (iD "BadRecord") ["record"] 1 0 [0] []
  bk_BadRecord : Bd K (iD "BadRecord") ["record"] 0 1 [0] ["record"]
  m_InvalidText : mg (Str.ofString "InvalidText") = some (.ref (cla K "InvalidText"))
  c_InvalidText : Xc prog w K mg base "InvalidText" ["line"] (iA "InvalidText") (iD "InvalidText")
  bp_InvalidText : Bd K (iD "InvalidText") ["line"] 1 0 [0] []
  bk_InvalidText : Bd K (iD "InvalidText") ["line"] 0 1 [0] ["line"]
  m_OtherLetters : mg (Str.ofString "OtherLetters") = some (.ref (cla K "OtherLetters"))
  c_OtherLetters : Xc prog w K mg base "OtherLetters" [] (iA "OtherLetters") (iD "OtherLetters")
  bp_OtherLetters : Bd K (iD "OtherLetters") [] 0 0 [] []
  m_NoReading : mg (Str.ofString "NoReading") = some (.ref (cla K "NoReading"))
  c_NoReading : Xc prog w K mg base "NoReading" ["word"] (iA "NoReading") (iD "NoReading")
  bp_NoReading : Bd K (iD "NoReading") ["word"] 1 0 [0] []
  bk_NoReading : Bd K (iD "NoReading") ["word"] 0 1 [0] ["word"]
  m_TwoReadings : mg (Str.ofString "TwoReadings") = some (.ref (cla K "TwoReadings"))
  c_TwoReadings : Xc prog w K mg base "TwoReadings" ["one", "other"] (iA "TwoReadings") (iD "TwoReadings")
  bp_TwoReadings : Bd K (iD "TwoReadings") ["one", "other"] 2 0 [0, 1] []
  bk_TwoReadings : Bd K (iD "TwoReadings") ["one", "other"] 0 2 [1, 0] ["other", "one"]
  m_NotEnough : mg (Str.ofString "NotEnough") = some (.ref (cla K "NotEnough"))
  c_NotEnough : Xc prog w K mg base "NotEnough" ["ahead", "behind"] (iA "NotEnough") (iD "NotEnough")
  bp_NotEnough : Bd K (iD "NotEnough") ["ahead", "behind"] 2 0 [0, 1] []
  bk_NotEnough : Bd K (iD "NotEnough") ["ahead", "behind"] 0 2 [1, 0] ["behind", "ahead"]
  m_NotSure : mg (Str.ofString "NotSure") = some (.ref (cla K "NotSure"))
  c_NotSure : Xc prog w K mg base "NotSure" ["place"] (iA "NotSure") (iD "NotSure")
  bp_NotSure : Bd K (iD "NotSure") ["place"] 1 0 [0] []
  bk_NotSure : Bd K (iD "NotSure") ["place"] 0 1 [0] ["place"]
  m_NoBook : mg (Str.ofString "NoBook") = some (.ref (cla K "NoBook"))
  c_NoBook : Xc prog w K mg base "NoBook" ["length"] (iA "NoBook") (iD "NoBook")
  bp_NoBook : Bd K (iD "NoBook") ["length"] 1 0 [0] []
  bk_NoBook : Bd K (iD "NoBook") ["length"] 0 1 [0] ["length"]
  m_EvenLength : mg (Str.ofString "EvenLength") = some (.ref (cla K "EvenLength"))
  c_EvenLength : Xc prog w K mg base "EvenLength" ["length"] (iA "EvenLength") (iD "EvenLength")
  bp_EvenLength : Bd K (iD "EvenLength") ["length"] 1 0 [0] []
  bk_EvenLength : Bd K (iD "EvenLength") ["length"] 0 1 [0] ["length"]
  m_NameTaken : mg (Str.ofString "NameTaken") = some (.ref (cla K "NameTaken"))
  c_NameTaken : Xc prog w K mg base "NameTaken" ["name"] (iA "NameTaken") (iD "NameTaken")
  bp_NameTaken : Bd K (iD "NameTaken") ["name"] 1 0 [0] []
  bk_NameTaken : Bd K (iD "NameTaken") ["name"] 0 1 [0] ["name"]
  m_UnknownName : mg (Str.ofString "UnknownName") = some (.ref (cla K "UnknownName"))
  c_UnknownName : Xc prog w K mg base "UnknownName" ["name"] (iA "UnknownName") (iD "UnknownName")
  bp_UnknownName : Bd K (iD "UnknownName") ["name"] 1 0 [0] []
  bk_UnknownName : Bd K (iD "UnknownName") ["name"] 0 1 [0] ["name"]
  e_ReadError : PySem.W.excIn K (cla K "ReadError") PySem.ESX.exTail "Exception.__new__" = true
  k_ReadError : PySem.W.keepIn K (.ref (cla K "ReadError")) = true
  xsE_ : ∀ c ∈ xsE, xcB K c = true
  tbC_ : ktB K tbC = true
  tbF_ : ∀ p ∈ tbF, xaB K p = true
  exB_ : exB K "ReadError" xsR = true
  sys_ : ∃ o, base.get? sysModules = some o
end K80

set_option Elab.async false
set_option linter.all false
set_option maxRecDepth 100000
set_option maxHeartbeats 4000000
namespace K80
open PySem PySem.Spec PyProof.Rows L2 Am AmX
def N_deck : List Str := ["_law_script", "_law_heap", "_law_mixed", "_law_item"]
theorem sc_deck : FnScope N_deck ["_law_script"] (defScope (top 16)) := ⟨rfl, rfl, rfl, by decide +kernel, rfl, by decide +kernel, by decide +kernel⟩
def m_deck : S :=
    (sSeq (sPar 1 2 (eCons (eFn listD (eCons (eSl (eVar 0) oNo (oYes (eC (.int 60)))) eNil)) (eCons (eC (.int 77003311)) eNil)))
    (sSeq (sFor (iAny (eVar 1)) (gNm 3) (sAsg (eBin modD (eFn intD (eCons (eBin addD (eBin addD (eBin mulD (eVar 2) (eC (.int 69621))) (eBin modD (eFn intD (eCons (eVar 3) eNil)) (eC (.int 2147483647)))) (eC (.int 29))) eNil)) (eC (.int 2147483563))) (gNm 2)))
    (sRet (eDic [((eC (.str [104, 101, 97, 112])), (eRev (eVar 1))), ((eC (.str [109, 105, 120, 101, 100])), (eVar 2)), ((eC (.str [108, 97, 112])), (eC (.int 0)))]))))
def F_deck : FN := fnB N_deck.length m_deck
theorem ok_deck {w : World} {K : PySem.W.Frag} {mg : Str → Option Value} {base : Heap} {iA : String → Addr} {iD : String → FuncData} {f : Addr} {fd : FuncData} (hx : HX w K mg base iA iD) (FD : FunD K "_law_deck" "_law_deck" (defArgs (top 16)) (defBody (top 16)) (defScope (top 16)) [] [] f fd) (hf : mg "_law_deck" = some (.ref f))  : Fn prog w K mg base "_law_deck" 1 1 F_deck := by
  refine ⟨f, fd, ["_law_script"], body_ok FD sc_deck (fun cdv A outer s H Ee Z => ?_), hf, FD.kp, FD.bindsN fun _ _ _ _ _ _ us hl => match us, hl with | [_], _ => rfl⟩
  have hun := Z.room.un
  have hu64 : (cxOf (L2.CX prog w) prog w K mg base N_deck "_law_deck" (defScope (top 16)) f cdv A outer s H Ee).A.units + 64 < cLine := by omega
  have hu65 : (cxOf (L2.CX prog w) prog w K mg base N_deck "_law_deck" (defScope (top 16)) f cdv A outer s H Ee).A.units + 65 < cLine := by omega
  have hu1 : (cxOf (L2.CX prog w) prog w K mg base N_deck "_law_deck" (defScope (top 16)) f cdv A outer s H Ee).A.units + 1 < cLine := by omega
  have hcalm : (cxOf (L2.CX prog w) prog w K mg base N_deck "_law_deck" (defScope (top 16)) f cdv A outer s H Ee).calm = true := rfl
  have ndN : (cxOf (L2.CX prog w) prog w K mg base N_deck "_law_deck" (defScope (top 16)) f cdv A outer s H Ee).N.Nodup := sc_deck.nd
  exact (ss_cons (s_par 1 2 hcalm ndN (a_cons (b_fnT c_list rfl hx.list_ (by decide +kernel) (a_cons (b_sl (b_var 0) o_no (o_yes b_int)) a_nil)) (a_cons b_int a_nil)))
    (ss_cons (s_for Z.own hcalm (i_any (b_var 1)) (g_nm 3 ndN) (ss_one (s_asg (b_bin o_mod (b_fnT c_int rfl hx.int_ (by decide +kernel) (a_cons (b_bin o_add (b_bin o_add (b_bin o_mul (b_var 2) b_int) (b_bin o_mod (b_fnT c_int rfl hx.int_ (by decide +kernel) (a_cons (b_var 3) a_nil)) b_int)) b_int) a_nil)) b_int) (g_nm 2 ndN))))
    (ss_one (s_ret (b_dic (ps := [((eC (.str [104, 101, 97, 112])), (eRev (eVar 1))), ((eC (.str [109, 105, 120, 101, 100])), (eVar 2)), ((eC (.str [108, 97, 112])), (eC (.int 0)))]) (pps_cons (b_str [104, 101, 97, 112]) (b_rev (b_var 1)) (pps_cons (b_str [109, 105, 120, 101, 100]) (b_var 2) (pps_cons (b_str [108, 97, 112]) b_int pps_nil))))))))
def N_draw : List Str := ["_law_deck_here", "_law_many", "_law_lap", "_law_mixed", "_law_item"]
theorem sc_draw : FnScope N_draw ["_law_deck_here", "_law_many"] (defScope (top 17)) := ⟨rfl, rfl, rfl, by decide +kernel, rfl, by decide +kernel, by decide +kernel⟩
def m_draw : S :=
    (sSeq (sPar 2 3 (eCons (eBin addD (eBin ixD (eVar 0) (eC (.str [108, 97, 112]))) (eC (.int 1))) (eCons (eBin ixD (eVar 0) (eC (.str [109, 105, 120, 101, 100]))) eNil)))
    (sSeq (sAsg (eVar 2) (gSb (eVar 0) (eC (.str [108, 97, 112]))))
    (sSeq (sIf (eT (eBin neD (eBin ixD (eVar 0) (eC (.str [104, 101, 97, 112]))) (eLst eNil))) (sSeq (sAsg (eMt0 "list" popD (eBin ixD (eVar 0) (eC (.str [104, 101, 97, 112])))) (gNm 4))
    (sSeq (sIf (eT (eBin geD (eVar 4) (eBin powD (eC (.int 10)) (eC (.int 18))))) (sSeq (sExp (eMt "list" appD (eBin ixD (eVar 0) (eC (.str [104, 101, 97, 112]))) (eCons (eBin divD (eVar 4) (eVar 1)) eNil)))
    (sRet (eBin modD (eFn intD (eCons (eVar 4) eNil)) (eVar 1)))) sNil)
    (sAsg (eBin addD (eVar 3) (eFn intD (eCons (eVar 4) eNil))) (gNm 3)))) sNil)
    (sSeq (sAsg (eBin mulD (eFn intD (eCons (eBin addD (eBin addD (eBin modD (eFn intD (eCons (eVar 3) eNil)) (eC (.int 2147483579))) (eBin mulD (eBin mulD (eC (.int 52711)) (eVar 2)) (eVar 2))) (eC (.int 17))) eNil)) (eC (.int 48271))) (gNm 3))
    (sSeq (sAsg (eBin modD (eFn intD (eCons (eVar 3) eNil)) (eC (.int 2147483647))) (gNm 3))
    (sSeq (sAsg (eBin modD (eFn intD (eCons (eBin addD (eBin addD (eBin mulD (eVar 3) (eVar 3)) (eBin mulD (eC (.int 40014)) (eVar 2))) (eC (.int 71))) eNil)) (eC (.int 2147483563))) (gNm 3))
    (sRet (eBin modD (eFn intD (eCons (eBin divD (eBin modD (eFn intD (eCons (eBin mulD (eVar 3) (eC (.int 39373))) eNil)) (eC (.int 2147483587))) (eC (.int 32))) eNil)) (eVar 1)))))))))
def F_draw : FN := fnB N_draw.length m_draw
theorem ok_draw {w : World} {K : PySem.W.Frag} {mg : Str → Option Value} {base : Heap} {iA : String → Addr} {iD : String → FuncData} {f : Addr} {fd : FuncData} (hx : HX w K mg base iA iD) (FD : FunD K "_law_draw" "_law_draw" (defArgs (top 17)) (defBody (top 17)) (defScope (top 17)) [] [] f fd) (hf : mg "_law_draw" = some (.ref f))  : Fn prog w K mg base "_law_draw" 1 2 F_draw := by
  refine ⟨f, fd, ["_law_deck_here", "_law_many"], body_ok FD sc_draw (fun cdv A outer s H Ee Z => ?_), hf, FD.kp, FD.bindsN fun _ _ _ _ _ _ us hl => match us, hl with | [_, _], _ => rfl⟩
  have hun := Z.room.un
  have hu64 : (cxOf (L2.CX prog w) prog w K mg base N_draw "_law_draw" (defScope (top 17)) f cdv A outer s H Ee).A.units + 64 < cLine := by omega
  have hu65 : (cxOf (L2.CX prog w) prog w K mg base N_draw "_law_draw" (defScope (top 17)) f cdv A outer s H Ee).A.units + 65 < cLine := by omega
  have hu1 : (cxOf (L2.CX prog w) prog w K mg base N_draw "_law_draw" (defScope (top 17)) f cdv A outer s H Ee).A.units + 1 < cLine := by omega
  have hcalm : (cxOf (L2.CX prog w) prog w K mg base N_draw "_law_draw" (defScope (top 17)) f cdv A outer s H Ee).calm = true := rfl
  have ndN : (cxOf (L2.CX prog w) prog w K mg base N_draw "_law_draw" (defScope (top 17)) f cdv A outer s H Ee).N.Nodup := sc_draw.nd
  exact (ss_cons (s_par 2 3 hcalm ndN (a_cons (b_bin o_add (b_ix hu1 (b_var 0) (b_str [108, 97, 112])) b_int) (a_cons (b_ix hu1 (b_var 0) (b_str [109, 105, 120, 101, 100])) a_nil)))
    (ss_cons (s_asg (b_var 2) (g_sb (W := W0) hu1 (b_var 0) (b_str [108, 97, 112])))
    (ss_cons (s_if (t_cmp (o_ne hu64) (b_ix hu1 (b_var 0) (b_str [104, 101, 97, 112])) (b_lst a_nil) rfl) (ss_cons (s_asg (b_mt0 PySem.F.plainAttrs_list PySem.F.slot_list_pop PySem.F.type_list_pop m_pop (b_ix hu1 (b_var 0) (b_str [104, 101, 97, 112]))) (g_nm 4 ndN))
    (ss_cons (s_if (t_cmp o_ge (b_var 4) (b_bin o_pow b_int b_int) rfl) (ss_cons (s_exp (b_mt PySem.F.plainAttrs_list PySem.F.slot_list_append PySem.F.type_list_append m_append (b_ix hu1 (b_var 0) (b_str [104, 101, 97, 112])) (a_cons (b_bin o_div (b_var 4) (b_var 1)) a_nil)))
    (ss_one (s_ret (b_bin o_mod (b_fnT c_int rfl hx.int_ (by decide +kernel) (a_cons (b_var 4) a_nil)) (b_var 1))))) ss_nil)
    (ss_one (s_asg (b_bin o_add (b_var 3) (b_fnT c_int rfl hx.int_ (by decide +kernel) (a_cons (b_var 4) a_nil))) (g_nm 3 ndN))))) ss_nil)
    (ss_cons (s_asg (b_bin o_mul (b_fnT c_int rfl hx.int_ (by decide +kernel) (a_cons (b_bin o_add (b_bin o_add (b_bin o_mod (b_fnT c_int rfl hx.int_ (by decide +kernel) (a_cons (b_var 3) a_nil)) b_int) (b_bin o_mul (b_bin o_mul b_int (b_var 2)) (b_var 2))) b_int) a_nil)) b_int) (g_nm 3 ndN))
    (ss_cons (s_asg (b_bin o_mod (b_fnT c_int rfl hx.int_ (by decide +kernel) (a_cons (b_var 3) a_nil)) b_int) (g_nm 3 ndN))
    (ss_cons (s_asg (b_bin o_mod (b_fnT c_int rfl hx.int_ (by decide +kernel) (a_cons (b_bin o_add (b_bin o_add (b_bin o_mul (b_var 3) (b_var 3)) (b_bin o_mul b_int (b_var 2))) b_int) a_nil)) b_int) (g_nm 3 ndN))
    (ss_one (s_ret (b_bin o_mod (b_fnT c_int rfl hx.int_ (by decide +kernel) (a_cons (b_bin o_div (b_bin o_mod (b_fnT c_int rfl hx.int_ (by decide +kernel) (a_cons (b_bin o_mul (b_var 3) b_int) a_nil)) b_int) b_int) a_nil)) (b_var 1))))))))))
def N_pick : List Str := ["_law_deck_here", "_law_some"]
theorem sc_pick : FnScope N_pick ["_law_deck_here", "_law_some"] (defScope (top 18)) := ⟨rfl, rfl, rfl, by decide +kernel, rfl, by decide +kernel, by decide +kernel⟩
def m_pick : S :=
    (sRet (eBin ixD (eVar 1) (eCall 2 F_draw (eCons (eVar 0) (eCons (eFn lenD (eCons (eVar 1) eNil)) eNil)))))
def F_pick : FN := fnB N_pick.length m_pick
theorem ok_pick {w : World} {K : PySem.W.Frag} {mg : Str → Option Value} {base : Heap} {iA : String → Addr} {iD : String → FuncData} {f : Addr} {fd : FuncData} (hx : HX w K mg base iA iD) (FD : FunD K "_law_pick" "_law_pick" (defArgs (top 18)) (defBody (top 18)) (defScope (top 18)) [] [] f fd) (hf : mg "_law_pick" = some (.ref f)) (h_draw : Fn prog w K mg base "_law_draw" 1 2 F_draw) : Fn prog w K mg base "_law_pick" 2 2 F_pick := by
  refine ⟨f, fd, ["_law_deck_here", "_law_some"], body_ok FD sc_pick (fun cdv A outer s H Ee Z => ?_), hf, FD.kp, FD.bindsN fun _ _ _ _ _ _ us hl => match us, hl with | [_, _], _ => rfl⟩
  have hun := Z.room.un
  have hu64 : (cxOf (L2.CX prog w) prog w K mg base N_pick "_law_pick" (defScope (top 18)) f cdv A outer s H Ee).A.units + 64 < cLine := by omega
  have hu65 : (cxOf (L2.CX prog w) prog w K mg base N_pick "_law_pick" (defScope (top 18)) f cdv A outer s H Ee).A.units + 65 < cLine := by omega
  have hu1 : (cxOf (L2.CX prog w) prog w K mg base N_pick "_law_pick" (defScope (top 18)) f cdv A outer s H Ee).A.units + 1 < cLine := by omega
  have hcalm : (cxOf (L2.CX prog w) prog w K mg base N_pick "_law_pick" (defScope (top 18)) f cdv A outer s H Ee).calm = true := rfl
  have ndN : (cxOf (L2.CX prog w) prog w K mg base N_pick "_law_pick" (defScope (top 18)) f cdv A outer s H Ee).N.Nodup := sc_pick.nd
  exact (ss_one (s_ret (b_ix hu1 (b_var 1) (b_call h_draw Z (by omega) rfl (a_cons (b_var 0) (a_cons (b_fnB c_len rfl hx.len_ (by decide +kernel) (a_cons (b_var 1) a_nil)) a_nil))))))
def N_value : List Str := ["_law_deck_here", "_law_deep", "_law_way", "_law_some", "_law_k"]
theorem sc_value : FnScope N_value ["_law_deck_here", "_law_deep"] (defScope (top 19)) := ⟨rfl, rfl, rfl, by decide +kernel, rfl, by decide +kernel, by decide +kernel⟩
def m_value (F : FN) : S :=
    (sSeq (sAsg (eCall 2 F_draw (eCons (eVar 0) (eCons (eC (.int 10)) eNil))) (gNm 2))
    (sSeq (sIf (bOr (eT (eBin ltD (eVar 2) (eC (.int 6)))) (eT (eBin eqD (eVar 1) (eC (.int 0))))) (sRet (eCall 2 F_pick (eCons (eVar 0) (eCons (eLst (eCons (eC .non) (eCons (eC (.bl true)) (eCons (eC (.bl false)) (eCons (eC (.int 0)) (eCons (eNeg (eC (.int 1))) (eCons (eBin powD (eC (.int 10)) (eC (.int 39))) (eCons (eC (.str [])) (eCons (eC (.str [111, 114, 100, 101, 114])) (eCons (eC (.str [97, 32, 98])) (eCons (eTup eNil) (eCons (eC (.int 1)) eNil)))))))))))) eNil)))) sNil)
    (sSeq (sAsg (eCmp (iRn1 (eCall 2 F_draw (eCons (eVar 0) (eCons (eC (.int 3)) eNil)))) (.nm 4) none (eCall 2 F (eCons (eVar 0) (eCons (eBin subD (eVar 1) (eC (.int 1))) eNil))) [4]) (gNm 3))
    (sRet (eBin ixD (eLst (eCons (eVar 3) (eCons (eFn tupleD (eCons (eVar 3) eNil)) (eCons (eDic [((eC (.str [112, 97, 114, 116])), (eVar 3))]) (eCons (eTup (eCons (eVar 3) (eCons (eC (.str [120])) eNil))) eNil))))) (eBin subD (eVar 2) (eC (.int 6))))))))
def F_value : Nat → FN
  | 0 => fun _ _ => .bad
  | n + 1 => fnB N_value.length (m_value (F_value n))
theorem ok_value {w : World} {K : PySem.W.Frag} {mg : Str → Option Value} {base : Heap} {iA : String → Addr} {iD : String → FuncData} {f : Addr} {fd : FuncData} (hx : HX w K mg base iA iD) (FD : FunD K "_law_value" "_law_value" (defArgs (top 19)) (defBody (top 19)) (defScope (top 19)) [] [] f fd) (hf : mg "_law_value" = some (.ref f)) (h_draw : Fn prog w K mg base "_law_draw" 1 2 F_draw) (h_pick : Fn prog w K mg base "_law_pick" 2 2 F_pick) {F : FN} {n : Nat} (hF : Fn prog w K mg base "_law_value" (2 + n) 2 F) : Fn prog w K mg base "_law_value" (2 + n + 1) 2 (fnB N_value.length (m_value F)) := by
  refine ⟨f, fd, ["_law_deck_here", "_law_deep"], body_ok FD sc_value (fun cdv A outer s H Ee Z => ?_), hf, FD.kp, FD.bindsN fun _ _ _ _ _ _ us hl => match us, hl with | [_, _], _ => rfl⟩
  have hun := Z.room.un
  have hu64 : (cxOf (L2.CX prog w) prog w K mg base N_value "_law_value" (defScope (top 19)) f cdv A outer s H Ee).A.units + 64 < cLine := by omega
  have hu65 : (cxOf (L2.CX prog w) prog w K mg base N_value "_law_value" (defScope (top 19)) f cdv A outer s H Ee).A.units + 65 < cLine := by omega
  have hu1 : (cxOf (L2.CX prog w) prog w K mg base N_value "_law_value" (defScope (top 19)) f cdv A outer s H Ee).A.units + 1 < cLine := by omega
  have hcalm : (cxOf (L2.CX prog w) prog w K mg base N_value "_law_value" (defScope (top 19)) f cdv A outer s H Ee).calm = true := rfl
  have ndN : (cxOf (L2.CX prog w) prog w K mg base N_value "_law_value" (defScope (top 19)) f cdv A outer s H Ee).N.Nodup := sc_value.nd
  exact (ss_cons (s_asg (b_call h_draw Z (by omega) rfl (a_cons (b_var 0) (a_cons b_int a_nil))) (g_nm 2 ndN))
    (ss_cons (s_if (t_w (w_or (t_cmp o_lt (b_var 2) b_int rfl) (w_or1 (t_cmp (o_eq hu64) (b_var 1) b_int rfl)))) (ss_one (s_ret (b_call h_pick Z (by omega) rfl (a_cons (b_var 0) (a_cons (b_lst (a_cons b_non (a_cons b_bl (a_cons b_bl (a_cons b_int (a_cons (b_neg b_int) (a_cons (b_bin o_pow b_int b_int) (a_cons (b_str []) (a_cons (b_str [111, 114, 100, 101, 114]) (a_cons (b_str [97, 32, 98]) (a_cons (b_tup a_nil) (a_cons b_int a_nil)))))))))))) a_nil))))) ss_nil)
    (ss_cons (s_lc (i := 3) hcalm ndN rfl rfl rfl (i_rn1 rfl hx.range_ (b_call h_draw Z (by omega) rfl (a_cons (b_var 0) (a_cons b_int a_nil)))) (blkOk_by (N := N_value) (sc := (defScope (top 19))) (own := [("_law_k", 4)]) (by decide +kernel)) (by decide) (fun _ _ _ _ _ => pg_name (i := 4) ndN rfl (Or.inl rfl)) (fun _ _ _ _ _ => pts_nil) (fun _ _ _ _ _ => (b_call hF (Ctx.blk Z) (by omega) rfl (a_cons (b_var 0) (a_cons (b_bin o_sub (b_var 1) b_int) a_nil)))))
    (ss_one (s_ret (b_ix hu1 (b_lst (a_cons (b_var 3) (a_cons (b_fnT c_tuple rfl hx.tuple_ (by decide +kernel) (a_cons (b_var 3) a_nil)) (a_cons (b_dic (ps := [((eC (.str [112, 97, 114, 116])), (eVar 3))]) (pps_cons (b_str [112, 97, 114, 116]) (b_var 3) pps_nil)) (a_cons (b_tup (a_cons (b_var 3) (a_cons (b_str [120]) a_nil))) a_nil))))) (b_bin o_sub (b_var 2) b_int)))))))
def N_one : List Str := ["_law_at", "_law_value_here"]
theorem sc_one : FnScope N_one ["_law_at", "_law_value_here"] (defScope (top 20)) := ⟨rfl, rfl, rfl, by decide +kernel, rfl, by decide +kernel, by decide +kernel⟩
def m_one : S :=
    (sSeq (sIf (eT (eBin eqD (eVar 0) (eC (.int 0)))) (sRet (eTup (eCons (eMk "BadFormat" ["part"] 1 0 [0] (eCons (eVar 1) eNil) eNil) (eCons (eMk "BadFormat" ["part"] 0 1 [0] eNil (eCons (eVar 1) eNil)) (eCons (eC (.str [112, 97, 114, 116])) eNil))))) sNil)
    (sSeq (sIf (eT (eBin eqD (eVar 0) (eC (.int 1)))) (sRet (eTup (eCons (eMk "BadWord" ["word"] 1 0 [0] (eCons (eVar 1) eNil) eNil) (eCons (eMk "BadWord" ["word"] 0 1 [0] eNil (eCons (eVar 1) eNil)) (eCons (eC (.str [119, 111, 114, 100])) eNil))))) sNil)
    (sSeq (sIf (eT (eBin eqD (eVar 0) (eC (.int 2)))) (sRet (eTup (eCons (eMk "BadRecord" ["record"] 1 0 [0] (eCons (eVar 1) eNil) eNil) (eCons (eMk "BadRecord" ["record"] 0 1 [0] eNil (eCons (eVar 1) eNil)) (eCons (eC (.str [114, 101, 99, 111, 114, 100])) eNil))))) sNil)
    (sSeq (sIf (eT (eBin eqD (eVar 0) (eC (.int 3)))) (sRet (eTup (eCons (eMk "InvalidText" ["line"] 1 0 [0] (eCons (eVar 1) eNil) eNil) (eCons (eMk "InvalidText" ["line"] 0 1 [0] eNil (eCons (eVar 1) eNil)) (eCons (eC (.str [108, 105, 110, 101])) eNil))))) sNil)
    (sSeq (sIf (eT (eBin eqD (eVar 0) (eC (.int 4)))) (sRet (eTup (eCons (eMk "NoReading" ["word"] 1 0 [0] (eCons (eVar 1) eNil) eNil) (eCons (eMk "NoReading" ["word"] 0 1 [0] eNil (eCons (eVar 1) eNil)) (eCons (eC (.str [119, 111, 114, 100])) eNil))))) sNil)
    (sSeq (sIf (eT (eBin eqD (eVar 0) (eC (.int 5)))) (sRet (eTup (eCons (eMk "NotSure" ["place"] 1 0 [0] (eCons (eVar 1) eNil) eNil) (eCons (eMk "NotSure" ["place"] 0 1 [0] eNil (eCons (eVar 1) eNil)) (eCons (eC (.str [112, 108, 97, 99, 101])) eNil))))) sNil)
    (sSeq (sIf (eT (eBin eqD (eVar 0) (eC (.int 6)))) (sRet (eTup (eCons (eMk "NoBook" ["length"] 1 0 [0] (eCons (eVar 1) eNil) eNil) (eCons (eMk "NoBook" ["length"] 0 1 [0] eNil (eCons (eVar 1) eNil)) (eCons (eC (.str [108, 101, 110, 103, 116, 104])) eNil))))) sNil)
    (sSeq (sIf (eT (eBin eqD (eVar 0) (eC (.int 7)))) (sRet (eTup (eCons (eMk "EvenLength" ["length"] 1 0 [0] (eCons (eVar 1) eNil) eNil) (eCons (eMk "EvenLength" ["length"] 0 1 [0] eNil (eCons (eVar 1) eNil)) (eCons (eC (.str [108, 101, 110, 103, 116, 104])) eNil))))) sNil)
    (sSeq (sIf (eT (eBin eqD (eVar 0) (eC (.int 8)))) (sRet (eTup (eCons (eMk "NameTaken" ["name"] 1 0 [0] (eCons (eVar 1) eNil) eNil) (eCons (eMk "NameTaken" ["name"] 0 1 [0] eNil (eCons (eVar 1) eNil)) (eCons (eC (.str [110, 97, 109, 101])) eNil))))) sNil)
    (sRet (eTup (eCons (eMk "UnknownName" ["name"] 1 0 [0] (eCons (eVar 1) eNil) eNil) (eCons (eMk "UnknownName" ["name"] 0 1 [0] eNil (eCons (eVar 1) eNil)) (eCons (eC (.str [110, 97, 109, 101])) eNil))))))))))))))
def F_one : FN := fnB N_one.length m_one
theorem ok_one {w : World} {K : PySem.W.Frag} {mg : Str → Option Value} {base : Heap} {iA : String → Addr} {iD : String → FuncData} {f : Addr} {fd : FuncData} (hx : HX w K mg base iA iD) (FD : FunD K "_law_one" "_law_one" (defArgs (top 20)) (defBody (top 20)) (defScope (top 20)) [] [] f fd) (hf : mg "_law_one" = some (.ref f))  : Fn prog w K mg base "_law_one" 3 2 F_one := by
  refine ⟨f, fd, ["_law_at", "_law_value_here"], body_ok FD sc_one (fun cdv A outer s H Ee Z => ?_), hf, FD.kp, FD.bindsN fun _ _ _ _ _ _ us hl => match us, hl with | [_, _], _ => rfl⟩
  have hun := Z.room.un
  have hu64 : (cxOf (L2.CX prog w) prog w K mg base N_one "_law_one" (defScope (top 20)) f cdv A outer s H Ee).A.units + 64 < cLine := by omega
  have hu65 : (cxOf (L2.CX prog w) prog w K mg base N_one "_law_one" (defScope (top 20)) f cdv A outer s H Ee).A.units + 65 < cLine := by omega
  have hu1 : (cxOf (L2.CX prog w) prog w K mg base N_one "_law_one" (defScope (top 20)) f cdv A outer s H Ee).A.units + 1 < cLine := by omega
  have hcalm : (cxOf (L2.CX prog w) prog w K mg base N_one "_law_one" (defScope (top 20)) f cdv A outer s H Ee).calm = true := rfl
  have ndN : (cxOf (L2.CX prog w) prog w K mg base N_one "_law_one" (defScope (top 20)) f cdv A outer s H Ee).N.Nodup := sc_one.nd
  exact (ss_cons (s_if (t_cmp (o_eq hu64) (b_var 0) b_int rfl) (ss_one (s_ret (b_tup (a_cons (b_mk (c := "BadFormat") hx.c_BadFormat Z hx.bp_BadFormat (a_cons (b_var 1) a_nil) (by omega) (by decide)) (a_cons (b_mkK (c := "BadFormat") hx.c_BadFormat Z hx.bk_BadFormat (k_cons (b_var 1) k_nil) (by omega)) (a_cons (b_str [112, 97, 114, 116]) a_nil)))))) ss_nil)
    (ss_cons (s_if (t_cmp (o_eq hu64) (b_var 0) b_int rfl) (ss_one (s_ret (b_tup (a_cons (b_mk (c := "BadWord") hx.c_BadWord Z hx.bp_BadWord (a_cons (b_var 1) a_nil) (by omega) (by decide)) (a_cons (b_mkK (c := "BadWord") hx.c_BadWord Z hx.bk_BadWord (k_cons (b_var 1) k_nil) (by omega)) (a_cons (b_str [119, 111, 114, 100]) a_nil)))))) ss_nil)
    (ss_cons (s_if (t_cmp (o_eq hu64) (b_var 0) b_int rfl) (ss_one (s_ret (b_tup (a_cons (b_mk (c := "BadRecord") hx.c_BadRecord Z hx.bp_BadRecord (a_cons (b_var 1) a_nil) (by omega) (by decide)) (a_cons (b_mkK (c := "BadRecord") hx.c_BadRecord Z hx.bk_BadRecord (k_cons (b_var 1) k_nil) (by omega)) (a_cons (b_str [114, 101, 99, 111, 114, 100]) a_nil)))))) ss_nil)
    (ss_cons (s_if (t_cmp (o_eq hu64) (b_var 0) b_int rfl) (ss_one (s_ret (b_tup (a_cons (b_mk (c := "InvalidText") hx.c_InvalidText Z hx.bp_InvalidText (a_cons (b_var 1) a_nil) (by omega) (by decide)) (a_cons (b_mkK (c := "InvalidText") hx.c_InvalidText Z hx.bk_InvalidText (k_cons (b_var 1) k_nil) (by omega)) (a_cons (b_str [108, 105, 110, 101]) a_nil)))))) ss_nil)
    (ss_cons (s_if (t_cmp (o_eq hu64) (b_var 0) b_int rfl) (ss_one (s_ret (b_tup (a_cons (b_mk (c := "NoReading") hx.c_NoReading Z hx.bp_NoReading (a_cons (b_var 1) a_nil) (by omega) (by decide)) (a_cons (b_mkK (c := "NoReading") hx.c_NoReading Z hx.bk_NoReading (k_cons (b_var 1) k_nil) (by omega)) (a_cons (b_str [119, 111, 114, 100]) a_nil)))))) ss_nil)
    (ss_cons (s_if (t_cmp (o_eq hu64) (b_var 0) b_int rfl) (ss_one (s_ret (b_tup (a_cons (b_mk (c := "NotSure") hx.c_NotSure Z hx.bp_NotSure (a_cons (b_var 1) a_nil) (by omega) (by decide)) (a_cons (b_mkK (c := "NotSure") hx.c_NotSure Z hx.bk_NotSure (k_cons (b_var 1) k_nil) (by omega)) (a_cons (b_str [112, 108, 97, 99, 101]) a_nil)))))) ss_nil)
    (ss_cons (s_if (t_cmp (o_eq hu64) (b_var 0) b_int rfl) (ss_one (s_ret (b_tup (a_cons (b_mk (c := "NoBook") hx.c_NoBook Z hx.bp_NoBook (a_cons (b_var 1) a_nil) (by omega) (by decide)) (a_cons (b_mkK (c := "NoBook") hx.c_NoBook Z hx.bk_NoBook (k_cons (b_var 1) k_nil) (by omega)) (a_cons (b_str [108, 101, 110, 103, 116, 104]) a_nil)))))) ss_nil)
    (ss_cons (s_if (t_cmp (o_eq hu64) (b_var 0) b_int rfl) (ss_one (s_ret (b_tup (a_cons (b_mk (c := "EvenLength") hx.c_EvenLength Z hx.bp_EvenLength (a_cons (b_var 1) a_nil) (by omega) (by decide)) (a_cons (b_mkK (c := "EvenLength") hx.c_EvenLength Z hx.bk_EvenLength (k_cons (b_var 1) k_nil) (by omega)) (a_cons (b_str [108, 101, 110, 103, 116, 104]) a_nil)))))) ss_nil)
    (ss_cons (s_if (t_cmp (o_eq hu64) (b_var 0) b_int rfl) (ss_one (s_ret (b_tup (a_cons (b_mk (c := "NameTaken") hx.c_NameTaken Z hx.bp_NameTaken (a_cons (b_var 1) a_nil) (by omega) (by decide)) (a_cons (b_mkK (c := "NameTaken") hx.c_NameTaken Z hx.bk_NameTaken (k_cons (b_var 1) k_nil) (by omega)) (a_cons (b_str [110, 97, 109, 101]) a_nil)))))) ss_nil)
    (ss_one (s_ret (b_tup (a_cons (b_mk (c := "UnknownName") hx.c_UnknownName Z hx.bp_UnknownName (a_cons (b_var 1) a_nil) (by omega) (by decide)) (a_cons (b_mkK (c := "UnknownName") hx.c_UnknownName Z hx.bk_UnknownName (k_cons (b_var 1) k_nil) (by omega)) (a_cons (b_str [110, 97, 109, 101]) a_nil)))))))))))))))
def N_held : List Str := ["_law_e", "_law_mark"]
theorem sc_held : FnScope N_held ["_law_e", "_law_mark"] (defScope (top 21)) := ⟨rfl, rfl, rfl, by decide +kernel, rfl, by decide +kernel, by decide +kernel⟩
def m_held : S :=
    (sSeq (sIf (eT (eBin eqD (eVar 1) (eC (.str [112, 97, 114, 116])))) (sRet (eXf tbF "part" (eVar 0))) sNil)
    (sSeq (sIf (eT (eBin eqD (eVar 1) (eC (.str [119, 111, 114, 100])))) (sRet (eXf tbF "word" (eVar 0))) sNil)
    (sSeq (sIf (eT (eBin eqD (eVar 1) (eC (.str [114, 101, 99, 111, 114, 100])))) (sRet (eXf tbF "record" (eVar 0))) sNil)
    (sSeq (sIf (eT (eBin eqD (eVar 1) (eC (.str [108, 105, 110, 101])))) (sRet (eXf tbF "line" (eVar 0))) sNil)
    (sSeq (sIf (eT (eBin eqD (eVar 1) (eC (.str [112, 108, 97, 99, 101])))) (sRet (eXf tbF "place" (eVar 0))) sNil)
    (sRet (eIf (eT (eBin eqD (eVar 1) (eC (.str [108, 101, 110, 103, 116, 104])))) (eXf tbF "length" (eVar 0)) (eXf tbF "name" (eVar 0)))))))))
def F_held : FN := fnB N_held.length m_held
theorem ok_held {w : World} {K : PySem.W.Frag} {mg : Str → Option Value} {base : Heap} {iA : String → Addr} {iD : String → FuncData} {f : Addr} {fd : FuncData} (hx : HX w K mg base iA iD) (FD : FunD K "_law_held" "_law_held" (defArgs (top 21)) (defBody (top 21)) (defScope (top 21)) [] [] f fd) (hf : mg "_law_held" = some (.ref f))  : Fn prog w K mg base "_law_held" 1 2 F_held := by
  refine ⟨f, fd, ["_law_e", "_law_mark"], body_ok FD sc_held (fun cdv A outer s H Ee Z => ?_), hf, FD.kp, FD.bindsN fun _ _ _ _ _ _ us hl => match us, hl with | [_, _], _ => rfl⟩
  have hun := Z.room.un
  have hu64 : (cxOf (L2.CX prog w) prog w K mg base N_held "_law_held" (defScope (top 21)) f cdv A outer s H Ee).A.units + 64 < cLine := by omega
  have hu65 : (cxOf (L2.CX prog w) prog w K mg base N_held "_law_held" (defScope (top 21)) f cdv A outer s H Ee).A.units + 65 < cLine := by omega
  have hu1 : (cxOf (L2.CX prog w) prog w K mg base N_held "_law_held" (defScope (top 21)) f cdv A outer s H Ee).A.units + 1 < cLine := by omega
  have hcalm : (cxOf (L2.CX prog w) prog w K mg base N_held "_law_held" (defScope (top 21)) f cdv A outer s H Ee).calm = true := rfl
  have ndN : (cxOf (L2.CX prog w) prog w K mg base N_held "_law_held" (defScope (top 21)) f cdv A outer s H Ee).N.Nodup := sc_held.nd
  exact (ss_cons (s_if (t_cmp (o_eq hu64) (b_var 1) (b_str [112, 97, 114, 116]) rfl) (ss_one (s_ret (b_xf (f := "part") hx.tbF_ (b_var 0)))) ss_nil)
    (ss_cons (s_if (t_cmp (o_eq hu64) (b_var 1) (b_str [119, 111, 114, 100]) rfl) (ss_one (s_ret (b_xf (f := "word") hx.tbF_ (b_var 0)))) ss_nil)
    (ss_cons (s_if (t_cmp (o_eq hu64) (b_var 1) (b_str [114, 101, 99, 111, 114, 100]) rfl) (ss_one (s_ret (b_xf (f := "record") hx.tbF_ (b_var 0)))) ss_nil)
    (ss_cons (s_if (t_cmp (o_eq hu64) (b_var 1) (b_str [108, 105, 110, 101]) rfl) (ss_one (s_ret (b_xf (f := "line") hx.tbF_ (b_var 0)))) ss_nil)
    (ss_cons (s_if (t_cmp (o_eq hu64) (b_var 1) (b_str [112, 108, 97, 99, 101]) rfl) (ss_one (s_ret (b_xf (f := "place") hx.tbF_ (b_var 0)))) ss_nil)
    (ss_one (s_ret (b_if (t_cmp (o_eq hu64) (b_var 1) (b_str [108, 101, 110, 103, 116, 104]) rfl) (b_xf (f := "length") hx.tbF_ (b_var 0)) (b_xf (f := "name") hx.tbF_ (b_var 0))))))))))
def N_classes : List Str := ["_law_e", "_law_some"]
theorem sc_classes : FnScope N_classes ["_law_e"] (defScope (top 22)) := ⟨rfl, rfl, rfl, by decide +kernel, rfl, by decide +kernel, by decide +kernel⟩
def m_classes : S :=
    (sSeq (sAsg (eLst (eCons (eIs xsE tbC [.own "BadFormat"] (eVar 0)) (eCons (eIs xsE tbC [.own "BadWord"] (eVar 0)) (eCons (eIs xsE tbC [.own "BadRecord"] (eVar 0)) (eCons (eIs xsE tbC [.own "InvalidText"] (eVar 0)) eNil))))) (gNm 1))
    (sSeq (sAsg (eBin addD (eVar 1) (eLst (eCons (eIs xsE tbC [.own "NoReading"] (eVar 0)) (eCons (eIs xsE tbC [.own "NotSure"] (eVar 0)) (eCons (eIs xsE tbC [.own "NoBook"] (eVar 0)) (eCons (eIs xsE tbC [.own "EvenLength"] (eVar 0)) eNil)))))) (gNm 1))
    (sSeq (sAsg (eBin addD (eVar 1) (eLst (eCons (eIs xsE tbC [.own "NameTaken"] (eVar 0)) (eCons (eIs xsE tbC [.own "UnknownName"] (eVar 0)) (eCons (eIs xsE tbC [.own "OtherLetters"] (eVar 0)) eNil))))) (gNm 1))
    (sRet (eBin addD (eVar 1) (eLst (eCons (eIs xsE tbC [.own "TwoReadings"] (eVar 0)) (eCons (eIs xsE tbC [.own "NotEnough"] (eVar 0)) eNil))))))))
def F_classes : FN := fnB N_classes.length m_classes
theorem ok_classes {w : World} {K : PySem.W.Frag} {mg : Str → Option Value} {base : Heap} {iA : String → Addr} {iD : String → FuncData} {f : Addr} {fd : FuncData} (hx : HX w K mg base iA iD) (FD : FunD K "_law_classes" "_law_classes" (defArgs (top 22)) (defBody (top 22)) (defScope (top 22)) [] [] f fd) (hf : mg "_law_classes" = some (.ref f))  : Fn prog w K mg base "_law_classes" 1 1 F_classes := by
  refine ⟨f, fd, ["_law_e"], body_ok FD sc_classes (fun cdv A outer s H Ee Z => ?_), hf, FD.kp, FD.bindsN fun _ _ _ _ _ _ us hl => match us, hl with | [_], _ => rfl⟩
  have hun := Z.room.un
  have hu64 : (cxOf (L2.CX prog w) prog w K mg base N_classes "_law_classes" (defScope (top 22)) f cdv A outer s H Ee).A.units + 64 < cLine := by omega
  have hu65 : (cxOf (L2.CX prog w) prog w K mg base N_classes "_law_classes" (defScope (top 22)) f cdv A outer s H Ee).A.units + 65 < cLine := by omega
  have hu1 : (cxOf (L2.CX prog w) prog w K mg base N_classes "_law_classes" (defScope (top 22)) f cdv A outer s H Ee).A.units + 1 < cLine := by omega
  have hcalm : (cxOf (L2.CX prog w) prog w K mg base N_classes "_law_classes" (defScope (top 22)) f cdv A outer s H Ee).calm = true := rfl
  have ndN : (cxOf (L2.CX prog w) prog w K mg base N_classes "_law_classes" (defScope (top 22)) f cdv A outer s H Ee).N.Nodup := sc_classes.nd
  exact (ss_cons (s_asg (b_lst (a_cons (b_is1 (c := .own "BadFormat") hx.xsE_ hx.tbC_ (b_var 0) (pc_own (x := "BadFormat") hx.m_BadFormat) rfl hx.isinstance_) (a_cons (b_is1 (c := .own "BadWord") hx.xsE_ hx.tbC_ (b_var 0) (pc_own (x := "BadWord") hx.m_BadWord) rfl hx.isinstance_) (a_cons (b_is1 (c := .own "BadRecord") hx.xsE_ hx.tbC_ (b_var 0) (pc_own (x := "BadRecord") hx.m_BadRecord) rfl hx.isinstance_) (a_cons (b_is1 (c := .own "InvalidText") hx.xsE_ hx.tbC_ (b_var 0) (pc_own (x := "InvalidText") hx.m_InvalidText) rfl hx.isinstance_) a_nil))))) (g_nm 1 ndN))
    (ss_cons (s_asg (b_bin o_add (b_var 1) (b_lst (a_cons (b_is1 (c := .own "NoReading") hx.xsE_ hx.tbC_ (b_var 0) (pc_own (x := "NoReading") hx.m_NoReading) rfl hx.isinstance_) (a_cons (b_is1 (c := .own "NotSure") hx.xsE_ hx.tbC_ (b_var 0) (pc_own (x := "NotSure") hx.m_NotSure) rfl hx.isinstance_) (a_cons (b_is1 (c := .own "NoBook") hx.xsE_ hx.tbC_ (b_var 0) (pc_own (x := "NoBook") hx.m_NoBook) rfl hx.isinstance_) (a_cons (b_is1 (c := .own "EvenLength") hx.xsE_ hx.tbC_ (b_var 0) (pc_own (x := "EvenLength") hx.m_EvenLength) rfl hx.isinstance_) a_nil)))))) (g_nm 1 ndN))
    (ss_cons (s_asg (b_bin o_add (b_var 1) (b_lst (a_cons (b_is1 (c := .own "NameTaken") hx.xsE_ hx.tbC_ (b_var 0) (pc_own (x := "NameTaken") hx.m_NameTaken) rfl hx.isinstance_) (a_cons (b_is1 (c := .own "UnknownName") hx.xsE_ hx.tbC_ (b_var 0) (pc_own (x := "UnknownName") hx.m_UnknownName) rfl hx.isinstance_) (a_cons (b_is1 (c := .own "OtherLetters") hx.xsE_ hx.tbC_ (b_var 0) (pc_own (x := "OtherLetters") hx.m_OtherLetters) rfl hx.isinstance_) a_nil))))) (g_nm 1 ndN))
    (ss_one (s_ret (b_bin o_add (b_var 1) (b_lst (a_cons (b_is1 (c := .own "TwoReadings") hx.xsE_ hx.tbC_ (b_var 0) (pc_own (x := "TwoReadings") hx.m_TwoReadings) rfl hx.isinstance_) (a_cons (b_is1 (c := .own "NotEnough") hx.xsE_ hx.tbC_ (b_var 0) (pc_own (x := "NotEnough") hx.m_NotEnough) rfl hx.isinstance_) a_nil)))))))))
def N_is_alone : List Str := ["_law_e", "_law_at", "_law_k"]
theorem sc_is_alone : FnScope N_is_alone ["_law_e", "_law_at"] (defScope (top 23)) := ⟨rfl, rfl, rfl, by decide +kernel, rfl, by decide +kernel, by decide +kernel⟩
def m_is_alone : S :=
    (sSeq (sIf (bOr (eT (eBin neD (eCall 1 F_classes (eCons (eVar 0) eNil)) (eCmp (iRn1 (eC (.int 13))) (.nm 2) none (eBin eqD (eVar 2) (eVar 1)) [2]))) (bNot (eT (eIs xsE tbC [.own "ReadError"] (eVar 0))))) (sRet (eC (.bl false))) sNil)
    (sSeq (sIf (bOr (bNot (eT (eIs xsE tbC [.ty "Exception"] (eVar 0)))) (eT (eIs xsE tbC [.ty "ValueError", .ty "LookupError", .ty "ArithmeticError", .ty "TypeError"] (eVar 0)))) (sRet (eC (.bl false))) sNil)
    (sRet (eB (bNot (eT (eIs xsE tbC [.ty "RuntimeError", .ty "AttributeError", .ty "KeyError"] (eVar 0))))))))
def F_is_alone : FN := fnB N_is_alone.length m_is_alone
theorem ok_is_alone {w : World} {K : PySem.W.Frag} {mg : Str → Option Value} {base : Heap} {iA : String → Addr} {iD : String → FuncData} {f : Addr} {fd : FuncData} (hx : HX w K mg base iA iD) (FD : FunD K "_law_is_alone" "_law_is_alone" (defArgs (top 23)) (defBody (top 23)) (defScope (top 23)) [] [] f fd) (hf : mg "_law_is_alone" = some (.ref f)) (h_classes : Fn prog w K mg base "_law_classes" 1 1 F_classes) : Fn prog w K mg base "_law_is_alone" 2 2 F_is_alone := by
  refine ⟨f, fd, ["_law_e", "_law_at"], body_ok FD sc_is_alone (fun cdv A outer s H Ee Z => ?_), hf, FD.kp, FD.bindsN fun _ _ _ _ _ _ us hl => match us, hl with | [_, _], _ => rfl⟩
  have hun := Z.room.un
  have hu64 : (cxOf (L2.CX prog w) prog w K mg base N_is_alone "_law_is_alone" (defScope (top 23)) f cdv A outer s H Ee).A.units + 64 < cLine := by omega
  have hu65 : (cxOf (L2.CX prog w) prog w K mg base N_is_alone "_law_is_alone" (defScope (top 23)) f cdv A outer s H Ee).A.units + 65 < cLine := by omega
  have hu1 : (cxOf (L2.CX prog w) prog w K mg base N_is_alone "_law_is_alone" (defScope (top 23)) f cdv A outer s H Ee).A.units + 1 < cLine := by omega
  have hcalm : (cxOf (L2.CX prog w) prog w K mg base N_is_alone "_law_is_alone" (defScope (top 23)) f cdv A outer s H Ee).calm = true := rfl
  have ndN : (cxOf (L2.CX prog w) prog w K mg base N_is_alone "_law_is_alone" (defScope (top 23)) f cdv A outer s H Ee).N.Nodup := sc_is_alone.nd
  exact (ss_cons (s_if (t_w (w_or (t_cmp (o_ne hu64) (b_call h_classes Z (by omega) rfl (a_cons (b_var 0) a_nil)) (b_lc hcalm ndN (i_rn1 rfl hx.range_ b_int) (blkOk_by (N := N_is_alone) (sc := (defScope (top 23))) (own := [("_law_k", 2)]) (by decide +kernel)) (by decide) (fun _ _ _ _ _ => pg_name (i := 2) ndN rfl (Or.inl rfl)) (fun _ _ _ _ _ => pts_nil) (fun _ _ _ _ _ => (b_cmp (o_eq hu64) (b_var 2) (b_var 1) rfl))) rfl) (w_or1 (t_not (t_val (b_is1 (c := .own "ReadError") hx.xsE_ hx.tbC_ (b_var 0) (pc_own (x := "ReadError") hx.m_ReadError) rfl hx.isinstance_)))))) (ss_one (s_ret b_bl)) ss_nil)
    (ss_cons (s_if (t_w (w_or (t_not (t_val (b_is1 (c := .ty "Exception") hx.xsE_ hx.tbC_ (b_var 0) (pc_ty (x := "Exception") hx.f_Exception) rfl hx.isinstance_))) (w_or1 (t_val (b_isT (cs := [.ty "ValueError", .ty "LookupError", .ty "ArithmeticError", .ty "TypeError"]) hx.xsE_ hx.tbC_ (b_var 0) (pcs_cons (pc_ty (x := "ValueError") hx.f_ValueError) (pcs_cons (pc_ty (x := "LookupError") hx.f_LookupError) (pcs_cons (pc_ty (x := "ArithmeticError") hx.f_ArithmeticError) (pcs_cons (pc_ty (x := "TypeError") hx.f_TypeError) pcs_nil)))) (by decide) rfl hx.isinstance_))))) (ss_one (s_ret b_bl)) ss_nil)
    (ss_one (s_ret (b_not (b_isB (b_isT (cs := [.ty "RuntimeError", .ty "AttributeError", .ty "KeyError"]) hx.xsE_ hx.tbC_ (b_var 0) (pcs_cons (pc_ty (x := "RuntimeError") hx.f_RuntimeError) (pcs_cons (pc_ty (x := "AttributeError") hx.f_AttributeError) (pcs_cons (pc_ty (x := "KeyError") hx.f_KeyError) pcs_nil))) (by decide) rfl hx.isinstance_)))))))
end K80

set_option Elab.async false
set_option linter.all false
set_option maxRecDepth 100000
set_option maxHeartbeats 4000000
namespace K80
open PySem PySem.Spec PyProof.Rows L2 L2H Am AmX
def cs1 : List Cl := [.own "BadFormat", .own "BadWord", .own "BadRecord", .own "InvalidText"]
def cs2 : List Cl := [.own "NoReading", .own "NotSure", .own "NoBook", .own "EvenLength"]
def cs3 : List Cl := [.own "NameTaken", .own "UnknownName", .own "OtherLetters"]
def cs4 : List Cl := [.own "TwoReadings", .own "NotEnough"]
def csC : List Cl := cs1 ++ (cs2 ++ (cs3 ++ cs4))
theorem hot_classes {w : World} {K : PySem.W.Frag} {mg : Str → Option Value} {base : Heap} {iA : String → Addr} {iD : String → FuncData} {f : Addr} {fd : FuncData} (hx : HX w K mg base iA iD) (FD : FunD K "_law_classes" "_law_classes" (defArgs (top 22)) (defBody (top 22)) (defScope (top 22)) [] [] f fd) : HotFn prog w K mg base "_law_e" f fd tbC csC :=
  hot_fn (y := "_law_some") FD sc_classes rfl rfl hx.tbC_ hx.isinstance_ fun cdv A outer s H E a d c oe T =>
    hot4 (c1 := cs1) (c2 := cs2) (c3 := cs3) (c4 := cs4) (h_first T rfl (by decide) (by decide) (.cons (pc_own (x := "BadFormat") hx.m_BadFormat) rfl rfl rfl rfl (.cons (pc_own (x := "BadWord") hx.m_BadWord) rfl rfl rfl rfl (.cons (pc_own (x := "BadRecord") hx.m_BadRecord) rfl rfl rfl rfl (.cons (pc_own (x := "InvalidText") hx.m_InvalidText) rfl rfl rfl rfl .nil)))) rfl) (h_more T rfl (by decide) (by decide) (by decide) (by decide) (.cons (pc_own (x := "NoReading") hx.m_NoReading) rfl rfl rfl rfl (.cons (pc_own (x := "NotSure") hx.m_NotSure) rfl rfl rfl rfl (.cons (pc_own (x := "NoBook") hx.m_NoBook) rfl rfl rfl rfl (.cons (pc_own (x := "EvenLength") hx.m_EvenLength) rfl rfl rfl rfl .nil)))) rfl) (h_more T rfl (by decide) (by decide) (by decide) (by decide) (.cons (pc_own (x := "NameTaken") hx.m_NameTaken) rfl rfl rfl rfl (.cons (pc_own (x := "UnknownName") hx.m_UnknownName) rfl rfl rfl rfl (.cons (pc_own (x := "OtherLetters") hx.m_OtherLetters) rfl rfl rfl rfl .nil))) rfl) (h_ret T rfl (by decide) (by decide) (by decide) (by decide) (.cons (pc_own (x := "TwoReadings") hx.m_TwoReadings) rfl rfl rfl rfl (.cons (pc_own (x := "NotEnough") hx.m_NotEnough) rfl rfl rfl rfl .nil)))
def N_raised : List Str := ["_law_at", "_law_value_here", "_law_found", "_law_e"]
theorem sc_raised : FnScope N_raised ["_law_at", "_law_value_here"] (defScope (top 24)) := ⟨rfl, rfl, rfl, by decide +kernel, rfl, by decide +kernel, by decide +kernel⟩
def m_raised : S :=
    (sSeq (sAsg (eC .non) (gNm 2))
    (sSeq (sTryH 3 2 xsR tbC csC
    (sSeq (sIf (eT (eBin eqD (eVar 0) (eC (.int 0)))) (sRaise "BadFormat" ["part"] 1 [0] (eCons (eVar 1) eNil)) sNil)
    (sSeq (sIf (eT (eBin eqD (eVar 0) (eC (.int 1)))) (sRaise "NameTaken" ["name"] 1 [0] (eCons (eVar 1) eNil)) sNil)
    (sSeq (sIf (eT (eBin eqD (eVar 0) (eC (.int 2)))) (sRaise "UnknownName" ["name"] 1 [0] (eCons (eVar 1) eNil)) sNil)
    (sSeq (sIf (eT (eBin eqD (eVar 0) (eC (.int 3)))) (sRaise "NotEnough" ["ahead", "behind"] 2 [0, 1] (eCons (eVar 1) (eCons (eVar 1) eNil))) sNil)
    (sRaise "OtherLetters" [] 0 [] eNil))))))
    (sRet (eVar 2))))
def F_raised : FN := fnB N_raised.length m_raised
theorem ok_raised {w : World} {K : PySem.W.Frag} {mg : Str → Option Value} {base : Heap} {iA : String → Addr} {iD : String → FuncData} {f : Addr} {fd : FuncData} (hx : HX w K mg base iA iD) (FD : FunD K "_law_raised" "_law_raised" (defArgs (top 24)) (defBody (top 24)) (defScope (top 24)) [] [] f fd) (hf : mg "_law_raised" = some (.ref f)) {fC : Addr} {fdC : FuncData} (hHot : HotFn prog w K mg base "_law_e" fC fdC tbC csC) (hmH : mg "_law_classes" = some (.ref fC)) (hkH : PySem.W.keepIn K (.ref fC) = true) (hbH : Binds K fdC ["_law_e"] []) : Fn prog w K mg base "_law_raised" 3 2 F_raised := by
  refine ⟨f, fd, ["_law_at", "_law_value_here"], body_ok FD sc_raised (fun cdv A outer s H Ee Z => ?_), hf, FD.kp, FD.bindsN fun _ _ _ _ _ _ us hl => match us, hl with | [_, _], _ => rfl⟩
  have hun := Z.room.un
  have hu64 : (cxOf (L2.CX prog w) prog w K mg base N_raised "_law_raised" (defScope (top 24)) f cdv A outer s H Ee).A.units + 64 < cLine := by omega
  have hu65 : (cxOf (L2.CX prog w) prog w K mg base N_raised "_law_raised" (defScope (top 24)) f cdv A outer s H Ee).A.units + 65 < cLine := by omega
  have hu1 : (cxOf (L2.CX prog w) prog w K mg base N_raised "_law_raised" (defScope (top 24)) f cdv A outer s H Ee).A.units + 1 < cLine := by omega
  have hcalm : (cxOf (L2.CX prog w) prog w K mg base N_raised "_law_raised" (defScope (top 24)) f cdv A outer s H Ee).calm = true := rfl
  have ndN : (cxOf (L2.CX prog w) prog w K mg base N_raised "_law_raised" (defScope (top 24)) f cdv A outer s H Ee).N.Nodup := sc_raised.nd
  have hroom := Z.room.mono (j := 2) (by omega)
  have hroomH := roomH_of (Z.room.mono (j := 1) (by omega))
  exact (ss_cons (s_asg b_non (g_nm 2 ndN))
    (ss_cons (s_tryH (i := 3) (j := 2) (bc := "ReadError") rfl rfl ndN rfl rfl rfl rfl ⟨rfl, by decide, .inl hx.m_ReadError⟩ hx.exB_ hHot hroomH rfl hmH hkH hbH (by decide) (by decide) (by decide) (fun W pn xe tk => (ss_cons (s_if (t_cmp (o_eq hu64) (b_var 0) b_int rfl) (ss_one (s_raiseN (c := "BadFormat") hx.c_BadFormat hroom tk hcalm hx.bp_BadFormat (a_cons (b_var 1) a_nil) (by decide))) ss_nil)
    (ss_cons (s_if (t_cmp (o_eq hu64) (b_var 0) b_int rfl) (ss_one (s_raiseN (c := "NameTaken") hx.c_NameTaken hroom tk hcalm hx.bp_NameTaken (a_cons (b_var 1) a_nil) (by decide))) ss_nil)
    (ss_cons (s_if (t_cmp (o_eq hu64) (b_var 0) b_int rfl) (ss_one (s_raiseN (c := "UnknownName") hx.c_UnknownName hroom tk hcalm hx.bp_UnknownName (a_cons (b_var 1) a_nil) (by decide))) ss_nil)
    (ss_cons (s_if (t_cmp (o_eq hu64) (b_var 0) b_int rfl) (ss_one (s_raiseN (c := "NotEnough") hx.c_NotEnough hroom tk hcalm hx.bp_NotEnough (a_cons (b_var 1) (a_cons (b_var 1) a_nil)) (by decide))) ss_nil)
    (ss_one (s_raiseN0 (c := "OtherLetters") hx.c_OtherLetters hroom tk hcalm hx.bp_OtherLetters))))))))
    (ss_one (s_ret (b_var 2)))))
end K80

set_option Elab.async false
set_option linter.all false
set_option maxRecDepth 100000
set_option maxHeartbeats 4000000
namespace K80
open PySem PySem.Spec PyProof.Rows L2 L2H Am AmX
def N_law : List Str := ["_law_script", "_law_deck_here", "_law_at", "_law_value_here", "_law_shown", "_law_placed", "_law_named", "_law_mark", "_law_e", "_law_first", "_law_second", "_law_k", "_law_m"]
theorem sc_law : FnScope N_law ["_law_script"] (defScope (top 25)) := ⟨rfl, rfl, rfl, by decide +kernel, rfl, by decide +kernel, by decide +kernel⟩
def m_law : S :=
    (sSeq (sAsg (eCall 1 F_deck (eCons (eVar 0) eNil)) (gNm 1))
    (sSeq (sFor (iRn1 (eC (.int 10))) (gNm 2) (sSeq (sAsg (eCall 2 (F_value 4) (eCons (eVar 1) (eCons (eC (.int 3)) eNil))) (gNm 3))
    (sSeq (sAsg (eFn reprD (eCons (eVar 3) eNil)) (gNm 4))
    (sSeq (sAsg (eCall 2 F_one (eCons (eVar 2) (eCons (eVar 3) eNil))) (gTp [(gNm 5), (gNm 6), (gNm 7)]))
    (sFor (iAny (eTup (eCons (eVar 5) (eCons (eVar 6) eNil)))) (gNm 8) (sIf (bOr (eT (eBin neD (eFn reprD (eCons (eCall 2 F_held (eCons (eVar 8) (eCons (eVar 7) eNil))) eNil)) (eVar 4))) (bOr (eT (eBin neD (eFn reprD (eCons (eVar 3) eNil)) (eVar 4))) (bNot (eT (eCall 2 F_is_alone (eCons (eVar 8) (eCons (eVar 2) eNil))))))) (sRet (eC (.bl false))) sNil))))))
    (sSeq (sPar 9 10 (eCons (eCall 2 (F_value 4) (eCons (eVar 1) (eCons (eC (.int 2)) eNil))) (eCons (eCall 2 (F_value 4) (eCons (eVar 1) (eCons (eC (.int 2)) eNil))) eNil)))
    (sSeq (sFor (iAny (eTup (eCons (eMk "TwoReadings" ["one", "other"] 2 0 [0, 1] (eCons (eVar 9) (eCons (eVar 10) eNil)) eNil) (eCons (eMk "TwoReadings" ["one", "other"] 0 2 [1, 0] eNil (eCons (eVar 10) (eCons (eVar 9) eNil))) eNil)))) (gNm 8) (sIf (bOr (eT (eBin neD (eFn reprD (eCons (eLst (eCons (eXf tbF "one" (eVar 8)) (eCons (eXf tbF "other" (eVar 8)) eNil))) eNil)) (eFn reprD (eCons (eLst (eCons (eVar 9) (eCons (eVar 10) eNil))) eNil)))) (bNot (eT (eCall 2 F_is_alone (eCons (eVar 8) (eCons (eC (.int 11)) eNil)))))) (sRet (eC (.bl false))) sNil))
    (sSeq (sFor (iAny (eTup (eCons (eMk "NotEnough" ["ahead", "behind"] 2 0 [0, 1] (eCons (eVar 9) (eCons (eVar 10) eNil)) eNil) (eCons (eMk "NotEnough" ["ahead", "behind"] 0 2 [1, 0] eNil (eCons (eVar 10) (eCons (eVar 9) eNil))) eNil)))) (gNm 8) (sIf (bOr (eT (eBin neD (eFn reprD (eCons (eLst (eCons (eXf tbF "ahead" (eVar 8)) (eCons (eXf tbF "behind" (eVar 8)) eNil))) eNil)) (eFn reprD (eCons (eLst (eCons (eVar 9) (eCons (eVar 10) eNil))) eNil)))) (bNot (eT (eCall 2 F_is_alone (eCons (eVar 8) (eCons (eC (.int 12)) eNil)))))) (sRet (eC (.bl false))) sNil))
    (sSeq (sIf (bOr (bNot (eT (eCall 2 F_is_alone (eCons (eMk "OtherLetters" [] 0 0 [] eNil eNil) (eCons (eC (.int 10)) eNil))))) (eT (eBin inX (eC (.bl true)) (eCall 1 F_classes (eCons (eMkR "ReadError" (eC (.str [120]))) eNil))))) (sRet (eC (.bl false))) sNil)
    (sSeq (sFor (iAny (eTup (eCons (eTup (eCons (eC (.int 0)) (eCons (eC (.int 0)) eNil))) (eCons (eTup (eCons (eC (.int 1)) (eCons (eC (.int 8)) eNil))) (eCons (eTup (eCons (eC (.int 2)) (eCons (eC (.int 9)) eNil))) (eCons (eTup (eCons (eC (.int 3)) (eCons (eC (.int 12)) eNil))) (eCons (eTup (eCons (eC (.int 4)) (eCons (eC (.int 10)) eNil))) eNil))))))) (gTp [(gNm 2), (gNm 11)]) (sIf (eT (eBin neD (eCall 2 F_raised (eCons (eVar 2) (eCons (eVar 9) eNil))) (eCmp (iRn1 (eC (.int 13))) (.nm 12) none (eBin eqD (eVar 12) (eVar 11)) [12]))) (sRet (eC (.bl false))) sNil))
    (sRet (eC (.bl true))))))))))
def F_law : FN := fnB N_law.length m_law
theorem ok_law {w : World} {K : PySem.W.Frag} {mg : Str → Option Value} {base : Heap} {iA : String → Addr} {iD : String → FuncData} {f : Addr} {fd : FuncData} (hx : HX w K mg base iA iD) (FD : FunD K "law" "law" (defArgs (top 25)) (defBody (top 25)) (defScope (top 25)) [] [] f fd) (h_deck : Fn prog w K mg base "_law_deck" 1 1 F_deck) (h_value : Fn prog w K mg base "_law_value" 6 2 (F_value 4)) (h_one : Fn prog w K mg base "_law_one" 3 2 F_one) (h_held : Fn prog w K mg base "_law_held" 1 2 F_held) (h_classes : Fn prog w K mg base "_law_classes" 1 1 F_classes) (h_is_alone : Fn prog w K mg base "_law_is_alone" 2 2 F_is_alone) (h_raised : Fn prog w K mg base "_law_raised" 3 2 F_raised) : FnG prog w K mg base (L2.CX prog w) 7 f fd ["_law_script"] (spB K 1 F_law) := by
  refine body_okG (k := 6) FD sc_law (fun cdv A outer s H Ee hguard Z => ?_)
  have hun := Z.room.un
  have hsys := hx.sys_
  have hu64 : (cxOf (L2.CX prog w) prog w K mg base N_law "law" (defScope (top 25)) f cdv A outer s H Ee).A.units + 64 < cLine := by omega
  have hu65 : (cxOf (L2.CX prog w) prog w K mg base N_law "law" (defScope (top 25)) f cdv A outer s H Ee).A.units + 65 < cLine := by omega
  have hu1 : (cxOf (L2.CX prog w) prog w K mg base N_law "law" (defScope (top 25)) f cdv A outer s H Ee).A.units + 1 < cLine := by omega
  have hu200 : (cxOf (L2.CX prog w) prog w K mg base N_law "law" (defScope (top 25)) f cdv A outer s H Ee).A.units + 200 < cLine := by omega
  have hcalm : (cxOf (L2.CX prog w) prog w K mg base N_law "law" (defScope (top 25)) f cdv A outer s H Ee).calm = true := rfl
  have ndN : (cxOf (L2.CX prog w) prog w K mg base N_law "law" (defScope (top 25)) f cdv A outer s H Ee).N.Nodup := sc_law.nd
  exact (ss_cons (s_asg (b_call h_deck Z (by omega) rfl (a_cons (b_var 0) a_nil)) (g_nm 1 ndN))
    (ss_cons (s_for Z.own hcalm (i_rn1 rfl hx.range_ b_int) (g_nm 2 ndN) (ss_cons (s_asg (b_call h_value Z (by omega) rfl (a_cons (b_var 1) (a_cons b_int a_nil))) (g_nm 3 ndN))
    (ss_cons (s_asg (b_fnB (c_repr hguard hu200 hsys) rfl hx.repr_ (by decide +kernel) (a_cons (b_var 3) a_nil)) (g_nm 4 ndN))
    (ss_cons (s_asg (b_call h_one Z (by omega) rfl (a_cons (b_var 2) (a_cons (b_var 3) a_nil))) (g_tp hcalm (gs_cons (g_nm 5 ndN) (gs_cons (g_nm 6 ndN) (gs_cons (g_nm 7 ndN) gs_nil)))))
    (ss_one (s_for Z.own hcalm (i_any (b_tup (a_cons (b_var 5) (a_cons (b_var 6) a_nil)))) (g_nm 8 ndN) (ss_one (s_if (t_w (w_or (t_cmp (o_ne hu64) (b_fnB (c_repr hguard hu200 hsys) rfl hx.repr_ (by decide +kernel) (a_cons (b_call h_held Z (by omega) rfl (a_cons (b_var 8) (a_cons (b_var 7) a_nil))) a_nil)) (b_var 4) rfl) (w_or (t_cmp (o_ne hu64) (b_fnB (c_repr hguard hu200 hsys) rfl hx.repr_ (by decide +kernel) (a_cons (b_var 3) a_nil)) (b_var 4) rfl) (w_or1 (t_not (t_val (b_call h_is_alone Z (by omega) rfl (a_cons (b_var 8) (a_cons (b_var 2) a_nil))))))))) (ss_one (s_ret b_bl)) ss_nil))))))))
    (ss_cons (s_par 9 10 hcalm ndN (a_cons (b_call h_value Z (by omega) rfl (a_cons (b_var 1) (a_cons b_int a_nil))) (a_cons (b_call h_value Z (by omega) rfl (a_cons (b_var 1) (a_cons b_int a_nil))) a_nil)))
    (ss_cons (s_for Z.own hcalm (i_any (b_tup (a_cons (b_mk (c := "TwoReadings") hx.c_TwoReadings Z hx.bp_TwoReadings (a_cons (b_var 9) (a_cons (b_var 10) a_nil)) (by omega) (by decide)) (a_cons (b_mkK (c := "TwoReadings") hx.c_TwoReadings Z hx.bk_TwoReadings (k_cons (b_var 10) (k_cons (b_var 9) k_nil)) (by omega)) a_nil)))) (g_nm 8 ndN) (ss_one (s_if (t_w (w_or (t_cmp (o_ne hu64) (b_fnB (c_repr hguard hu200 hsys) rfl hx.repr_ (by decide +kernel) (a_cons (b_lst (a_cons (b_xf (f := "one") hx.tbF_ (b_var 8)) (a_cons (b_xf (f := "other") hx.tbF_ (b_var 8)) a_nil))) a_nil)) (b_fnB (c_repr hguard hu200 hsys) rfl hx.repr_ (by decide +kernel) (a_cons (b_lst (a_cons (b_var 9) (a_cons (b_var 10) a_nil))) a_nil)) rfl) (w_or1 (t_not (t_val (b_call h_is_alone Z (by omega) rfl (a_cons (b_var 8) (a_cons b_int a_nil)))))))) (ss_one (s_ret b_bl)) ss_nil)))
    (ss_cons (s_for Z.own hcalm (i_any (b_tup (a_cons (b_mk (c := "NotEnough") hx.c_NotEnough Z hx.bp_NotEnough (a_cons (b_var 9) (a_cons (b_var 10) a_nil)) (by omega) (by decide)) (a_cons (b_mkK (c := "NotEnough") hx.c_NotEnough Z hx.bk_NotEnough (k_cons (b_var 10) (k_cons (b_var 9) k_nil)) (by omega)) a_nil)))) (g_nm 8 ndN) (ss_one (s_if (t_w (w_or (t_cmp (o_ne hu64) (b_fnB (c_repr hguard hu200 hsys) rfl hx.repr_ (by decide +kernel) (a_cons (b_lst (a_cons (b_xf (f := "ahead") hx.tbF_ (b_var 8)) (a_cons (b_xf (f := "behind") hx.tbF_ (b_var 8)) a_nil))) a_nil)) (b_fnB (c_repr hguard hu200 hsys) rfl hx.repr_ (by decide +kernel) (a_cons (b_lst (a_cons (b_var 9) (a_cons (b_var 10) a_nil))) a_nil)) rfl) (w_or1 (t_not (t_val (b_call h_is_alone Z (by omega) rfl (a_cons (b_var 8) (a_cons b_int a_nil)))))))) (ss_one (s_ret b_bl)) ss_nil)))
    (ss_cons (s_if (t_w (w_or (t_not (t_val (b_call h_is_alone Z (by omega) rfl (a_cons (b_mk0 (c := "OtherLetters") hx.c_OtherLetters Z hx.bp_OtherLetters (by omega)) (a_cons b_int a_nil))))) (w_or1 (t_cmp (o_inX hu65) b_bl (b_call h_classes Z (by omega) rfl (a_cons (b_mkR (c := "ReadError") F.excBase_Exception hx.e_ReadError hx.m_ReadError hx.k_ReadError (b_str [120])) a_nil)) rfl)))) (ss_one (s_ret b_bl)) ss_nil)
    (ss_cons (s_for Z.own hcalm (i_any (b_tup (a_cons (b_tup (a_cons b_int (a_cons b_int a_nil))) (a_cons (b_tup (a_cons b_int (a_cons b_int a_nil))) (a_cons (b_tup (a_cons b_int (a_cons b_int a_nil))) (a_cons (b_tup (a_cons b_int (a_cons b_int a_nil))) (a_cons (b_tup (a_cons b_int (a_cons b_int a_nil))) a_nil))))))) (g_tp hcalm (gs_cons (g_nm 2 ndN) (gs_cons (g_nm 11 ndN) gs_nil))) (ss_one (s_if (t_cmp (o_ne hu64) (b_call h_raised Z (by omega) rfl (a_cons (b_var 2) (a_cons (b_var 9) a_nil))) (b_lc hcalm ndN (i_rn1 rfl hx.range_ b_int) (blkOk_by (N := N_law) (sc := (defScope (top 25))) (own := [("_law_m", 12)]) (by decide +kernel)) (by decide) (fun _ _ _ _ _ => pg_name (i := 12) ndN rfl (Or.inl rfl)) (fun _ _ _ _ _ => pts_nil) (fun _ _ _ _ _ => (b_cmp (o_eq hu64) (b_var 12) (b_var 11) rfl))) rfl) (ss_one (s_ret b_bl)) ss_nil)))
    (ss_one (s_ret b_bl)))))))))
end K80

set_option Elab.async false
set_option linter.all false
set_option maxRecDepth 100000
set_option maxHeartbeats 4000000
namespace K80
open PySem Am
abbrev kH : D := .str [104, 101, 97, 112]
abbrev kM : D := .str [109, 105, 120, 101, 100]
abbrev kL : D := .str [108, 97, 112]
/-- the deck at n, its list at l -/
structure Dk (h : Hq) (n l : Nat) (xs : List D) (m k : Int) : Prop where
  dic : h[n]? = some (.dic [(kH, .ref l), (kM, .int m), (kL, .int k)])
  lst : h[l]? = some (.lst xs)
  ne : n ≠ l
  alli : ∀ x ∈ xs, ∃ i, x = .int i
  len : xs.length ≤ 64
/-- all but the deck stays -/
structure Fr (n l : Nat) (h h' : Hq) : Prop where
  keep : ∀ i o, i ≠ n → i ≠ l → h[i]? = some o → h'[i]? = some o
  le : h.length ≤ h'.length
theorem Fr.refl {n l : Nat} {h : Hq} : Fr n l h h := ⟨fun _ _ _ _ e => e, Nat.le_refl _⟩
theorem Fr.trans {n l : Nat} {h h1 h2 : Hq} (a : Fr n l h h1) (b : Fr n l h1 h2) : Fr n l h h2 := ⟨fun i o h1 h2 e => b.keep i o h1 h2 (a.keep i o h1 h2 e), Nat.le_trans a.le b.le⟩
theorem Fr.set {n l : Nat} {h : Hq} {j : Nat} {o : O} (hj : j = n ∨ j = l) : Fr n l h (h.set j o) := ⟨fun i o h1 h2 e => by
  rw [lk_ne (by rcases hj with rfl | rfl; exact Ne.symm h1; exact Ne.symm h2)]; exact e, by rw [List.length_set]; exact Nat.le_refl _⟩
theorem Fr.app {n l : Nat} {h t : Hq} : Fr n l h (h ++ t) := ⟨fun i o _ _ e => lk_app e t, by simp⟩
theorem Dk.app {h : Hq} {n l : Nat} {xs : List D} {m k : Int} (d : Dk h n l xs m k) (t : Hq) : Dk (h ++ t) n l xs m k := ⟨lk_app d.dic t, lk_app d.lst t, d.ne, d.alli, d.len⟩
theorem Dk.lap {h : Hq} {n l : Nat} {xs : List D} {m k : Int} (d : Dk h n l xs m k) (k' : Int) : Dk (h.set n (.dic [(kH, .ref l), (kM, .int m), (kL, .int k')])) n l xs m k' :=
  ⟨lk_set d.dic, by rw [lk_ne d.ne]; exact d.lst, d.ne, d.alli, d.len⟩
theorem Dk.put {h : Hq} {n l : Nat} {xs ys : List D} {m k : Int} (d : Dk h n l xs m k) (hi : ∀ x ∈ ys, ∃ i, x = .int i) (hl : ys.length ≤ 64) : Dk (h.set l (.lst ys)) n l ys m k :=
  ⟨by rw [lk_ne (Ne.symm d.ne)]; exact d.dic, lk_set d.lst, d.ne, hi, hl⟩
/-- a look into the deck -/
theorem dk_ix {h : Hq} {n l : Nat} {xs : List D} {m k : Int} (d : Dk h n l xs m k) : ixD (.ref n) kH h = some (.ref l, h) ∧ ixD (.ref n) kM h = some (.int m, h) ∧ ixD (.ref n) kL h = some (.int k, h) := by
  refine ⟨?_, ?_, ?_⟩ <;> simp [ixD, lstOf, d.dic, look, dicOf, dget, keyD]

theorem okB_ints {xs : List D} (h : ∀ x ∈ xs, ∃ i, x = .int i) : okB xs = true := by
  unfold okB
  have : xs.all (okD false dep) = true := List.all_eq_true.mpr fun x hx => by
    obtain ⟨i, rfl⟩ := h x hx
    rfl
  rw [this]; rfl
theorem isW_k {k : Int} (h : 0 ≤ k) (h2 : k < 1000000) : isW (k + 1) = true := by unfold isW; exact decide_eq_true (by omega)
theorem isW_m (x : Int) : isW (x % 2147483647) = true := by unfold isW; exact decide_eq_true (by omega)
/-- the numbers behind a draw -/
theorem draw_tail {h : Hq} {x : D} {k m q : Int} {z : Option D} {N : Ev → Hq → Prop} {Q : D → Hq → Prop} (hk : 0 ≤ k) (hk2 : k < 1000000) (hq : 0 < q) (Qh : ∀ i, 0 ≤ i → i < q → Q (.int i) h) :
    okS ((sSeq (sAsg (eBin mulD (eFn intD (eCons (eBin addD (eBin addD (eBin modD (eFn intD (eCons (eVar 3) eNil)) (eC (.int 2147483579))) (eBin mulD (eBin mulD (eC (.int 52711)) (eVar 2)) (eVar 2))) (eC (.int 17))) eNil)) (eC (.int 48271))) (gNm 3))
    (sSeq (sAsg (eBin modD (eFn intD (eCons (eVar 3) eNil)) (eC (.int 2147483647))) (gNm 3))
    (sSeq (sAsg (eBin modD (eFn intD (eCons (eBin addD (eBin addD (eBin mulD (eVar 3) (eVar 3)) (eBin mulD (eC (.int 40014)) (eVar 2))) (eC (.int 71))) eNil)) (eC (.int 2147483563))) (gNm 3))
    (sRet (eBin modD (eFn intD (eCons (eBin divD (eBin modD (eFn intD (eCons (eBin mulD (eVar 3) (eC (.int 39373))) eNil)) (eC (.int 2147483587))) (eC (.int 32))) eNil)) (eVar 1)))))) [some x, some (.int q), some (.int (k + 1)), some (.int m), z] h) N Q := by
  have w1 := isW_k hk hk2
  have w3 : isW 52711 = true := by decide
  have w4 : isW 48271 = true := by decide
  have w5 : isW 40014 = true := by decide
  have w6 : isW 39373 = true := by decide
  have p1 : (0 : Int) < 2147483579 := by decide
  have p2 : (0 : Int) < 2147483647 := by decide
  have p3 : (0 : Int) < 2147483563 := by decide
  have p4 : (0 : Int) < 2147483587 := by decide
  have p5 : (0 : Int) < 32 ∧ (32 : Int) < 1073741824 := by decide
  refine okS_step fun NN hN => ?_
  simp only [sAsg, eFn, eCons, eNil, eBin, eVar, eC, gNm, goT, okS_st, okR_bind, okR_ok, okS_nx, List.getElem?_cons_succ, List.getElem?_cons_zero, List.set_cons_succ, List.set_cons_zero, intD, okR_of, addD, modD, if_pos p1, mulD, w3, w4, w1, Bool.true_or, if_true, Bool.or_true]
  refine hN _ _ ?_
  generalize (m % 2147483579 + 52711 * (k + 1) * (k + 1) + 17) * 48271 = m1
  refine okS_step fun NN hN => ?_
  simp only [sAsg, eFn, eCons, eNil, eBin, eVar, eC, gNm, goT, okS_st, okR_bind, okR_ok, okS_nx, List.getElem?_cons_succ, List.getElem?_cons_zero, List.set_cons_succ, List.set_cons_zero, intD, okR_of, modD, if_pos p2]
  refine hN _ _ ?_
  have w2 := isW_m m1
  revert w2
  generalize m1 % 2147483647 = m2
  intro w2
  refine okS_step fun NN hN => ?_
  simp only [sAsg, eFn, eCons, eNil, eBin, eVar, eC, gNm, goT, okS_st, okR_bind, okR_ok, okS_nx, List.getElem?_cons_succ, List.getElem?_cons_zero, List.set_cons_succ, List.set_cons_zero, intD, okR_of, addD, modD, if_pos p3, mulD, w2, w5, Bool.true_or, if_true, Bool.or_true]
  refine hN _ _ ?_
  generalize (m2 * m2 + 40014 * (k + 1) + 71) % 2147483563 = m3
  simp only [sRet, eFn, eCons, eNil, eBin, eVar, eC, okS_st, okR_bind, okR_ok, okS_rt, List.getElem?_cons_succ, List.getElem?_cons_zero, intD, okR_of, mulD, w6, Bool.true_or, if_true, Bool.or_true, modD, if_pos p4, divD, if_pos p5, if_pos hq]
  exact Qh _ (Int.emod_nonneg _ (by omega)) (Int.emod_lt_of_pos _ hq)

theorem ne_nil {h : Hq} {n l : Nat} {xs : List D} {m k : Int} (d : Dk h n l xs m k) : neD (.ref l) (.ref h.length) (h ++ [.lst []]) = some (.bl (!decide (xs = [])), h ++ [.lst []]) := by
  have a1 : mutL (h ++ [.lst []]) (.ref l) = some xs := by simp [mutL, lk_app d.lst]
  have a2 : mutL (h ++ [.lst []]) (.ref h.length) = some [] := by simp [mutL]
  have a3 : okB (xs ++ []) = true := by rw [List.append_nil]; exact okB_ints d.alli
  simp only [neD, eqP, a1, a2, a3, if_true, Option.map_some]
theorem draw_ok {h : Hq} {n l : Nat} {xs : List D} {m k q : Int} (d : Dk h n l xs m k) (hk : 0 ≤ k) (hk2 : k < 1000000) (hq : 0 < q) (hq2 : q < 1000000) :
    okR (F_draw [.ref n, .int q] h) fun r h' => ∃ i ys, r = .int i ∧ 0 ≤ i ∧ i < q ∧ Dk h' n l ys m (k + 1) ∧ Fr n l h h' := by
  refine okR_fn ?_
  have fin_ : ∀ (i : Int) (h' : Hq) (ys : List D), 0 ≤ i → i < q → Dk h' n l ys m (k + 1) → Fr n l h h' → okR (fin h (.int i) h') fun r h' => ∃ i ys, r = .int i ∧ 0 ≤ i ∧ i < q ∧ Dk h' n l ys m (k + 1) ∧ Fr n l h h' := fun i h' ys a b c e => by
    refine okR_fin ⟨i, ys, rfl, a, b, c, e⟩ fun _ z => ?_
    have e1 := c.dic
    have e2 : (h'.take h.length)[n]? = h'[n]? := by rw [List.getElem?_take, if_pos (lk_lt d.dic)]
    rw [z, e1, d.dic] at e2
    simp at e2
    omega
  obtain ⟨e1, e2, e3⟩ := dk_ix d
  unfold m_draw
  refine okS_step fun NN hN => ?_
  simp only [N_draw, List.map, List.length_cons, List.length_nil, List.replicate, List.cons_append, List.nil_append, sPar, okS_st, eCons, eBin, eVar, eC, eNil, okR_bind, List.getElem?_cons_zero, okR_ok, e1, e2, e3, okR_of, addD, okS_nx, List.set]
  refine hN _ _ ?_
  refine okS_step fun NN hN => ?_
  have q2 : putI (.ref n) kL (.int (k + 1)) h = some (h.set n (.dic [(kH, .ref l), (kM, .int m), (kL, .int (k + 1))])) := by
    simp [putI, mutL, d.dic, dicOf, keyD, lim, dput]
  simp only [sAsg, eVar, okS_st, okR_ok, List.getElem?_cons_succ, List.getElem?_cons_zero, gSb, eC, goT, q2]
  refine hN _ _ ?_
  have d1 := d.lap (k + 1)
  have f1 : Fr n l h (h.set n (.dic [(kH, .ref l), (kM, .int m), (kL, .int (k + 1))])) := Fr.set (.inl rfl)
  revert d1 f1
  generalize h.set n (.dic [(kH, .ref l), (kM, .int m), (kL, .int (k + 1))]) = h1
  intro d1 f1
  obtain ⟨e1, e2, e3⟩ := dk_ix d1
  refine okS_step fun NN hN => ?_
  have nn := ne_nil d1
  simp only [sIf, eT, eBin, eVar, eC, eLst, eNil, newL, okS_st, okR_bind, okR_ok, okR_of, List.getElem?_cons_zero, e1, List.length_nil, Nat.zero_le, if_true, nn]
  have d2 := d1.app [.lst []]
  have f2 : Fr n l h (h1 ++ [.lst []]) := f1.trans Fr.app
  revert d2 f2
  generalize h1 ++ [.lst []] = h2
  intro d2 f2
  obtain ⟨e1, e2, e3⟩ := dk_ix d2
  by_cases hx : xs = []
  · subst hx
    simp only [decide_true, Bool.not_true, Bool.false_eq_true, if_false, sNil, okS_nx]
    refine hN _ _ ?_
    exact draw_tail hk hk2 hq fun i a b => fin_ i _ _ a b d2 f2
  · simp only [hx, decide_false, Bool.not_false, if_true]
    have hl : 0 < xs.length := List.length_pos_iff.mpr hx
    obtain ⟨y, hy⟩ : ∃ y, xs[xs.length - 1]? = some y := ⟨xs[xs.length - 1], List.getElem?_eq_getElem _⟩
    obtain ⟨v, rfl⟩ := d2.alli y (List.mem_of_getElem? hy)
    have m1 : mutL h2 (.ref l) = some xs := by simp [mutL, d2.lst]
    have q3 : popD (.ref l) [] h2 = some (.int v, h2.set l (.lst xs.dropLast)) := by
      simp only [popD, m1, Option.bind_some, hy, Option.map_some]
    have ty : tyD "list" h2 (.ref l) = true := by simp [tyD, lstOf, d2.lst]
    refine okS_step fun NN hN2 => ?_
    simp only [sAsg, eMt0, eBin, eVar, eC, okS_st, okR_bind, okR_ok, okR_of, List.getElem?_cons_zero, e1, ty, if_true, q3, gNm, goT, okS_nx, List.set]
    refine hN2 _ _ ?_
    have d3 : Dk (h2.set l (.lst xs.dropLast)) n l xs.dropLast m (k + 1) := d2.put (fun x hx => d2.alli x (List.dropLast_subset _ hx)) (by have := d2.len; simp; omega)
    have f3 : Fr n l h (h2.set l (.lst xs.dropLast)) := f2.trans (Fr.set (.inr rfl))
    have l3 : xs.dropLast.length ≤ 63 := by have := d2.len; simp; omega
    revert d3 f3 l3
    generalize h2.set l (.lst xs.dropLast) = h3
    generalize xs.dropLast = ys
    intro d3 f3 l3
    obtain ⟨e1, e2, e3⟩ := dk_ix d3
    refine okS_step fun NN hN3 => ?_
    have pw : powD (.int 10) (.int 18) h3 = some (.int (10 ^ 18), h3) := by
      have z : (0 : Int) ≤ 18 ∧ (18 : Int) ≤ 1000000 ∧ (10 : Int).natAbs < 2 ^ 64 := by decide
      simp only [powD]
      rw [if_pos z]
      rfl
    simp only [sIf, eT, eBin, eVar, eC, okS_st, okR_bind, okR_ok, okR_of, List.getElem?_cons_succ, List.getElem?_cons_zero, pw, geD, cmpI]
    by_cases hv : (10 : Int) ^ 18 ≤ v
    · simp only [hv, decide_true, if_true]
      have m3 : mutL h3 (.ref l) = some ys := by simp [mutL, d3.lst]
      have ty3 : tyD "list" h3 (.ref l) = true := by simp [tyD, lstOf, d3.lst]
      have q4 : appD (.ref l) [.int (v / q)] h3 = some (.non, h3.set l (.lst (ys ++ [.int (v / q)]))) := by
        simp only [appD, m3, Option.bind_some]
        rw [if_pos (by simp only [lim]; omega)]
      have p6 : 0 < q ∧ q < 1073741824 := ⟨hq, by omega⟩
      refine okS_step fun NN hN4 => ?_
      simp only [sExp, eMt, eCons, eNil, eBin, eVar, eC, okS_st, okR_bind, okR_ok, okR_of, List.getElem?_cons_succ, List.getElem?_cons_zero, e1, ty3, if_true, divD, if_pos p6, q4, okS_nx]
      refine hN4 _ _ ?_
      simp only [sRet, eFn, eCons, eNil, eBin, eVar, okS_st, okR_bind, okR_ok, okS_rt, List.getElem?_cons_succ, List.getElem?_cons_zero, intD, okR_of, modD, if_pos hq]
      refine fin_ _ _ _ (Int.emod_nonneg _ (by omega)) (Int.emod_lt_of_pos _ hq) (d3.put (ys := ys ++ [.int (v / q)]) (fun x hx => ?_) (by simp; omega)) (f3.trans (Fr.set (.inr rfl)))
      rcases List.mem_append.mp hx with z | z
      · exact d3.alli x z
      · exact ⟨_, by simpa using z⟩
    · simp only [hv, decide_false, Bool.false_eq_true, if_false, sNil, okS_nx]
      refine hN3 _ _ ?_
      simp only [sAsg, eFn, eCons, eNil, eBin, eVar, okS_st, okR_bind, okR_ok, okR_of, List.getElem?_cons_succ, List.getElem?_cons_zero, intD, addD, gNm, goT, okS_nx, List.set]
      refine hN _ _ ?_
      exact draw_tail hk hk2 hq fun i a b => fin_ i _ _ a b d3 f3

theorem fin_dk {h h' : Hq} {n l : Nat} {xs ys : List D} {m k k' : Int} {v : D} {Q : D → Hq → Prop} (d : Dk h n l xs m k) (d' : Dk h' n l ys m k') (hk : k ≠ k') (q : Q v h') : okR (fin h v h') Q := by
  refine okR_fin q fun _ z => ?_
  have e1 := d'.dic
  have e2 : (h'.take h.length)[n]? = h'[n]? := by rw [List.getElem?_take, if_pos (lk_lt d.dic)]
  rw [z, e1, d.dic] at e2
  simp at e2
  omega
theorem ix_at {h : Hq} {j : Nat} {ys : List D} {i : Int} (e : h[j]? = some (.lst ys)) (h0 : 0 ≤ i) (h1 : i < ys.length) : ∃ y, y ∈ ys ∧ ys[i.toNat]? = some y ∧ ixD (.ref j) (.int i) h = some (y, h) := by
  have hl : i.toNat < ys.length := by omega
  refine ⟨ys[i.toNat], List.getElem_mem hl, List.getElem?_eq_getElem hl, ?_⟩
  have e1 : lstOf h (.ref j) = some ys := by simp [lstOf, e]
  have e2 : L2.atI ys i = some ys[i.toNat] := by
    have e3 : L2.ixN ys.length i = some i.toNat := by
      unfold L2.ixN
      rw [if_pos h0, if_pos h1]
    unfold L2.atI
    rw [e3]
    exact List.getElem?_eq_getElem hl
  simp only [ixD, e1, e2, Option.map_some]
theorem pick_ok {h : Hq} {n l j : Nat} {xs ys : List D} {m k : Int} (d : Dk h n l xs m k) (hk : 0 ≤ k) (hk2 : k < 1000000) (ej : h[j]? = some (.lst ys)) (jn : j ≠ n) (jl : j ≠ l) (y0 : 0 < ys.length) (y1 : ys.length < 1000000) :
    okR (F_pick [.ref n, .ref j] h) fun v h' => v ∈ ys ∧ ∃ zs, Dk h' n l zs m (k + 1) ∧ Fr n l h h' := by
  refine okR_fn ?_
  unfold m_pick
  have e1 : lstOf h (.ref j) = some ys := by simp [lstOf, ej]
  simp only [N_pick, List.map, List.length_cons, List.length_nil, List.replicate, List.cons_append, List.nil_append, sRet, eBin, eVar, eCall, eCons, eNil, eFn, lenD, okS_st, okR_bind, okR_ok, okR_of, okS_rt, List.getElem?_cons_succ, List.getElem?_cons_zero, e1, if_true]
  refine okR_imp (draw_ok d hk hk2 (by omega) (by omega)) fun r h' ⟨i, zs, hr, i0, i1, d', f⟩ => ?_
  subst hr
  obtain ⟨y, hy, _, e2⟩ := ix_at (f.keep j _ jn jl ej) i0 i1
  simp only [e2, okR_of]
  exact fin_dk d d' (by omega) ⟨hy, zs, d', f⟩
end K80

set_option Elab.async false
set_option linter.all false
set_option maxRecDepth 100000
set_option maxHeartbeats 4000000
namespace K80
open PySem Am
abbrev leaf : List D := [.non, .bl true, .bl false, .int 0, .int (-1), .int (10 ^ 39), .str [], .str [111, 114, 100, 101, 114], .str [97, 32, 98], .tup [], .int 1]
theorem leaf_ok {d : D} (hd : d ∈ leaf) (h : Hq) (B : Nat) : ∃ p, pyB h B 1 d = some p ∧ Gd 140 1 p := by
  simp only [leaf, List.mem_cons, List.not_mem_nil, or_false] at hd
  rcases hd with rfl | rfl | rfl | rfl | rfl | rfl | rfl | rfl | rfl | rfl | rfl
  all_goals exact ⟨_, rfl, by decide +kernel, by decide +kernel, by decide +kernel, by decide +kernel⟩
def cnt : Nat → Nat
  | 0 => 2
  | e + 1 => 2 + 2 * cnt e
def wt : Nat → Nat
  | 0 => 140
  | e + 1 => 4 * wt e + 10
def VOk (n l : Nat) (m k : Int) (c f W E : Nat) (h : Hq) (v : D) (h' : Hq) : Prop := ∃ ys k' p, Dk h' n l ys m k' ∧ k < k' ∧ k' ≤ k + c ∧ Fr n l h h' ∧ pyB h' h.length f v = some p ∧ Gd W E p
theorem VOk.fin {n l : Nat} {m k : Int} {c f W E : Nat} {h h' : Hq} {xs : List D} {v : D} (d : Dk h n l xs m k) (q : VOk n l m k c f W E h v h') : okR (fin h v h') (VOk n l m k c f W E h) := by
  obtain ⟨ys, k', p, d', hk, r⟩ := q
  exact fin_dk d d' (by omega) ⟨ys, k', p, d', hk, r⟩
theorem draw_call {n l : Nat} {xs : List D} {m k q : Int} {h : Hq} {Q : D → Hq → Prop} (d : Dk h n l xs m k) (hk : 0 ≤ k) (hk2 : k < 1000000) (hq : 0 < q) (hq2 : q < 1000000) (c : ∀ i ys h', 0 ≤ i → i < q → Dk h' n l ys m (k + 1) → Fr n l h h' → Q (.int i) h') : okR (F_draw [.ref n, .int q] h) Q :=
  okR_imp (draw_ok d hk hk2 hq hq2) fun r h' ⟨i, ys, e, a, b, d', f⟩ => by subst e; exact c i ys h' a b d' f
theorem Dk.nlt {h : Hq} {n l : Nat} {xs : List D} {m k : Int} (d : Dk h n l xs m k) : n < h.length ∧ l < h.length := ⟨lk_lt d.dic, lk_lt d.lst⟩
theorem leaf_call {n l : Nat} {xs : List D} {m k : Int} {h : Hq} {r : Ev} {N : Ev → Hq → Prop} {Q : D → Hq → Prop} (d : Dk h n l xs m k) (hk : 0 ≤ k) (hk2 : k < 1000000) (c : ∀ v ys h', v ∈ leaf → Dk h' n l ys m (k + 1) → Fr n l h h' → Q v h') :
    okS (sRet (eCall 2 F_pick (eCons (eVar 0) (eCons (eLst (eCons (eC .non) (eCons (eC (.bl true)) (eCons (eC (.bl false)) (eCons (eC (.int 0)) (eCons (eNeg (eC (.int 1))) (eCons (eBin powD (eC (.int 10)) (eC (.int 39))) (eCons (eC (.str [])) (eCons (eC (.str [111, 114, 100, 101, 114])) (eCons (eC (.str [97, 32, 98])) (eCons (eTup eNil) (eCons (eC (.int 1)) eNil)))))))))))) eNil))) (some (.ref n) :: r) h) N Q := by
  have pw : powD (.int 10) (.int 39) h = some (.int (10 ^ 39), h) := by
    have z : (0 : Int) ≤ 39 ∧ (39 : Int) ≤ 1000000 ∧ (10 : Int).natAbs < 2 ^ 64 := by decide
    simp only [powD]
    rw [if_pos z]
    rfl
  have hz : (leaf : List D).length ≤ lim := by decide
  simp only [sRet, eCall, eCons, eNil, eVar, eC, eNeg, negD, eBin, pw, eTup, eLst, okS_st, okR_bind, okR_ok, okR_of, okS_rt, List.getElem?_cons_zero, List.length_nil, Nat.zero_le, if_true]
  show okR (R.of (newL leaf h)) _
  have en : newL leaf h = some (.ref h.length, h ++ [.lst leaf]) := by unfold newL; rw [if_pos hz]
  simp only [en, okR_of]
  have nl := d.nlt
  refine okR_imp (pick_ok (j := h.length) (d.app [.lst leaf]) hk hk2 lk_new (by omega) (by omega) (by decide) (by decide)) fun v h' ⟨hv, ys, d', f⟩ => c v ys h' hv d' (Fr.app.trans f)
theorem value_step {F : FN} {n l : Nat} {xs : List D} {m k d : Int} {c f W E : Nat} {h : Hq} (D0 : Dk h n l xs m k) (hk : 0 ≤ k) (hc : k + (2 + 2 * c) < 1000000) (hd : 0 ≤ d) (hW : 140 ≤ 4 * W + 10)
    (hF : 0 < d → ∀ {h xs k}, Dk h n l xs m k → 0 ≤ k → k + c < 1000000 → okR (F [.ref n, .int (d - 1)] h) (VOk n l m k c f W E h)) :
    okR (fnB 5 (m_value F) [.ref n, .int d] h) (VOk n l m k (2 + 2 * c) (f + 2) (4 * W + 10) (E + 2) h) := by
  refine okR_fn ?_
  unfold m_value
  refine okS_step fun NN hN => ?_
  simp only [List.map, List.length_cons, List.length_nil, List.replicate, List.cons_append, List.nil_append, sAsg, eCall, eCons, eNil, eVar, eC, okS_st, okR_bind, okR_ok, List.getElem?_cons_succ, List.getElem?_cons_zero, if_true]
  refine draw_call D0 hk (by omega) (by omega) (by omega) fun way ys1 h1 w0 w1 D1 f1 => ?_
  simp only [gNm, goT, okS_nx, List.set]
  refine hN _ _ ?_
  refine okS_step fun NN hN => ?_
  have leafQ : okS (sRet (eCall 2 F_pick (eCons (eVar 0) (eCons (eLst (eCons (eC .non) (eCons (eC (.bl true)) (eCons (eC (.bl false)) (eCons (eC (.int 0)) (eCons (eNeg (eC (.int 1))) (eCons (eBin powD (eC (.int 10)) (eC (.int 39))) (eCons (eC (.str [])) (eCons (eC (.str [111, 114, 100, 101, 114])) (eCons (eC (.str [97, 32, 98])) (eCons (eTup eNil) (eCons (eC (.int 1)) eNil)))))))))))) eNil))) [some (.ref n), some (.int d), some (.int way), none, none] h1) NN (fun d h' => okR (fin h d h') (VOk n l m k (2 + 2 * c) (f + 2) (4 * W + 10) (E + 2) h)) := by
    refine leaf_call D1 (by omega) (by omega) fun v ys h' hv D2 f2 => VOk.fin D0 ?_
    obtain ⟨p, e1, g⟩ := leaf_ok hv h' h.length
    exact ⟨ys, _, p, D2, by omega, by omega, f1.trans f2, pyB_mono (Nat.le_refl _) (fun _ _ _ e => e) (by omega) e1, g.mono hW (by omega)⟩
  by_cases hw : way < 6
  · simp only [sIf, bOr, eT, eBin, eVar, eC, ltD, okS_st, okR_bind, okR_ok, okR_of, List.getElem?_cons_succ, List.getElem?_cons_zero, hw, decide_true, if_true]
    exact leafQ
  · by_cases hz : d = 0
    · simp only [sIf, bOr, eT, eBin, eVar, eC, ltD, eqD, okS_st, okR_bind, okR_ok, okR_of, List.getElem?_cons_succ, List.getElem?_cons_zero, hw, hz, decide_true, decide_false, Bool.false_eq_true, if_false, if_true]
      subst hz
      exact leafQ
    · simp only [sIf, bOr, eT, eBin, eVar, eC, ltD, eqD, sNil, okS_st, okS_nx, okR_bind, okR_ok, okR_of, List.getElem?_cons_succ, List.getElem?_cons_zero, hw, hz, decide_false, Bool.false_eq_true, if_false]
      refine hN _ _ ?_
      refine okS_step fun NN hN => ?_
      simp only [sAsg, eCmp, iRn1, eCall, eCons, eNil, eVar, eC, okS_st, okR_bind, okR_ok, List.getElem?_cons_succ, List.getElem?_cons_zero, List.length_cons, List.length_nil, if_true]
      refine draw_call D1 (by omega) (by omega) (by omega) (by omega) fun j ys2 h2 j0 j1 D2 f2 => ?_
      have jj : j < 2 ^ 62 ∧ -(2 ^ 62) ≤ j := by omega
      simp only [if_pos jj, okR_ok]
      have D3 := D2.app [.lst []]
      have nl := D2.nlt
      have nla := D0.nlt
      have l1 := f1.le
      have l2 := f2.le
      refine okR_cmp (fun i acc h' => ∃ ys k', Dk h' n l ys m k' ∧ k + 2 ≤ k' ∧ k' ≤ k + 2 + i * c ∧ (i : Int) ≤ j ∧ Fr n l h2 h' ∧ h'[h2.length]? = some (.lst acc) ∧ acc.length = i ∧ ∀ y ∈ acc, ∃ p, pyB h' (h2.length + 1) f y = some p ∧ Gd W E p) _ 0 [] _ ?_ (fun _ _ _ _ => rfl) ?_ ?_
      · exact ⟨ys2, k + 1 + 1, D3, by omega, by omega, by omega, Fr.app, lk_new, rfl, by simp⟩
      · rintro i x acc h' i0 hx ⟨ys, k', D4, b1, b2, b3, f4, em, el, hy⟩
        have hi : (i : Int) < j := by
          have := (List.getElem?_eq_some_iff.mp hx).1
          simp at this
          omega
        have i2 : i ≤ 1 := by omega
        refine ⟨_, rfl, ?_⟩
        have ic : (i : Int) * c ≤ c := by
          have : (i : Int) * c ≤ 1 * c := Int.mul_le_mul_of_nonneg_right (by omega) (by omega)
          omega
        simp only [eCall, eCons, eNil, eVar, eC, eBin, subD, okR_bind, okR_ok, okR_of, wipeD, List.set, List.getElem?_cons_succ, List.getElem?_cons_zero, List.length_cons, List.length_nil, if_true]
        have ha : h2.length < h'.length := lk_lt em
        refine okR_imp (hF (by omega) D4 (by omega) (by omega)) fun y h5 ⟨zs, k5, p, D5, c1, c2, f5, ep, gp⟩ => ?_
        have em5 : h5[h2.length]? = some (.lst acc) := f5.keep _ _ (by omega) (by omega) em
        have keep6 : ∀ q o, h2.length + 1 ≤ q → h5[q]? = some o → (h5.set h2.length (.lst (acc ++ [y])))[q]? = some o := fun q o hq e => by rw [lk_ne (by omega)]; exact e
        refine ⟨by simp [mutL, em5], by simp only [lim]; omega, zs, k5, ⟨by rw [lk_ne (by omega)]; exact D5.dic, by rw [lk_ne (by omega)]; exact D5.lst, D5.ne, D5.alli, D5.len⟩, by omega, ?_, by omega, ?_, ?_, by simp [el], ?_⟩
        · have : ((i + 1 : Nat) : Int) * c = i * c + c := by
            rw [Int.natCast_add, Int.add_mul]; simp
          omega
        · refine ⟨fun q o q1 q2 e => ?_, by rw [List.length_set]; exact Nat.le_trans f4.le f5.le⟩
          rw [lk_ne (by have := lk_lt e; omega)]
          exact f5.keep q o q1 q2 (f4.keep q o q1 q2 e)
        · exact lk_set em5
        · intro w hw
          rcases List.mem_append.mp hw with z | z
          · obtain ⟨p', e', g'⟩ := hy w z
            exact ⟨p', pyB_mono (Nat.le_refl _) (fun q o hq e => keep6 q o hq (f5.keep q o (by omega) (by omega) e)) (Nat.le_refl _) e', g'⟩
          · have : w = y := by simpa using z
            subst this
            exact ⟨p, pyB_mono (by omega) (fun q o hq e => keep6 q o (by omega) e) (Nat.le_refl _) ep, gp⟩
      · rintro acc h3 ⟨ys, k', D4, b1, b2, b3, f4, em, el, hy⟩
        simp only [gNm, goT, okR_ok, okS_nx, List.set]
        refine hN _ _ ?_
        have jl : ((List.range j.toNat).map fun (i : Nat) => D.int (i : Int)).length = j.toNat := by simp
        rw [jl] at b2 b3 el
        have lh3 : h2.length < h3.length := lk_lt em
        have nl0 : acc.length ≤ 2 := by omega
        -- the four things
        have qd : dicOf (h3 ++ [.dic []]) h3.length = some [] := by simp [dicOf]
        have qt : tupleD [.ref h2.length] h3 = some (.tup acc, h3) := by simp [tupleD, itemsD, lstOf, em]
        have qs : (([((D.str [112, 97, 114, 116] : D), (D.ref h2.length : D))] : List (D × D)).all (fun p => (keyD p.1).isSome) && decide (([((D.str [112, 97, 114, 116] : D), (D.ref h2.length : D))] : List (D × D)).length ≤ 15)) = true := rfl
        have qm : mergeD [] [((D.str [112, 97, 114, 116] : D), (D.ref h2.length : D))] = [((D.str [112, 97, 114, 116] : D), (D.ref h2.length : D))] := by simp [mergeD, dput]
        have q2 : ([D.ref h2.length, D.str [120]] : List D).length ≤ lim := by show 2 ≤ lim; decide
        simp only [sRet, eBin, eLst, eCons, eNil, eVar, eC, eFn, eTup, eDic, ePairs, qt, qd, okS_st, okS_rt, okR_bind, okR_ok, okR_of, List.getElem?_cons_succ, List.getElem?_cons_zero, if_pos qs, qm, if_pos q2]
        have h4f : ∀ i o, h3[i]? = some o → ((h3 ++ [O.dic []]).set h3.length (.dic [((D.str [112, 97, 114, 116] : D), (D.ref h2.length : D))]))[i]? = some o := fun i o e => by
          rw [lk_ne (by have := lk_lt e; omega)]; exact lk_app e _
        have h4b : ((h3 ++ [O.dic []]).set h3.length (.dic [((D.str [112, 97, 114, 116] : D), (D.ref h2.length : D))]))[h3.length]? = some (.dic [((D.str [112, 97, 114, 116] : D), (D.ref h2.length : D))]) := lk_set lk_new
        have h4l : ((h3 ++ [O.dic []]).set h3.length (.dic [((D.str [112, 97, 114, 116] : D), (D.ref h2.length : D))])).length = h3.length + 1 := by simp
        revert h4f h4b h4l
        generalize (h3 ++ [O.dic []]).set h3.length (.dic [((D.str [112, 97, 114, 116] : D), (D.ref h2.length : D))]) = h4
        intro h4f h4b h4l
        have qn : newL [D.ref h2.length, D.tup acc, D.ref h3.length, D.tup [D.ref h2.length, D.str [120]]] h4 = some (.ref h4.length, h4 ++ [.lst [D.ref h2.length, D.tup acc, D.ref h3.length, D.tup [D.ref h2.length, D.str [120]]]]) := by
          unfold newL; rw [if_pos (by show 4 ≤ lim; decide)]
        simp only [qn, okR_of, subD]
        have keep : ∀ i o, h3[i]? = some o → (h4 ++ [O.lst [D.ref h2.length, D.tup acc, D.ref h3.length, D.tup [D.ref h2.length, D.str [120]]]])[i]? = some o := fun i o e => lk_app (h4f i o e) _
        have hb := lk_app h4b [O.lst [D.ref h2.length, D.tup acc, D.ref h3.length, D.tup [D.ref h2.length, D.str [120]]]]
        have hc4 : (h4 ++ [O.lst [D.ref h2.length, D.tup acc, D.ref h3.length, D.tup [D.ref h2.length, D.str [120]]]])[h4.length]? = some _ := lk_new
        have hl5 : h3.length ≤ (h4 ++ [O.lst [D.ref h2.length, D.tup acc, D.ref h3.length, D.tup [D.ref h2.length, D.str [120]]]]).length := by simp; omega
        revert keep hb hc4 hl5
        generalize h4 ++ [O.lst [D.ref h2.length, D.tup acc, D.ref h3.length, D.tup [D.ref h2.length, D.str [120]]]] = h5
        intro keep hb hc4 hl5
        have em5 := keep _ _ em
        have D5 : Dk h5 n l ys m k' := ⟨keep _ _ D4.dic, keep _ _ D4.lst, D4.ne, D4.alli, D4.len⟩
        have F5 : Fr n l h h5 := (f1.trans (f2.trans f4)).trans ⟨fun i o _ _ e => keep i o e, hl5⟩
        have kk : k' ≤ k + (2 + 2 * c : Nat) := by
          have : ((0 + j.toNat : Nat) : Int) * c ≤ 2 * c := Int.mul_le_mul_of_nonneg_right (by omega) (by omega)
          push_cast
          omega
        obtain ⟨ps, eps, lps, gps⟩ := pyDs_all (g := pyB h5 h.length f) (ds := acc) (P := Gd W E) fun y hy' => by
          obtain ⟨p, e', g'⟩ := hy y hy'
          exact ⟨p, pyB_mono (by omega) (fun i o _ e => keep i o e) (Nat.le_refl _) e', g'⟩
        have up : ∀ {f' : Nat}, f ≤ f' → pyDs (pyB h5 h.length f') acc = some ps := fun hf => pyDs_imp (fun d p e => pyB_mono (Nat.le_refl _) (fun _ _ _ e => e) hf e) eps
        obtain ⟨gl, gt⟩ := Gd.list gps
        have wl : (W + 1) * ps.length ≤ 2 * W + 2 := by
          rw [lps]
          have : (W + 1) * acc.length ≤ (W + 1) * 2 := Nat.mul_le_mul_left _ nl0
          omega
        have pa : ∀ f', f < f' → pyB h5 h.length f' (.ref h2.length) = some (.list ps) := fun f' hf => by
          obtain ⟨g', rfl⟩ : ∃ g', f' = g' + 1 := ⟨f' - 1, by omega⟩
          unfold pyB
          rw [if_pos (by omega), em5]
          show (pyDs _ _).map _ = _
          rw [up (by omega)]; rfl
        have done : ∀ v p, pyB h5 h.length (f + 2) v = some p → Gd (4 * W + 10) (E + 2) p → okR (fin h v h5) (VOk n l m k (2 + 2 * c) (f + 2) (4 * W + 10) (E + 2) h) := fun v p e g =>
          VOk.fin D0 ⟨ys, k', p, D5, by omega, kk, F5, e, g⟩
        obtain ⟨y, hy1, hy2, hy3⟩ := ix_at (i := way - 6) hc4 (by omega) (by simp; omega)
        simp only [hy3, okR_of]
        have cw : way - 6 = 0 ∨ way - 6 = 1 ∨ way - 6 = 2 ∨ way - 6 = 3 := by omega
        have gs : Gd 4 0 (.str (tx [120])) := ⟨rfl, by decide +kernel, by decide +kernel, by decide +kernel⟩
        have gp : Gd 4 0 (.str (tx [112, 97, 114, 116])) := ⟨rfl, by decide +kernel, by decide +kernel, by decide +kernel⟩
        rcases cw with cw | cw | cw | cw <;> rw [cw] at hy2 <;> simp at hy2 <;> subst hy2
        · exact done _ _ (pa _ (by omega)) (gl.mono (by omega) (by omega))
        · refine done _ (.tuple ps) ?_ (gt.mono (by omega) (by omega))
          unfold pyB
          rw [up (by omega)]; rfl
        · refine done _ (.dict [(.str (tx [112, 97, 114, 116]), .list ps)]) ?_ ((Gd.dict (W := 2 * W + 4) (E := E + 1) (gp.mono (by omega) (by omega)) (gl.mono (by omega) (Nat.le_refl _))).mono (by omega) (by omega))
          unfold pyB
          rw [if_pos (by omega), hb]
          show (pyKv _ _).map _ = _
          simp only [pyKv, pa (f + 1) (by omega)]
          rfl
        · have gg := (Gd.list (W := 2 * W + 4) (E := E + 1) (ps := [.list ps, .str (tx [120])]) (fun p hp => by
            simp at hp
            rcases hp with rfl | rfl
            · exact gl.mono (by omega) (Nat.le_refl _)
            · exact gs.mono (by omega) (by omega))).2
          refine done _ (.tuple [.list ps, .str (tx [120])]) ?_ (gg.mono (by simp; omega) (by omega))
          unfold pyB
          simp only [pyDs, pa (f + 1) (by omega)]
          rfl
end K80
namespace K80
open PySem Am
def cs : Nat → Nat
  | 0 => 2
  | e + 1 => 2 + 2 * cs e
def fsz (e : Nat) : Nat := 2 * e + 2
def ws : Nat → Nat
  | 0 => 142
  | e + 1 => 4 * ws e + 10
theorem ws_ge : ∀ e, 142 ≤ ws e
  | 0 => Nat.le_refl _
  | e + 1 => by have := ws_ge e; simp only [ws]; omega
theorem value_ok : ∀ (e : Nat) {h : Hq} {n l : Nat} {xs : List D} {m k d : Int}, Dk h n l xs m k → 0 ≤ k → k + cs e < 1000000 → 0 ≤ d → d ≤ e → okR (F_value (e + 1) [.ref n, .int d] h) (VOk n l m k (cs e) (fsz e) (ws e) (fsz e) h)
  | 0, h, n, l, xs, m, k, d, D0, hk, hc, h0, h1 => value_step (F := F_value 0) (c := 0) (f := 0) (W := 33) (E := 0) D0 hk (by simpa [cs] using hc) h0 (by decide) fun z => absurd z (by omega)
  | e + 1, h, n, l, xs, m, k, d, D0, hk, hc, h0, h1 => value_step (F := F_value (e + 1)) (c := cs e) (f := fsz e) (W := ws e) (E := fsz e) D0 hk (by simpa [cs] using hc) h0 (by have := ws_ge e; omega) fun z h xs k D1 hk1 hc1 => value_ok e D1 hk1 hc1 (by omega) (by omega)
end K80

set_option Elab.async false
set_option linter.all false
set_option maxRecDepth 100000
set_option maxHeartbeats 4000000
namespace K80
open PySem Am
/-- only more objects -/
def Ex (h h' : Hq) : Prop := h'.take h.length = h
theorem Ex.refl {h : Hq} : Ex h h := by simp [Ex]
theorem Ex.app {h t : Hq} : Ex h (h ++ t) := by simp [Ex]
theorem Ex.le {h h' : Hq} (e : Ex h h') : h.length ≤ h'.length := by
  have := congrArg List.length e
  rw [List.length_take] at this
  omega
theorem Ex.at_ {h h' : Hq} (e : Ex h h') {i : Nat} {o : O} (x : h[i]? = some o) : h'[i]? = some o := by
  have : (h'.take h.length)[i]? = h'[i]? := by rw [List.getElem?_take, if_pos (lk_lt x)]
  rw [e] at this
  rw [← this]; exact x
theorem Ex.trans {h h1 h2 : Hq} (a : Ex h h1) (b : Ex h1 h2) : Ex h h2 := by
  have l := a.le
  unfold Ex at *
  have e : h2.take h.length = (h2.take h1.length).take h.length := by rw [List.take_take, Nat.min_eq_left l]
  rw [e, b, a]
theorem Ex.set {h h' : Hq} (e : Ex h h') {a : Nat} {o : O} (ha : h.length ≤ a) : Ex h (h'.set a o) := by
  unfold Ex at *
  rw [List.take_set_of_le ha]
  exact e
abbrev ord : List String := ["BadFormat", "BadWord", "BadRecord", "InvalidText", "NoReading", "NotSure", "NoBook", "EvenLength", "NameTaken", "UnknownName", "OtherLetters", "TwoReadings", "NotEnough"]
theorem tab1 : ∀ c ∈ xsE, ∀ x ∈ ord, ansC tbC (.own c) [.own x] = some (decide (c = x)) := by decide +kernel
theorem tab2 : ∀ c ∈ xsE, ansC tbC (.own c) [.own "ReadError"] = some true ∧ ansC tbC (.own c) [.ty "Exception"] = some true ∧ ansC tbC (.own c) [.ty "ValueError", .ty "LookupError", .ty "ArithmeticError", .ty "TypeError"] = some false ∧ ansC tbC (.own c) [.ty "RuntimeError", .ty "AttributeError", .ty "KeyError"] = some false := by decide +kernel
theorem is_eq {h : Hq} {i : Nat} {c : String} {fs : List (String × D)} (e : h[i]? = some (.exc c fs)) (hc : c ∈ xsE) {ks : List Cl} {b : Bool} (ha : ansC tbC (.own c) ks = some b) {ρ : Ev} {m : E} (em : m ρ h = .ok (.ref i) h) : eIs xsE tbC ks m ρ h = .ok (.bl b) h := by
  unfold eIs
  rw [em]
  show (match (clD xsE h (.ref i)).bind fun t => ansC tbC t ks with | some b => R.ok (D.bl b) h | none => R.bad) = _
  have : clD xsE h (.ref i) = some (.own c) := by
    simp only [clD, e]
    rw [if_pos (by simpa using hc)]
  rw [this]
  show (match ansC tbC (.own c) ks with | some b => R.ok (D.bl b) h | none => R.bad) = _
  rw [ha]
def clsL (c : String) : List D := ord.map fun x => .bl (decide (c = x))

theorem is_own {h : Hq} {i : Nat} {c : String} {fs : List (String × D)} (e : h[i]? = some (.exc c fs)) (hc : c ∈ xsE) {r : Ev} (x : String) (hx : x ∈ ord := by decide) : eIs xsE tbC [.own x] (eVar 0) (some (.ref i) :: r) h = .ok (.bl (decide (c = x))) h := is_eq e hc (tab1 c hc x hx) rfl
theorem cat_eq {h : Hq} {a b : Nat} {xs ys : List D} (ea : h[a]? = some (.lst xs)) (eb : h[b]? = some (.lst ys)) (hl : xs.length + ys.length ≤ 100) : addD (.ref a) (.ref b) h = some (.ref h.length, h ++ [.lst (xs ++ ys)]) := by
  have e1 : mutL h (.ref a) = some xs := by simp [mutL, ea]
  have e2 : mutL h (.ref b) = some ys := by simp [mutL, eb]
  simp only [addD, e1, e2, newL]
  rw [if_pos (by simp only [List.length_append, lim]; omega)]
theorem newL_eq {h : Hq} {xs : List D} (hl : xs.length ≤ 100) : newL xs h = some (.ref h.length, h ++ [.lst xs]) := by unfold newL; rw [if_pos (by simp only [lim]; omega)]
theorem more_eq {h : Hq} {j : Nat} {xs ys : List D} {a : EA} {ρ : Ev} {Q : D → Hq → Prop} (ej : h[j]? = some (.lst xs)) (ev : ρ[1]? = some (some (.ref j))) (ha : a ρ h = .ok ys h) (hl : xs.length + ys.length ≤ 100)
    (q : ∀ j2 h2, h2[j2]? = some (.lst (xs ++ ys)) → h.length ≤ j2 → Ex h h2 → Q (.ref j2) h2) : okR (eBin addD (eVar 1) (eLst a) ρ h) Q := by
  have e1 := lk_app ej [.lst ys]
  simp only [eBin, eVar, eLst, ev, ha, okR_bind, okR_ok, newL_eq (h := h) (xs := ys) (by omega), okR_of, cat_eq e1 lk_new hl]
  exact q _ _ lk_new (by simp) (Ex.app.trans Ex.app)
theorem classes_ok {h : Hq} {i : Nat} {c : String} {fs : List (String × D)} (e : h[i]? = some (.exc c fs)) (hc : c ∈ xsE) : okR (F_classes [.ref i] h) fun d h' => ∃ j, d = .ref j ∧ h'[j]? = some (.lst (clsL c)) ∧ h.length ≤ j ∧ Ex h h' := by
  refine okR_fn ?_
  unfold m_classes
  simp only [N_classes, List.map, List.length_cons, List.length_nil, List.replicate, List.cons_append, List.nil_append]
  refine okS_step fun NN hN => ?_
  simp only [sAsg, eLst, eCons, eNil, is_own e hc "BadFormat", is_own e hc "BadWord", is_own e hc "BadRecord", is_own e hc "InvalidText", okS_st, okR_bind, okR_ok, newL_eq (h := h) (xs := [_, _, _, _]) (by decide : (4 : Nat) ≤ 100), okR_of, gNm, goT, okS_nx, List.set]
  refine hN _ _ ?_
  have e1 := lk_app e [.lst [D.bl (decide (c = "BadFormat")), .bl (decide (c = "BadWord")), .bl (decide (c = "BadRecord")), .bl (decide (c = "InvalidText"))]]
  have l1 : (h ++ [O.lst [D.bl (decide (c = "BadFormat")), .bl (decide (c = "BadWord")), .bl (decide (c = "BadRecord")), .bl (decide (c = "InvalidText"))]])[h.length]? = some _ := lk_new
  have x1 : Ex h (h ++ [O.lst [D.bl (decide (c = "BadFormat")), .bl (decide (c = "BadWord")), .bl (decide (c = "BadRecord")), .bl (decide (c = "InvalidText"))]]) := Ex.app
  have g1 : h.length ≤ h.length := Nat.le_refl _
  revert e1 l1 x1 g1
  generalize h ++ [O.lst [D.bl (decide (c = "BadFormat")), .bl (decide (c = "BadWord")), .bl (decide (c = "BadRecord")), .bl (decide (c = "InvalidText"))]] = h1
  generalize hj : h.length = j1
  intro e1 l1 x1 g1
  refine okS_step fun NN hN => ?_
  simp only [sAsg, okS_st]
  refine more_eq (ys := [.bl (decide (c = "NoReading")), .bl (decide (c = "NotSure")), .bl (decide (c = "NoBook")), .bl (decide (c = "EvenLength"))]) l1 rfl (by simp only [eCons, eNil, is_own e1 hc "NoReading", is_own e1 hc "NotSure", is_own e1 hc "NoBook", is_own e1 hc "EvenLength", R.bind]) (by simp) fun j2 h2 l2 g2 x2 => ?_
  simp only [gNm, goT, okS_nx, List.set]
  refine hN _ _ ?_
  have e2 := x2.at_ e1
  refine okS_step fun NN hN => ?_
  simp only [sAsg, okS_st]
  refine more_eq (ys := [.bl (decide (c = "NameTaken")), .bl (decide (c = "UnknownName")), .bl (decide (c = "OtherLetters"))]) l2 rfl (by simp only [eCons, eNil, is_own e2 hc "NameTaken", is_own e2 hc "UnknownName", is_own e2 hc "OtherLetters", R.bind]) (by simp) fun j3 h3 l3 g3 x3 => ?_
  simp only [gNm, goT, okS_nx, List.set]
  refine hN _ _ ?_
  have e3 := x3.at_ e2
  simp only [sRet, okS_st]
  refine more_eq (ys := [.bl (decide (c = "TwoReadings")), .bl (decide (c = "NotEnough"))]) l3 rfl (by simp only [eCons, eNil, is_own e3 hc "TwoReadings", is_own e3 hc "NotEnough", R.bind]) (by simp) fun j4 h4 l4 g4 x4 => ?_
  simp only [okS_rt]
  have le : h.length ≤ j4 := by have := x1.le; have := x2.le; have := x3.le; omega
  have ex : Ex h h4 := ((x1.trans x2).trans x3).trans x4
  refine okR_fin ⟨j4, rfl, ?_, by omega, ex⟩ fun z => ?_
  · rw [l4]; rfl
  · simp [D.cl] at z
    omega
end K80

set_option Elab.async false
set_option linter.all false
set_option maxRecDepth 100000
set_option maxHeartbeats 400000
namespace K80
open PySem Am
theorem comp_ok {h : Hq} {k : Nat} {ρ : Ev} {at_ : Int} {e : E} {Q : D → Hq → Prop} (he : ∀ (x : Int) (h' : Hq), e ((wipeD ρ [k]).set k (some (.int x))) h' = .ok (.bl (decide (x = at_))) h')
    (q : ∀ j h', h'[j]? = some (.lst ((List.range 13).map fun (x : Nat) => D.bl (decide ((x : Int) = at_)))) → h.length ≤ j → Ex h h' → Q (.ref j) h') : okR (eCmp (iRn1 (eC (.int 13))) (.nm k) none e [k] ρ h) Q := by
  have jj : (13 : Int) < 2 ^ 62 ∧ -(2 ^ 62) ≤ (13 : Int) := by decide
  simp only [eCmp, iRn1, eC, okR_bind, okR_ok, if_pos jj]
  refine okR_cmp (fun i acc h' => acc = (List.range i).map (fun (x : Nat) => D.bl (decide ((x : Int) = at_))) ∧ h'[h.length]? = some (.lst acc) ∧ Ex h h' ∧ i ≤ 13) _ 0 [] _ ⟨rfl, lk_new, Ex.app, by omega⟩ (fun _ _ _ _ => rfl) ?_ ?_
  · rintro i x acc h' i0 hx ⟨ea, el, ex, i1⟩
    have hi : i < 13 := by
      have := (List.getElem?_eq_some_iff.mp hx).1
      simpa using this
    have ex' : x = .int (i : Int) := by
      have z : ((List.range (13 : Int).toNat).map fun (i : Nat) => D.int (i : Int))[i - 0]? = some (.int (i : Int)) := by
        rw [List.getElem?_map, Nat.sub_zero, List.getElem?_range (by show i < 13; omega)]; rfl
      rw [z] at hx
      exact (Option.some.inj hx).symm
    subst ex'
    refine ⟨_, rfl, ?_⟩
    rw [he]
    refine ⟨by simp [mutL, el], by subst ea; simp [lim]; omega, ?_, lk_set el, ex.set (Nat.le_refl _), by omega⟩
    rw [ea, List.range_succ, List.map_append]
    rfl
  · rintro acc h' ⟨ea, el, ex, _⟩
    exact q _ _ (by rw [el, ea]; rfl) (Nat.le_refl _) ex
theorem tab3 : ∀ at_ ∈ List.range 13, ∀ c ∈ ord, ord[at_]? = some c → (clsL c = (List.range 13).map fun (x : Nat) => D.bl (decide ((x : Int) = (at_ : Int)))) := by decide +kernel
theorem okB_bls (xs : List D) (h : ∀ x ∈ xs, ∃ b, x = .bl b) : okB xs = true := by
  unfold okB
  have : xs.all (okD true dep) = true := List.all_eq_true.mpr fun x hx => by
    obtain ⟨i, rfl⟩ := h x hx
    rfl
  rw [this, Bool.or_true]
theorem ne_lists {h : Hq} {a b : Nat} {xs : List D} (ea : h[a]? = some (.lst xs)) (eb : h[b]? = some (.lst xs)) (hb : ∀ x ∈ xs, ∃ b, x = .bl b) : neD (.ref a) (.ref b) h = some (.bl false, h) := by
  have e1 : mutL h (.ref a) = some xs := by simp [mutL, ea]
  have e2 : mutL h (.ref b) = some xs := by simp [mutL, eb]
  have e3 : okB (xs ++ xs) = true := okB_bls _ fun x hx => (List.mem_append.mp hx).elim (hb x) (hb x)
  simp only [neD, eqP, e1, e2, e3, if_true, Option.map_some]
  simp
theorem clsL_bl (c : String) : ∀ x ∈ clsL c, ∃ b, x = .bl b := fun x hx => by
  obtain ⟨y, _, rfl⟩ := List.mem_map.mp hx
  exact ⟨_, rfl⟩
theorem ord_sub : ∀ c ∈ ord, c ∈ xsE := by decide
theorem eV0 {d : D} {r : Ev} {h : Hq} : eVar 0 (some d :: r) h = .ok d h := rfl
theorem eV1 {a : Option D} {d : D} {r : Ev} {h : Hq} : eVar 1 (a :: some d :: r) h = .ok d h := rfl
theorem alone_ok {h : Hq} {i at_ : Nat} {c : String} {fs : List (String × D)} (e : h[i]? = some (.exc c fs)) (ha : ord[at_]? = some c) : okR (F_is_alone [.ref i, .int (at_ : Int)] h) fun d h' => d = .bl true ∧ h' = h := by
  have hco : c ∈ ord := List.mem_of_getElem? ha
  have hc := ord_sub c hco
  have hat : at_ < 13 := (List.getElem?_eq_some_iff.mp ha).1
  obtain ⟨t1, t2, t3, t4⟩ := tab2 c hc
  refine okR_fn ?_
  unfold m_is_alone
  simp only [N_is_alone, List.map, List.length_cons, List.length_nil, List.replicate, List.cons_append, List.nil_append]
  refine okS_step fun NN hN => ?_
  simp only [sIf, bOr, eT, bNot, eBin, eCall, eCons, eNil, eV0, okS_st, okR_bind, okR_ok, List.getElem?_cons_zero, List.length_cons, List.length_nil, if_true]
  refine okR_imp (classes_ok e hc) fun d h1 ⟨j, ed, l1, g1, x1⟩ => ?_
  subst ed
  refine comp_ok (at_ := at_) (fun x h' => by simp [eBin, eVar, wipeD, eqD, R.bind, R.of]) fun j2 h2 l2 g2 x2 => ?_
  have e2 := x2.at_ (x1.at_ e)
  rw [← tab3 at_ (List.mem_range.mpr hat) c hco ha] at l2
  have q := ne_lists (x2.at_ l1) l2 (clsL_bl c)
  have i1 : ∀ {r : Ev} , eIs xsE tbC [.own "ReadError"] (eVar 0) (some (.ref i) :: r) h2 = .ok (.bl true) h2 := is_eq e2 hc t1 rfl
  have i2 : ∀ {r : Ev} , eIs xsE tbC [.ty "Exception"] (eVar 0) (some (.ref i) :: r) h2 = .ok (.bl true) h2 := is_eq e2 hc t2 rfl
  have i3 : ∀ {r : Ev} , eIs xsE tbC [.ty "ValueError", .ty "LookupError", .ty "ArithmeticError", .ty "TypeError"] (eVar 0) (some (.ref i) :: r) h2 = .ok (.bl false) h2 := is_eq e2 hc t3 rfl
  have i4 : ∀ {r : Ev} , eIs xsE tbC [.ty "RuntimeError", .ty "AttributeError", .ty "KeyError"] (eVar 0) (some (.ref i) :: r) h2 = .ok (.bl false) h2 := is_eq e2 hc t4 rfl
  simp only [q, okR_of, okR_ok, okR_bind, i1, Bool.false_eq_true, if_false, Bool.not_true, sNil, okS_nx]
  refine hN _ _ ?_
  refine okS_step fun NN hN => ?_
  simp only [sIf, bOr, eT, bNot, okS_st, okR_bind, okR_ok, i2, i3, Bool.not_true, Bool.false_eq_true, if_false, sNil, okS_nx]
  refine hN _ _ ?_
  simp only [sRet, eB, bNot, eT, okS_st, okS_rt, okR_bind, okR_ok, i4, Bool.not_false]
  exact okR_fin0 rfl (x1.trans x2) ⟨rfl, rfl⟩
end K80

set_option Elab.async false
set_option linter.all false
set_option maxRecDepth 100000
set_option maxHeartbeats 1000000
namespace K80
open PySem Am
/-- one of the ten branches -/
theorem one_br {c f : String} {mk : List Nat} {v : D} {h : Hq} {x : D} {N : Ev → Hq → Prop} {h0 : Hq} :
    okS (sRet (eTup (eCons (eMk c [f] 1 0 [0] (eCons (eVar 1) eNil) eNil) (eCons (eMk c [f] 0 1 [0] eNil (eCons (eVar 1) eNil)) (eCons (eC (.str mk)) eNil)))) [some x, some v] h) N
      (fun d h' => d = .tup [.ref h.length, .ref (h.length + 1), .str mk] ∧ h' = h ++ [.exc c [(f, v)], .exc c [(f, v)]]) := by
  simp [sRet, eTup, eCons, eNil, eMk, eVar, eC, sel, lim]
theorem if_no {a : Nat} {at_ : Int} {s : S} {v : D} {h : Hq} {b : S} {N : Ev → Hq → Prop} {Rt : D → Hq → Prop} (hn : at_ ≠ a) (q : okS (b [some (.int at_), some v] h) N Rt) : okS (sSeq (sIf (eT (eBin eqD (eVar 0) (eC (.int (a : Int))))) s sNil) b [some (.int at_), some v] h) N Rt := by
  refine okS_step fun NN hN => ?_
  simp only [sIf, eT, eBin, eV0, eC, eqD, okS_st, okR_bind, okR_ok, okR_of, hn, decide_false, Bool.false_eq_true, if_false, sNil, okS_nx]
  exact hN _ _ q
theorem if_yes {at_ : Int} {s : S} {v : D} {h : Hq} {b : S} {N : Ev → Hq → Prop} {Rt : D → Hq → Prop} (q : okS (s [some (.int at_), some v] h) (fun _ _ => False) Rt) : okS (sSeq (sIf (eT (eBin eqD (eVar 0) (eC (.int at_)))) s sNil) b [some (.int at_), some v] h) N Rt := by
  refine okS_step fun NN hN => ?_
  simp only [sIf, eT, eBin, eV0, eC, eqD, okS_st, okR_bind, okR_ok, okR_of, decide_true, if_true]
  exact okS_imp q (fun _ _ z => z.elim) fun _ _ z => z
def fld : List String := ["part", "word", "record", "line", "word", "place", "length", "length", "name", "name"]
def mkS (f : String) : List Nat := f.toList.map Char.toNat
def oneQ (c f : String) (v : D) (h : Hq) : D → Hq → Prop := fun d h' => d = .tup [.ref h.length, .ref (h.length + 1), .str (mkS f)] ∧ h' = h ++ [.exc c [(f, v)], .exc c [(f, v)]]
theorem one_fin {c f : String} {v : D} {h : Hq} {d : D} {h' : Hq} (q : oneQ c f v h d h') : okR (fin h d h') (oneQ c f v h) := by
  refine okR_fin q fun z => ?_
  obtain ⟨rfl, _⟩ := q
  simp [D.cl, D.cls] at z
theorem one_ok {v : D} {h : Hq} : ∀ at_ : Nat, at_ < 10 → ∃ c f, ord[at_]? = some c ∧ fld[at_]? = some f ∧ okR (F_one [.int (at_ : Int), v] h) (oneQ c f v h) := by
  intro at_ hat
  have br : ∀ (c f : String) (x : D), okS (sRet (eTup (eCons (eMk c [f] 1 0 [0] (eCons (eVar 1) eNil) eNil) (eCons (eMk c [f] 0 1 [0] eNil (eCons (eVar 1) eNil)) (eCons (eC (.str (mkS f))) eNil)))) [some x, some v] h) (fun _ _ => False) (fun d h' => okR (fin h d h') (oneQ c f v h)) := fun c f x =>
    okS_imp (one_br (N := fun _ _ => False) (h0 := h)) (fun _ _ z => z) fun d h' q => one_fin q
  match at_, hat with
  | 0, _ => exact ⟨_, _, rfl, rfl, okR_fn (if_yes (br "BadFormat" "part" _))⟩
  | 1, _ => exact ⟨_, _, rfl, rfl, okR_fn (if_no (a := 0) (by decide) (if_yes (br "BadWord" "word" _)))⟩
  | 2, _ => exact ⟨_, _, rfl, rfl, okR_fn (if_no (a := 0) (by decide) (if_no (a := 1) (by decide) (if_yes (br "BadRecord" "record" _))))⟩
  | 3, _ => exact ⟨_, _, rfl, rfl, okR_fn (if_no (a := 0) (by decide) (if_no (a := 1) (by decide) (if_no (a := 2) (by decide) (if_yes (br "InvalidText" "line" _)))))⟩
  | 4, _ => exact ⟨_, _, rfl, rfl, okR_fn (if_no (a := 0) (by decide) (if_no (a := 1) (by decide) (if_no (a := 2) (by decide) (if_no (a := 3) (by decide) (if_yes (br "NoReading" "word" _))))))⟩
  | 5, _ => exact ⟨_, _, rfl, rfl, okR_fn (if_no (a := 0) (by decide) (if_no (a := 1) (by decide) (if_no (a := 2) (by decide) (if_no (a := 3) (by decide) (if_no (a := 4) (by decide) (if_yes (br "NotSure" "place" _)))))))⟩
  | 6, _ => exact ⟨_, _, rfl, rfl, okR_fn (if_no (a := 0) (by decide) (if_no (a := 1) (by decide) (if_no (a := 2) (by decide) (if_no (a := 3) (by decide) (if_no (a := 4) (by decide) (if_no (a := 5) (by decide) (if_yes (br "NoBook" "length" _))))))))⟩
  | 7, _ => exact ⟨_, _, rfl, rfl, okR_fn (if_no (a := 0) (by decide) (if_no (a := 1) (by decide) (if_no (a := 2) (by decide) (if_no (a := 3) (by decide) (if_no (a := 4) (by decide) (if_no (a := 5) (by decide) (if_no (a := 6) (by decide) (if_yes (br "EvenLength" "length" _)))))))))⟩
  | 8, _ => exact ⟨_, _, rfl, rfl, okR_fn (if_no (a := 0) (by decide) (if_no (a := 1) (by decide) (if_no (a := 2) (by decide) (if_no (a := 3) (by decide) (if_no (a := 4) (by decide) (if_no (a := 5) (by decide) (if_no (a := 6) (by decide) (if_no (a := 7) (by decide) (if_yes (br "NameTaken" "name" _))))))))))⟩
  | 9, _ => exact ⟨_, _, rfl, rfl, okR_fn (if_no (a := 0) (by decide) (if_no (a := 1) (by decide) (if_no (a := 2) (by decide) (if_no (a := 3) (by decide) (if_no (a := 4) (by decide) (if_no (a := 5) (by decide) (if_no (a := 6) (by decide) (if_no (a := 7) (by decide) (if_no (a := 8) (by decide) (okS_imp (br "UnknownName" "name" _) (fun _ _ z => z.elim) fun _ _ z => z))))))))))⟩
  | n + 10, h3 => omega
/-- the held part -/
theorem xf_eq {h : Hq} {i : Nat} {c f : String} {v : D} {fs : List (String × D)} {ρ : Ev} {m : E} (em : m ρ h = .ok (.ref i) h) (e : h[i]? = some (.exc c fs)) (ht : tbF.contains (c, f) = true) (el : fs.lookup f = some v) : eXf tbF f m ρ h = .ok v h := by
  unfold eXf
  rw [em]
  show (match excF h tbF f (.ref i) with | some v => R.ok v h | none => R.bad) = _
  have : excF h tbF f (.ref i) = some v := by
    simp only [excF, e]
    rw [if_pos ht, el]
  rw [this]
theorem hif_no {i : Nat} {mk k : List Nat} {s b : S} {h : Hq} {N : Ev → Hq → Prop} {Rt : D → Hq → Prop} (hn : mk ≠ k) (q : okS (b [some (.ref i), some (.str mk)] h) N Rt) : okS (sSeq (sIf (eT (eBin eqD (eVar 1) (eC (.str k)))) s sNil) b [some (.ref i), some (.str mk)] h) N Rt := by
  refine okS_step fun NN hN => ?_
  simp only [sIf, eT, eBin, eV1, eC, eqD, okS_st, okR_bind, okR_ok, okR_of, hn, decide_false, Bool.false_eq_true, if_false, sNil, okS_nx]
  exact hN _ _ q
theorem hif_yes {i : Nat} {mk : List Nat} {s b : S} {h : Hq} {N : Ev → Hq → Prop} {Rt : D → Hq → Prop} (q : okS (s [some (.ref i), some (.str mk)] h) (fun _ _ => False) Rt) : okS (sSeq (sIf (eT (eBin eqD (eVar 1) (eC (.str mk)))) s sNil) b [some (.ref i), some (.str mk)] h) N Rt := by
  refine okS_step fun NN hN => ?_
  simp only [sIf, eT, eBin, eV1, eC, eqD, okS_st, okR_bind, okR_ok, okR_of, decide_true, if_true]
  exact okS_imp q (fun _ _ z => z.elim) fun _ _ z => z
theorem held_ok {h : Hq} {i : Nat} {c f : String} {v : D} (e : h[i]? = some (.exc c [(f, v)])) (ht : tbF.contains (c, f) = true) (hf : f ∈ ["part", "word", "record", "line", "place", "length", "name"]) : okR (F_held [.ref i, .str (mkS f)] h) fun d h' => d = v ∧ h' = h := by
  have xq : ∀ r, eXf tbF f (eVar 0) (some (.ref i) :: r) h = .ok v h := fun r => xf_eq (m := eVar 0) (ρ := some (.ref i) :: r) rfl e ht (by simp [List.lookup])
  have ret : ∀ (x : Option D), okS (sRet (eXf tbF f (eVar 0)) [some (.ref i), x] h) (fun _ _ => False) (fun d h' => okR (fin h d h') fun d h' => d = v ∧ h' = h) := fun x => by
    simp only [sRet, xq, okS_st, okR_ok, okS_rt]
    exact okR_fin ⟨rfl, rfl⟩ fun _ _ => ⟨rfl, rfl⟩
  simp only [List.mem_cons, List.not_mem_nil, or_false] at hf
  rcases hf with rfl | rfl | rfl | rfl | rfl | rfl | rfl
  · exact okR_fn (hif_yes (ret _))
  · exact okR_fn (hif_no (by decide) (hif_yes (ret _)))
  · exact okR_fn (hif_no (by decide) (hif_no (by decide) (hif_yes (ret _))))
  · exact okR_fn (hif_no (by decide) (hif_no (by decide) (hif_no (by decide) (hif_yes (ret _)))))
  · exact okR_fn (hif_no (by decide) (hif_no (by decide) (hif_no (by decide) (hif_no (by decide) (hif_yes (ret _))))))
  · refine okR_fn (hif_no (by decide) (hif_no (by decide) (hif_no (by decide) (hif_no (by decide) (hif_no (by decide) ?_)))))
    simp only [sRet, eIf, eT, eBin, eV1, eC, eqD, okS_st, okR_bind, okR_ok, okR_of, show mkS "length" = [108, 101, 110, 103, 116, 104] from rfl, decide_true, if_true, xq, okS_rt]
    exact okR_fin ⟨rfl, rfl⟩ fun _ _ => ⟨rfl, rfl⟩
  · refine okR_fn (hif_no (by decide) (hif_no (by decide) (hif_no (by decide) (hif_no (by decide) (hif_no (by decide) ?_)))))
    simp only [sRet, eIf, eT, eBin, eV1, eC, eqD, okS_st, okR_bind, okR_ok, okR_of, show decide (mkS "name" = [108, 101, 110, 103, 116, 104]) = false from rfl, Bool.false_eq_true, if_false, xq, okS_rt]
    exact okR_fin ⟨rfl, rfl⟩ fun _ _ => ⟨rfl, rfl⟩
end K80

set_option Elab.async false
set_option linter.all false
set_option maxRecDepth 100000
set_option maxHeartbeats 1000000
namespace K80
open PySem Am
theorem tab4 : ∀ c ∈ ["BadFormat", "NameTaken", "UnknownName", "NotEnough", "OtherLetters"], ansL tbC (.own c) csC = some (ord.map fun x => decide (c = x)) ∧ xsR.contains c = true := by decide +kernel
theorem try_eq {c : String} {fs : List (String × D)} {ρ : Ev} {h : Hq} {m : S} (em : m ρ h = .exc c fs ρ h) (hl : ρ.length = 4) (hc : c ∈ ["BadFormat", "NameTaken", "UnknownName", "NotEnough", "OtherLetters"]) :
    sTryH 3 2 xsR tbC csC m ρ h = .nx (((ρ.set 3 none).set 2 (some (.ref h.length))).set 3 none) (h ++ [.lst (clsL c)]) := by
  obtain ⟨t1, t2⟩ := tab4 c hc
  unfold sTryH
  rw [em]
  simp only
  rw [if_pos ⟨t2, by omega⟩, t1]
  simp only
  rw [if_pos (by simp)]
  rw [List.map_map]
  rfl
theorem raised_of {at_ : Int} {v : D} {h : Hq} {c : String} {fs : List (String × D)} {m : S} (em : m [some (.int at_), some v, some .non, none] h = .exc c fs [some (.int at_), some v, some .non, none] h) (hc : c ∈ ["BadFormat", "NameTaken", "UnknownName", "NotEnough", "OtherLetters"]) :
    okR (fnB 4 (sSeq (sAsg (eC .non) (gNm 2)) (sSeq (sTryH 3 2 xsR tbC csC m) (sRet (eVar 2)))) [.int at_, v] h) fun d h' => ∃ j, d = .ref j ∧ h'[j]? = some (.lst (clsL c)) ∧ h.length ≤ j ∧ Ex h h' := by
  refine okR_fn ?_
  simp only [List.map, List.length_cons, List.length_nil, List.replicate, List.cons_append, List.nil_append]
  refine okS_step fun NN hN => ?_
  simp only [sAsg, eC, gNm, goT, okS_st, okR_ok, okS_nx, List.set]
  refine hN _ _ ?_
  refine okS_step fun NN hN => ?_
  rw [try_eq em rfl hc]
  refine hN _ _ ?_
  simp only [List.set, sRet, eVar, okS_st, okR_ok, okS_rt, List.getElem?_cons_succ, List.getElem?_cons_zero]
  refine okR_fin ⟨_, rfl, lk_new, Nat.le_refl _, Ex.app⟩ fun z => ?_
  simp [D.cl] at z
def rs : List (Nat × String) := [(0, "BadFormat"), (8, "NameTaken"), (9, "UnknownName"), (12, "NotEnough"), (10, "OtherLetters")]
theorem raised_ok {v : D} {h : Hq} : ∀ at_ : Nat, at_ < 5 → ∃ p, rs[at_]? = some p ∧ okR (F_raised [.int (at_ : Int), v] h) fun d h' => ∃ j, d = .ref j ∧ h'[j]? = some (.lst (clsL p.2)) ∧ h.length ≤ j ∧ Ex h h' := by
  intro at_ hat
  match at_, hat with
  | 0, _ => exact ⟨_, rfl, raised_of rfl (by decide)⟩
  | 1, _ => exact ⟨_, rfl, raised_of rfl (by decide)⟩
  | 2, _ => exact ⟨_, rfl, raised_of rfl (by decide)⟩
  | 3, _ => exact ⟨_, rfl, raised_of rfl (by decide)⟩
  | 4, _ => exact ⟨_, rfl, raised_of rfl (by decide)⟩
  | n + 5, h3 => omega
/-! ### the deck -/
theorem cut_len {xs : List D} : (cutD xs none (some 60)).length ≤ 64 ∧ ∀ x ∈ cutD xs none (some 60), x ∈ xs := by
  have e : cutD xs none (some 60) = xs.take (min 60 xs.length) := by
    unfold cutD
    rw [HT.sIx_none, show (some (60 : Int)) = some ((60 : Nat) : Int) from rfl, HT.sIx_nat]
    simp
  rw [e]
  exact ⟨by rw [List.length_take]; omega, fun x hx => List.mem_of_mem_take hx⟩
theorem deck_ok (ns : List Int) : okR (F_deck [.ref 0] (scr ns)) fun d h => ∃ n l xs m, d = .ref n ∧ Dk h n l xs m 0 := by
  obtain ⟨cl, cm⟩ := cut_len (xs := ns.map D.int)
  have alli : ∀ x ∈ cutD (ns.map D.int) none (some 60), ∃ i, x = .int i := fun x hx => by
    obtain ⟨y, _, rfl⟩ := List.mem_map.mp (cm x hx)
    exact ⟨y, rfl⟩
  have s1 : slD (.ref 0) none (some 60) (scr ns) = some (.ref 1, [.fro (ns.map D.int), .lst (cutD (ns.map D.int) none (some 60))]) := by
    simp only [slD, lstOf, scr, List.getElem?_cons_zero, Option.bind_some, newL]
    rw [if_pos (by simp only [lim]; omega)]
    rfl
  generalize cutD (ns.map D.int) none (some 60) = C at cl alli s1
  have s2 : listD [.ref 1] [O.fro (ns.map D.int), .lst C] = some (.ref 2, [.fro (ns.map D.int), .lst C, .lst C]) := by
    simp only [listD, itemsD, lstOf, List.getElem?_cons_succ, List.getElem?_cons_zero, Option.bind_some, newL]
    rw [if_pos (by simp only [lim]; omega)]
    rfl
  refine okR_fn ?_
  unfold m_deck
  simp only [N_deck, List.map, List.length_cons, List.length_nil, List.replicate, List.cons_append, List.nil_append]
  refine okS_step fun NN hN => ?_
  simp only [sPar, eCons, eFn, eSl, eV0, oNo, oYes, eC, eNil, okS_st, okR_bind, okR_ok, s1, okR_of, s2, okS_nx, List.set]
  refine hN _ _ ?_
  refine okS_step fun NN hN => ?_
  have w1 : wkD [O.fro (ns.map D.int), .lst C, .lst C] (.ref 2) = some (C, fun h' => decide (lstOf h' (.ref 2) = some C)) := by
    simp only [wkD, lstOf, List.getElem?_cons_succ, List.getElem?_cons_zero]
  simp only [sFor, iAny, eV1, okS_st, okR_bind, okR_ok, w1]
  refine okS_for (fun i ρ h => h = [O.fro (ns.map D.int), .lst C, .lst C] ∧ ∃ m z, ρ = [some (.ref 0), some (.ref 2), some (.int m), z]) C 0 _ _ ⟨rfl, _, _, rfl⟩ (fun i ρ h _ _ hh => ?_) (fun i x ρ h _ hx hh => ?_) fun ρ h hh => ?_
  · obtain ⟨rfl, _⟩ := hh
    exact decide_eq_true (by simp only [lstOf, List.getElem?_cons_succ, List.getElem?_cons_zero])
  · obtain ⟨rfl, m, z, rfl⟩ := hh
    obtain ⟨v, rfl⟩ := alli x (List.mem_of_getElem? hx)
    refine ⟨_, _, rfl, ?_⟩
    have w3 : isW 69621 = true := by decide
    have p1 : (0 : Int) < 2147483647 := by decide
    have p2 : (0 : Int) < 2147483563 := by decide
    simp only [sAsg, eFn, eCons, eNil, eBin, eVar, eC, gNm, goT, okS_st, okR_bind, okR_ok, okS_nx, List.set, List.getElem?_cons_succ, List.getElem?_cons_zero, intD, okR_of, addD, modD, mulD, w3, Bool.or_true, if_true, if_pos p1, if_pos p2]
    exact ⟨trivial, _, _, rfl⟩
  · obtain ⟨rfl, m, z, rfl⟩ := hh
    refine hN _ _ ?_
    have r1 : lstOf ([O.fro (ns.map D.int), .lst C, .lst C] ++ [O.dic []]) (.ref 2) = some C := by
      simp [lstOf]
    have r2 : newL C.reverse ([O.fro (ns.map D.int), .lst C, .lst C] ++ [O.dic []]) = some (.ref 4, [O.fro (ns.map D.int), .lst C, .lst C, .dic [], .lst C.reverse]) := by
      simp only [newL]
      rw [if_pos (by simp only [List.length_reverse, lim]; omega)]
      rfl
    have r3 : dicOf [O.fro (ns.map D.int), .lst C, .lst C, .dic [], .lst C.reverse] 3 = some [] := by simp [dicOf]
    have r4 : mergeD [] [(kH, D.ref 4), (kM, D.int m), (kL, D.int 0)] = [(kH, D.ref 4), (kM, D.int m), (kL, D.int 0)] := by simp [mergeD, dput]
    have r5 : (([(kH, D.ref 4), (kM, D.int m), (kL, D.int 0)] : List (D × D)).all (fun p => (keyD p.1).isSome) && decide (([(kH, D.ref 4), (kM, D.int m), (kL, D.int 0)] : List (D × D)).length ≤ 15)) = true := rfl
    simp only [sRet, eDic, ePairs, eC, eRev, eVar, okS_st, okS_rt, okR_bind, okR_ok, List.getElem?_cons_succ, List.getElem?_cons_zero, r1, r2, okR_of, List.length_cons, List.length_nil, r3, r4, List.set]
    rw [if_pos (by rfl)]
    simp only [okR_ok, okS_rt]
    refine okR_fin (Q := fun d h => ∃ n l xs m, d = .ref n ∧ Dk h n l xs m 0) ⟨3, 4, C.reverse, m, rfl, ⟨rfl, rfl, by decide, fun x hx => alli x (by simpa using hx), by simpa using cl⟩⟩ fun z => ?_
    simp [D.cl, scr] at z
end K80

set_option Elab.async false
set_option linter.all false
set_option maxRecDepth 100000
set_option maxHeartbeats 2000000
namespace K80
open PySem Am
/-- the frame of the law: slot 1 bears the deck -/
def Sh (n : Nat) (ρ : Ev) : Prop := ∃ a0 a2 a3 a4 a5 a6 a7 a8 a9 a10 a11 a12, ρ = [a0, some (.ref n), a2, a3, a4, a5, a6, a7, a8, a9, a10, a11, a12]
theorem ord_fld : ∀ i ∈ List.range 10, ∀ c ∈ ord, ∀ f ∈ fld, ord[i]? = some c → fld[i]? = some f → tbF.contains (c, f) = true ∧ f ∈ ["part", "word", "record", "line", "place", "length", "name"] := by decide +kernel
theorem ws3 : 52 * ws 3 + 50 ≤ lim ∧ fsz 3 ≤ 40 ∧ fsz 3 ≤ 100 := by decide
abbrev inner : S := sFor (iAny (eTup (eCons (eVar 5) (eCons (eVar 6) eNil)))) (gNm 8) (sIf (bOr (eT (eBin neD (eFn reprD (eCons (eCall 2 F_held (eCons (eVar 8) (eCons (eVar 7) eNil))) eNil)) (eVar 4))) (bOr (eT (eBin neD (eFn reprD (eCons (eVar 3) eNil)) (eVar 4))) (bNot (eT (eCall 2 F_is_alone (eCons (eVar 8) (eCons (eVar 2) eNil))))))) (sRet (eC (.bl false))) sNil)
theorem ne_str {s : List Nat} {h : Hq} : neD (.str s) (.str s) h = some (.bl false, h) := by simp [neD]
theorem inner_ok {h : Hq} {n i a b : Nat} {c f : String} {v : D} {s : List Nat} {a0 a8 a9 a10 a11 a12 : Option D} {Rt : D → Hq → Prop} {N : Ev → Hq → Prop} (ea : h[a]? = some (.exc c [(f, v)])) (eb : h[b]? = some (.exc c [(f, v)])) (ho : ord[i]? = some c) (ht : tbF.contains (c, f) = true) (hf : f ∈ ["part", "word", "record", "line", "place", "length", "name"])
    (hr : reprD [v] h = some (.str s, h)) (hN : ∀ a8', N [a0, some (.ref n), some (.int (i : Int)), some v, some (.str s), some (.ref a), some (.ref b), some (.str (mkS f)), a8', a9, a10, a11, a12] h) :
    okS (inner [a0, some (.ref n), some (.int (i : Int)), some v, some (.str s), some (.ref a), some (.ref b), some (.str (mkS f)), a8, a9, a10, a11, a12] h) N Rt := by
  have q2 : ([D.ref a, D.ref b] : List D).length ≤ lim := by show 2 ≤ lim; decide
  simp only [inner, sFor, iAny, eTup, eCons, eNil, okS_st, okR_bind]
  simp only [eVar, List.getElem?_cons_succ, List.getElem?_cons_zero, okR_ok, if_pos q2, wkD]
  refine okS_for (fun j ρ h' => h' = h ∧ ∃ a8', ρ = [a0, some (.ref n), some (.int (i : Int)), some v, some (.str s), some (.ref a), some (.ref b), some (.str (mkS f)), a8', a9, a10, a11, a12]) _ 0 _ _ ⟨rfl, _, rfl⟩ (fun _ _ _ _ _ _ => rfl) ?_ ?_
  · rintro j x ρ h' _ hx ⟨rfl, a8', rfl⟩
    refine ⟨_, _, rfl, ?_⟩
    have body : ∀ e : Nat, h'[e]? = some (.exc c [(f, v)]) → okS (sIf (bOr (eT (eBin neD (eFn reprD (eCons (eCall 2 F_held (eCons (eVar 8) (eCons (eVar 7) eNil))) eNil)) (eVar 4))) (bOr (eT (eBin neD (eFn reprD (eCons (eVar 3) eNil)) (eVar 4))) (bNot (eT (eCall 2 F_is_alone (eCons (eVar 8) (eCons (eVar 2) eNil))))))) (sRet (eC (.bl false))) sNil
        [a0, some (.ref n), some (.int (i : Int)), some v, some (.str s), some (.ref a), some (.ref b), some (.str (mkS f)), some (.ref e), a9, a10, a11, a12] h') (fun ρ h'' => h'' = h' ∧ ∃ a8', ρ = [a0, some (.ref n), some (.int (i : Int)), some v, some (.str s), some (.ref a), some (.ref b), some (.str (mkS f)), a8', a9, a10, a11, a12]) Rt := fun e ee => by
      simp only [sIf, bOr, eT, bNot, eBin, eFn, eCall, eCons, eNil, eVar, okS_st, okR_bind, okR_ok, List.getElem?_cons_succ, List.getElem?_cons_zero, List.length_cons, List.length_nil, if_true]
      refine okR_imp (held_ok ee ht hf) fun d h2 ⟨e1, e2⟩ => ?_
      subst e1 e2
      simp only [hr, okR_bind, okR_of, ne_str, okR_ok, Bool.false_eq_true, if_false, List.length_cons, List.length_nil, if_true]
      refine okR_imp (alone_ok ee ho) fun d h3 ⟨e1, e2⟩ => ?_
      subst e1 e2
      simp only [okR_ok, okR_bind, Bool.not_true, Bool.false_eq_true, if_false, sNil, okS_nx]
      exact ⟨trivial, _, rfl⟩
    match j, hx with
    | 0, hx => cases hx; exact body a ea
    | 1, hx => cases hx; exact body b eb
    | j + 2, hx => simp at hx
  · rintro ρ h' ⟨rfl, a8', rfl⟩
    exact hN a8'

abbrev body1 : S := (sSeq (sAsg (eCall 2 (F_value 4) (eCons (eVar 1) (eCons (eC (.int 3)) eNil))) (gNm 3))
    (sSeq (sAsg (eFn reprD (eCons (eVar 3) eNil)) (gNm 4))
    (sSeq (sAsg (eCall 2 F_one (eCons (eVar 2) (eCons (eVar 3) eNil))) (gTp [(gNm 5), (gNm 6), (gNm 7)]))
    inner)))
theorem body1_ok {h : Hq} {n l i : Nat} {xs : List D} {m k : Int} {a0 a3 a4 a5 a6 a7 a8 a9 a10 a11 a12 : Option D} {Rt : D → Hq → Prop} (D0 : Dk h n l xs m k) (hk : 0 ≤ k) (hk2 : k < 900000) (hi : i < 10) :
    okS (body1 [a0, some (.ref n), some (.int (i : Int)), a3, a4, a5, a6, a7, a8, a9, a10, a11, a12] h) (fun ρ' h' => Sh n ρ' ∧ ∃ xs' k', Dk h' n l xs' m k' ∧ k ≤ k' ∧ k' ≤ k + 30) Rt := by
  obtain ⟨w1, w2, w3⟩ := ws3
  refine okS_step fun NN hN => ?_
  simp only [sAsg, eCall, eCons, eNil, eVar, eC, okS_st, okR_bind, okR_ok, List.getElem?_cons_succ, List.getElem?_cons_zero, List.length_cons, List.length_nil, if_true]
  refine okR_imp (value_ok 3 (d := 3) D0 hk (by have : cs 3 = 30 := rfl; omega) (by decide) (by decide)) fun v h1 ⟨ys, k', p, D1, k1, k2, f1, ep, gp⟩ => ?_
  have k2' : k' ≤ k + 30 := k2
  simp only [gNm, goT, okS_nx, List.set]
  refine hN _ _ ?_
  have r1 := repr_eq ep w2 gp w1 w3
  refine okS_step fun NN hN => ?_
  simp only [sAsg, eFn, eCons, eNil, eVar, okS_st, okR_bind, okR_ok, List.getElem?_cons_succ, List.getElem?_cons_zero, r1, okR_of, gNm, goT, okS_nx, List.set]
  refine hN _ _ ?_
  obtain ⟨c, f, oc, ff, one⟩ := one_ok (v := v) (h := h1) i hi
  obtain ⟨ht, hf⟩ := ord_fld i (List.mem_range.mpr hi) c (List.mem_of_getElem? oc) f (List.mem_of_getElem? ff) oc ff
  refine okS_step fun NN hN => ?_
  simp only [sAsg, eCall, eCons, eNil, eVar, okS_st, okR_bind, okR_ok, List.getElem?_cons_succ, List.getElem?_cons_zero, List.length_cons, List.length_nil, if_true]
  refine okR_imp one fun d h2 ⟨e1, e2⟩ => ?_
  subst e1
  simp only [gTp, gAll, gNm, Option.bind_some, goT, okS_nx, List.set]
  refine hN _ _ ?_
  have eh : h2 = (h1 ++ [.exc c [(f, v)]]) ++ [.exc c [(f, v)]] := by rw [e2]; simp
  have ea : h2[h1.length]? = some (.exc c [(f, v)]) := by rw [eh]; exact lk_app lk_new _
  have eb : h2[h1.length + 1]? = some (.exc c [(f, v)]) := by
    rw [eh]
    have := lk_new (h := h1 ++ [.exc c [(f, v)]]) (o := .exc c [(f, v)])
    rw [List.length_append] at this
    exact this
  have ep2 : pyB h2 h.length (fsz 3) v = some p := pyB_mono (Nat.le_refl _) (fun q o _ e => by rw [eh]; exact lk_app (lk_app e _) _) (Nat.le_refl _) ep
  refine inner_ok ea eb oc ht hf (repr_eq ep2 w2 gp w1 w3) fun a8' => ⟨⟨_, _, _, _, _, _, _, _, _, _, _, _, rfl⟩, ys, k', ?_, by omega, k2'⟩
  rw [e2]
  exact D1.app _

abbrev pairI (f g : String) (w : Int) : S := (sIf (bOr (eT (eBin neD (eFn reprD (eCons (eLst (eCons (eXf tbF f (eVar 8)) (eCons (eXf tbF g (eVar 8)) eNil))) eNil)) (eFn reprD (eCons (eLst (eCons (eVar 9) (eCons (eVar 10) eNil))) eNil)))) (bNot (eT (eCall 2 F_is_alone (eCons (eVar 8) (eCons (eC (.int w)) eNil)))))) (sRet (eC (.bl false))) sNil)
abbrev pairL (c f g : String) (w : Int) : S := sFor (iAny (eTup (eCons (eMk c [f, g] 2 0 [0, 1] (eCons (eVar 9) (eCons (eVar 10) eNil)) eNil) (eCons (eMk c [f, g] 0 2 [1, 0] eNil (eCons (eVar 10) (eCons (eVar 9) eNil))) eNil)))) (gNm 8) (pairI f g w)
theorem two_repr {h : Hq} {B F W E q : Nat} {v1 v2 : D} {p1 p2 : PyData} (e1 : pyB h B F v1 = some p1) (e2 : pyB h B F v2 = some p2) (g1 : Gd W E p1) (g2 : Gd W E p2) (hq : B ≤ q) (hl : h[q]? = some (.lst [v1, v2])) (hF : F + 1 ≤ 40) (hE : E + 1 ≤ 100) (hW : 52 * ((W + 1) * 2) + 50 ≤ lim) :
    reprD [.ref q] h = some (.str (PyData.list [p1, p2]).shown.cps.toList, h) := by
  have e : pyB h B (F + 1) (.ref q) = some (.list [p1, p2]) := by
    unfold pyB
    rw [if_pos hq, hl]
    show (pyDs _ _).map _ = _
    simp only [pyDs, e1, e2]
    rfl
  have g := (Gd.list (W := W) (E := E) (ps := [p1, p2]) (fun p hp => by
    simp at hp
    rcases hp with rfl | rfl
    · exact g1
    · exact g2)).1
  exact repr_eq e hF g hW hE
theorem pairI_ok {h : Hq} {n w e B F W E : Nat} {c f g : String} {v1 v2 : D} {p1 p2 : PyData} {a0 a2 a3 a4 a5 a6 a7 a11 a12 : Option D} {Rt : D → Hq → Prop} {N : Ev → Hq → Prop}
    (e1 : pyB h B F v1 = some p1) (e2 : pyB h B F v2 = some p2) (g1 : Gd W E p1) (g2 : Gd W E p2) (hB : B ≤ h.length) (hF : F + 1 ≤ 40) (hE : E + 1 ≤ 100) (hW : 52 * ((W + 1) * 2) + 50 ≤ lim)
    (ee : h[e]? = some (.exc c [(g, v2), (f, v1)])) (ho : ord[w]? = some c) (t1 : tbF.contains (c, f) = true) (t2 : tbF.contains (c, g) = true) (hfg : f ≠ g)
    (hN : ∀ h', Ex h h' → N [a0, some (.ref n), a2, a3, a4, a5, a6, a7, some (.ref e), some v1, some v2, a11, a12] h') :
    okS (pairI f g (w : Int) [a0, some (.ref n), a2, a3, a4, a5, a6, a7, some (.ref e), some v1, some v2, a11, a12] h) N Rt := by
  have x1 : eXf tbF f (eVar 8) [a0, some (.ref n), a2, a3, a4, a5, a6, a7, some (.ref e), some v1, some v2, a11, a12] h = .ok v1 h := xf_eq (m := eVar 8) rfl ee t1 (by
    have : (f == g) = false := by simpa using hfg
    simp [List.lookup, this])
  have x2 : eXf tbF g (eVar 8) [a0, some (.ref n), a2, a3, a4, a5, a6, a7, some (.ref e), some v1, some v2, a11, a12] h = .ok v2 h := xf_eq (m := eVar 8) rfl ee t2 (by simp [List.lookup])
  have n1 : newL [v1, v2] h = some (.ref h.length, h ++ [.lst [v1, v2]]) := newL_eq (by simp)
  have k1 := @lk_app h
  have r1 := two_repr (h := h ++ [.lst [v1, v2]]) (pyB_mono (Nat.le_refl _) (fun i o _ z => lk_app z _) (Nat.le_refl _) e1) (pyB_mono (Nat.le_refl _) (fun i o _ z => lk_app z _) (Nat.le_refl _) e2) g1 g2 hB lk_new hF hE hW
  have n2 : newL [v1, v2] (h ++ [.lst [v1, v2]]) = some (.ref (h.length + 1), (h ++ [.lst [v1, v2]]) ++ [.lst [v1, v2]]) := by
    have := newL_eq (h := h ++ [.lst [v1, v2]]) (xs := [v1, v2]) (by simp)
    rw [List.length_append] at this
    exact this
  have l2 : ((h ++ [O.lst [v1, v2]]) ++ [O.lst [v1, v2]])[h.length + 1]? = some (.lst [v1, v2]) := by
    have := lk_new (h := h ++ [.lst [v1, v2]]) (o := .lst [v1, v2])
    rw [List.length_append] at this
    exact this
  have r2 := two_repr (h := (h ++ [.lst [v1, v2]]) ++ [.lst [v1, v2]]) (q := h.length + 1) (pyB_mono (Nat.le_refl _) (fun i o _ z => lk_app (lk_app z _) _) (Nat.le_refl _) e1) (pyB_mono (Nat.le_refl _) (fun i o _ z => lk_app (lk_app z _) _) (Nat.le_refl _) e2) g1 g2 (by omega) l2 hF hE hW
  have ee2 := lk_app (lk_app ee [.lst [v1, v2]]) [.lst [v1, v2]]
  have ex2 : Ex h ((h ++ [.lst [v1, v2]]) ++ [.lst [v1, v2]]) := Ex.app.trans Ex.app
  simp only [pairI, sIf, bOr, eT, bNot, eBin, eFn, eLst, eCons, x1, x2, okS_st, okR_bind, okR_ok]
  simp only [eNil, okR_ok, okR_bind, n1, okR_of, r1, eVar, List.getElem?_cons_succ, List.getElem?_cons_zero, n2, r2, ne_str, Bool.false_eq_true, if_false, eCall, eCons, eC, List.length_cons, List.length_nil, if_true]
  refine okR_imp (alone_ok ee2 ho) fun d h3 ⟨z1, z2⟩ => ?_
  subst z1 z2
  simp only [okR_ok, okR_bind, Bool.not_true, Bool.false_eq_true, if_false, sNil, okS_nx]
  exact hN _ ex2
end K80

set_option Elab.async false
set_option linter.all false
set_option maxRecDepth 100000
set_option maxHeartbeats 2000000
namespace K80
open PySem Am
theorem pairL_ok {h : Hq} {n w B F W E : Nat} {c f g : String} {v1 v2 : D} {p1 p2 : PyData} {a0 a2 a3 a4 a5 a6 a7 a8 a11 a12 : Option D} {Rt : D → Hq → Prop} {N : Ev → Hq → Prop}
    (e1 : pyB h B F v1 = some p1) (e2 : pyB h B F v2 = some p2) (g1 : Gd W E p1) (g2 : Gd W E p2) (hB : B ≤ h.length) (hF : F + 1 ≤ 40) (hE : E + 1 ≤ 100) (hW : 52 * ((W + 1) * 2) + 50 ≤ lim)
    (ho : ord[w]? = some c) (t1 : tbF.contains (c, f) = true) (t2 : tbF.contains (c, g) = true) (hfg : f ≠ g)
    (hN : ∀ a8' h', Ex h h' → N [a0, some (.ref n), a2, a3, a4, a5, a6, a7, a8', some v1, some v2, a11, a12] h') :
    okS (pairL c f g (w : Int) [a0, some (.ref n), a2, a3, a4, a5, a6, a7, a8, some v1, some v2, a11, a12] h) N Rt := by
  have mt : eTup (eCons (eMk c [f, g] 2 0 [0, 1] (eCons (eVar 9) (eCons (eVar 10) eNil)) eNil) (eCons (eMk c [f, g] 0 2 [1, 0] eNil (eCons (eVar 10) (eCons (eVar 9) eNil))) eNil)) [a0, some (.ref n), a2, a3, a4, a5, a6, a7, a8, some v1, some v2, a11, a12] h =
    .ok (.tup [.ref h.length, .ref (h ++ [O.exc c [(g, v2), (f, v1)]]).length]) ((h ++ [O.exc c [(g, v2), (f, v1)]]) ++ [O.exc c [(g, v2), (f, v1)]]) := rfl
  simp only [pairL, sFor, iAny, okS_st, okR_bind, mt, okR_ok, wkD]
  have ea : ((h ++ [O.exc c [(g, v2), (f, v1)]]) ++ [O.exc c [(g, v2), (f, v1)]])[h.length]? = some (.exc c [(g, v2), (f, v1)]) := lk_app lk_new _
  have eb : ((h ++ [O.exc c [(g, v2), (f, v1)]]) ++ [O.exc c [(g, v2), (f, v1)]])[(h ++ [O.exc c [(g, v2), (f, v1)]]).length]? = some (.exc c [(g, v2), (f, v1)]) := lk_new
  have x0 : Ex h ((h ++ [O.exc c [(g, v2), (f, v1)]]) ++ [O.exc c [(g, v2), (f, v1)]]) := Ex.app.trans Ex.app
  revert ea eb x0
  generalize (h ++ [O.exc c [(g, v2), (f, v1)]]) ++ [O.exc c [(g, v2), (f, v1)]] = h2
  generalize (h ++ [O.exc c [(g, v2), (f, v1)]]).length = b
  generalize h.length = a
  intro ea eb x0
  refine okS_for (fun j ρ h' => Ex h2 h' ∧ ∃ a8', ρ = [a0, some (.ref n), a2, a3, a4, a5, a6, a7, a8', some v1, some v2, a11, a12]) _ 0 _ _ ⟨Ex.refl, _, rfl⟩ (fun _ _ _ _ _ _ => rfl) ?_ ?_
  · rintro j x ρ h' _ hx ⟨ex, a8', rfl⟩
    refine ⟨_, _, rfl, ?_⟩
    have xx := x0.trans ex
    have hb' : B ≤ h'.length := Nat.le_trans hB xx.le
    have up : ∀ {v p}, pyB h B F v = some p → pyB h' B F v = some p := fun e => pyB_mono (Nat.le_refl _) (fun i o _ z => xx.at_ z) (Nat.le_refl _) e
    have body : ∀ e : Nat, h2[e]? = some (.exc c [(g, v2), (f, v1)]) → okS (pairI f g (w : Int) [a0, some (.ref n), a2, a3, a4, a5, a6, a7, some (.ref e), some v1, some v2, a11, a12] h') (fun ρ h'' => Ex h2 h'' ∧ ∃ a8', ρ = [a0, some (.ref n), a2, a3, a4, a5, a6, a7, a8', some v1, some v2, a11, a12]) Rt := fun e ee =>
      pairI_ok (up e1) (up e2) g1 g2 hb' hF hE hW (ex.at_ ee) ho t1 t2 hfg fun h'' q => ⟨ex.trans q, _, rfl⟩
    match j, hx with
    | 0, hx => cases hx; exact body _ ea
    | 1, hx => cases hx; exact body _ eb
    | j + 2, hx => simp at hx
  · rintro ρ h' ⟨ex, a8', rfl⟩
    exact hN a8' h' (x0.trans ex)
end K80

set_option Elab.async false
set_option linter.all false
set_option maxRecDepth 100000
set_option maxHeartbeats 2000000
namespace K80
open PySem Am
theorem in_no {h : Hq} {j : Nat} (l : h[j]? = some (.lst (clsL "ReadError"))) : inX (.bl true) (.ref j) h = some (.bl false, h) := by
  have d0 : drefOf h (.ref j) = none := by simp [drefOf, dicOf, l]
  have m0 : mutL h (.ref j) = some (clsL "ReadError") := by simp [mutL, l]
  have o0 : okB (D.bl true :: clsL "ReadError") = true := okB_bls _ fun x hx => by
    rcases List.mem_cons.mp hx with rfl | z
    · exact ⟨_, rfl⟩
    · exact clsL_bl _ x z
  have n0 : decide (D.bl true ∈ clsL "ReadError") = false := by decide
  simp only [inX, inG, d0, inD, inB, m0, Option.bind_some, o0, if_true, n0, Option.map_some]
theorem step6 {h : Hq} {ρ : Ev} {N : Ev → Hq → Prop} {Rt : D → Hq → Prop} (hN : ∀ h', Ex h h' → N ρ h') :
    okS (sIf (bOr (bNot (eT (eCall 2 F_is_alone (eCons (eMk "OtherLetters" [] 0 0 [] eNil eNil) (eCons (eC (.int 10)) eNil))))) (eT (eBin inX (eC (.bl true)) (eCall 1 F_classes (eCons (eMkR "ReadError" (eC (.str [120]))) eNil))))) (sRet (eC (.bl false))) sNil ρ h) N Rt := by
  have a1 : eCons (eMk "OtherLetters" [] 0 0 [] eNil eNil) (eCons (eC (.int 10)) eNil) ρ h = .ok [.ref h.length, .int 10] (h ++ [.exc "OtherLetters" []]) := rfl
  have a2 : ∀ h, eCons (eMkR "ReadError" (eC (.str [120]))) eNil ρ h = .ok [.ref h.length] (h ++ [.exc "ReadError" []]) := fun _ => rfl
  have c1 : eC (.bl true) ρ = fun h => R.ok (.bl true) h := rfl
  simp only [sIf, bOr, bNot, eT, eCall, a1, okS_st, okR_bind, okR_ok, List.length_cons, List.length_nil, if_true]
  refine okR_imp (alone_ok (i := h.length) (at_ := 10) (c := "OtherLetters") (fs := []) lk_new rfl) fun d h2 ⟨z1, z2⟩ => ?_
  subst z1 z2
  simp only [okR_ok, okR_bind, Bool.not_true, Bool.false_eq_true, if_false, eBin, c1, a2, List.length_cons, List.length_nil, if_true]
  refine okR_imp (classes_ok (c := "ReadError") (fs := []) lk_new (by decide)) fun d h3 ⟨j, z1, l3, _, x3⟩ => ?_
  subst z1
  simp only [in_no l3, okR_of, okR_ok, Bool.false_eq_true, if_false, sNil, okS_nx]
  exact hN _ ((Ex.app.trans Ex.app).trans x3)
abbrev last5 : S := sFor (iAny (eTup (eCons (eTup (eCons (eC (.int 0)) (eCons (eC (.int 0)) eNil))) (eCons (eTup (eCons (eC (.int 1)) (eCons (eC (.int 8)) eNil))) (eCons (eTup (eCons (eC (.int 2)) (eCons (eC (.int 9)) eNil))) (eCons (eTup (eCons (eC (.int 3)) (eCons (eC (.int 12)) eNil))) (eCons (eTup (eCons (eC (.int 4)) (eCons (eC (.int 10)) eNil))) eNil))))))) (gTp [(gNm 2), (gNm 11)]) (sIf (eT (eBin neD (eCall 2 F_raised (eCons (eVar 2) (eCons (eVar 9) eNil))) (eCmp (iRn1 (eC (.int 13))) (.nm 12) none (eBin eqD (eVar 12) (eVar 11)) [12]))) (sRet (eC (.bl false))) sNil)
theorem last_ok {h : Hq} {n : Nat} {v : D} {a0 a2 a3 a4 a5 a6 a7 a8 a10 a11 a12 : Option D} {Rt : D → Hq → Prop} {N : Ev → Hq → Prop}
    (hN : ∀ ρ' h', N ρ' h') : okS (last5 [a0, some (.ref n), a2, a3, a4, a5, a6, a7, a8, some v, a10, a11, a12] h) N Rt := by
  have mt : eTup (eCons (eTup (eCons (eC (.int 0)) (eCons (eC (.int 0)) eNil))) (eCons (eTup (eCons (eC (.int 1)) (eCons (eC (.int 8)) eNil))) (eCons (eTup (eCons (eC (.int 2)) (eCons (eC (.int 9)) eNil))) (eCons (eTup (eCons (eC (.int 3)) (eCons (eC (.int 12)) eNil))) (eCons (eTup (eCons (eC (.int 4)) (eCons (eC (.int 10)) eNil))) eNil))))) [a0, some (.ref n), a2, a3, a4, a5, a6, a7, a8, some v, a10, a11, a12] h =
    .ok (.tup [.tup [.int 0, .int 0], .tup [.int 1, .int 8], .tup [.int 2, .int 9], .tup [.int 3, .int 12], .tup [.int 4, .int 10]]) h := rfl
  simp only [last5, sFor, iAny, okS_st, okR_bind, mt, okR_ok, wkD]
  refine okS_for (fun j ρ h' => ∃ a2 a11 a12, ρ = [a0, some (.ref n), a2, a3, a4, a5, a6, a7, a8, some v, a10, a11, a12]) _ 0 _ _ ⟨_, _, _, rfl⟩ (fun _ _ _ _ _ _ => rfl) ?_ (fun ρ h' _ => hN _ _)
  rintro j x ρ h' _ hx ⟨a2, a11, a12, rfl⟩
  have body : ∀ (j k : Nat) (c : String), j < 5 → rs[j]? = some (k, c) → ord[k]? = some c → okS (sIf (eT (eBin neD (eCall 2 F_raised (eCons (eVar 2) (eCons (eVar 9) eNil))) (eCmp (iRn1 (eC (.int 13))) (.nm 12) none (eBin eqD (eVar 12) (eVar 11)) [12]))) (sRet (eC (.bl false))) sNil [a0, some (.ref n), some (.int (j : Int)), a3, a4, a5, a6, a7, a8, some v, a10, some (.int (k : Int)), a12] h')
      (fun ρ h'' => ∃ a2 a11 a12, ρ = [a0, some (.ref n), a2, a3, a4, a5, a6, a7, a8, some v, a10, a11, a12]) Rt := fun j k c hj hr ho => by
    have hk : k < 13 := (List.getElem?_eq_some_iff.mp ho).1
    have ea : eCons (eVar 2) (eCons (eVar 9) eNil) [a0, some (.ref n), some (.int (j : Int)), a3, a4, a5, a6, a7, a8, some v, a10, some (.int (k : Int)), a12] h' = .ok [.int (j : Int), v] h' := rfl
    simp only [sIf, eT, eBin, eCall, ea, okS_st, okR_bind, okR_ok, List.length_cons, List.length_nil, if_true]
    obtain ⟨p, hp, q⟩ := raised_ok (v := v) (h := h') j hj
    rw [hr] at hp
    cases hp
    refine okR_imp q fun d h1 ⟨i1, z, l1, _, x1⟩ => ?_
    subst z
    refine comp_ok (at_ := (k : Int)) (fun x h' => by simp [eBin, eVar, wipeD, eqD, R.bind, R.of]) fun i2 h2 l2 _ x2 => ?_
    rw [← tab3 k (List.mem_range.mpr hk) c (List.mem_of_getElem? ho) ho] at l2
    simp only [ne_lists (x2.at_ l1) l2 (clsL_bl c), okR_of, okR_ok, Bool.false_eq_true, if_false, sNil, okS_nx]
    exact ⟨_, _, _, rfl⟩
  match j, hx with
  | 0, hx => cases hx; exact ⟨_, _, rfl, body 0 0 "BadFormat" (by decide) rfl rfl⟩
  | 1, hx => cases hx; exact ⟨_, _, rfl, body 1 8 "NameTaken" (by decide) rfl rfl⟩
  | 2, hx => cases hx; exact ⟨_, _, rfl, body 2 9 "UnknownName" (by decide) rfl rfl⟩
  | 3, hx => cases hx; exact ⟨_, _, rfl, body 3 12 "NotEnough" (by decide) rfl rfl⟩
  | 4, hx => cases hx; exact ⟨_, _, rfl, body 4 10 "OtherLetters" (by decide) rfl rfl⟩
  | j + 5, hx => simp at hx
end K80

set_option Elab.async false
set_option linter.all false
set_option maxRecDepth 100000
set_option maxHeartbeats 2000000
namespace K80
open PySem Am
theorem law_ok (ns : List Int) : okR (F_law [.ref 0] (scr ns)) fun d _ => d = .bl true := by
  obtain ⟨w1, w2, w3⟩ := ws3
  refine okR_fn ?_
  unfold m_law
  have fz : ∀ h' : Hq, okR (fin (scr ns) (.bl true) h') fun d _ => d = .bl true := fun h' => okR_fin rfl fun _ _ => rfl
  simp only [N_law, List.map, List.length_cons, List.length_nil, List.replicate, List.cons_append, List.nil_append]
  refine okS_step fun NN hN => ?_
  simp only [sAsg, eCall, eCons, eNil, eV0, okS_st, okR_bind, okR_ok, List.length_cons, List.length_nil, if_true]
  refine okR_imp (deck_ok ns) fun d h1 ⟨n, l, xs, m, z, D1⟩ => ?_
  subst z
  simp only [gNm, goT, okS_nx, List.set]
  refine hN _ _ ?_
  refine okS_step fun NN hN => ?_
  have jj : (10 : Int) < 2 ^ 62 ∧ -(2 ^ 62) ≤ (10 : Int) := by decide
  simp only [sFor, iRn1, eC, okS_st, okR_bind, okR_ok, if_pos jj]
  refine okS_for (fun i ρ h => Sh n ρ ∧ i ≤ 10 ∧ ∃ xs k, Dk h n l xs m k ∧ 0 ≤ k ∧ k ≤ 30 * i) _ 0 _ _ ⟨⟨_, _, _, _, _, _, _, _, _, _, _, _, rfl⟩, by omega, xs, 0, D1, by omega, by omega⟩ (fun _ _ _ _ _ _ => rfl) ?_ ?_
  · rintro i x ρ h _ hx ⟨⟨a0, a2, a3, a4, a5, a6, a7, a8, a9, a10, a11, a12, rfl⟩, i1, ys, k, D2, k0, k1⟩
    have hi : i < 10 := by
      have := (List.getElem?_eq_some_iff.mp hx).1
      simpa using this
    have ex' : x = .int (i : Int) := by
      have z : ((List.range (10 : Int).toNat).map fun (i : Nat) => D.int (i : Int))[i - 0]? = some (.int (i : Int)) := by
        rw [List.getElem?_map, Nat.sub_zero, List.getElem?_range (by show i < 10; omega)]; rfl
      rw [z] at hx
      exact (Option.some.inj hx).symm
    subst ex'
    refine ⟨_, _, rfl, ?_⟩
    refine okS_imp (body1_ok D2 k0 (by omega) hi) (fun ρ' h' q => ?_) fun d h' q => q
    obtain ⟨sh, zs, k', D3, k2, k3⟩ := q
    exact ⟨sh, by omega, zs, k', D3, by omega, by push_cast; omega⟩
  · rintro ρ h2 ⟨⟨a0, a2, a3, a4, a5, a6, a7, a8, a9, a10, a11, a12, rfl⟩, _, ys, k, D2, k0, k1⟩
    have k1' : k ≤ 300 := by
      have : ((0 + ((List.range (10 : Int).toNat).map fun (i : Nat) => D.int (i : Int)).length : Nat) : Int) = 10 := by decide
      rw [this] at k1
      omega
    refine hN _ _ ?_
    refine okS_step fun NN hN => ?_
    have c3 : cs 3 = 30 := rfl
    simp only [sPar, eCall, eCons, eNil, eVar, eC, okS_st, okR_bind, okR_ok, List.getElem?_cons_succ, List.getElem?_cons_zero, List.length_cons, List.length_nil, if_true]
    refine okR_imp (value_ok 3 (d := 2) D2 k0 (by omega) (by decide) (by decide)) fun v1 h3 ⟨ys3, k3, p1, D3, q1, q2, f3, ep1, gp1⟩ => ?_
    refine okR_imp (value_ok 3 (d := 2) D3 (by omega) (by omega) (by decide) (by decide)) fun v2 h4 ⟨ys4, k4, p2, D4, q3, q4, f4, ep2, gp2⟩ => ?_
    simp only [okR_ok, okS_nx, List.set]
    refine hN _ _ ?_
    have nl := D2.nlt
    have ep1' : pyB h4 h2.length (fsz 3) v1 = some p1 := pyB_mono (Nat.le_refl _) (fun i o hi e => f4.keep i o (by omega) (by omega) e) (Nat.le_refl _) ep1
    have ep2' : pyB h4 h2.length (fsz 3) v2 = some p2 := pyB_mono f3.le (fun i o hi e => e) (Nat.le_refl _) ep2
    have hB := Nat.le_trans f3.le f4.le
    have hW : 52 * ((ws 3 + 1) * 2) + 50 ≤ lim := by decide
    refine okS_step fun NN hN => ?_
    refine pairL_ok (w := 11) (c := "TwoReadings") ep1' ep2' gp1 gp2 hB (by decide) (by decide) hW rfl (by decide) (by decide) (by decide) fun a8' h5 x5 => ?_
    refine hN _ _ ?_
    have up : ∀ {v p}, pyB h4 h2.length (fsz 3) v = some p → pyB h5 h2.length (fsz 3) v = some p := fun e => pyB_mono (Nat.le_refl _) (fun i o _ z => x5.at_ z) (Nat.le_refl _) e
    refine okS_step fun NN hN => ?_
    refine pairL_ok (w := 12) (c := "NotEnough") (up ep1') (up ep2') gp1 gp2 (Nat.le_trans hB x5.le) (by decide) (by decide) hW rfl (by decide) (by decide) (by decide) fun a8' h6 x6 => ?_
    refine hN _ _ ?_
    refine okS_step fun NN hN => ?_
    refine step6 fun h7 _ => ?_
    refine hN _ _ ?_
    refine okS_step fun NN hN => ?_
    refine last_ok fun ρ' h8 => ?_
    refine hN _ _ ?_
    simp only [sRet, eC, okS_st, okR_ok, okS_rt]
    exact fz _
theorem plain : ∀ ns : List Int, ns.length ≤ 63 → ∃ h', F_law [.ref 0] (scr ns) = .ok (.bl true) h' := fun ns _ => by
  obtain ⟨d, h', e, q⟩ := okR_ex (law_ok ns)
  subst q
  exact ⟨h', e⟩
end K80

set_option Elab.async false
set_option linter.all false
set_option maxRecDepth 100000
set_option maxHeartbeats 0
namespace K80
open PySem PySem.Spec PyProof.Rows L2 L2H Am AmX
def dd (x : String) (i : Nat) : He.DefD := ⟨((x : Str), none), x, x, defArgs (top i), defBody (top i), defScope (top i), [], []⟩
def fnL : List He.DefD := [dd "_law_deck" 16, dd "_law_draw" 17, dd "_law_pick" 18, dd "_law_value" 19, dd "_law_one" 20, dd "_law_held" 21, dd "_law_classes" 22, dd "_law_is_alone" 23, dd "_law_raised" 24, dd "law" 25]
def inL : List (String × Nat × List String) := [("BadFormat", 2, ["part"]), ("BadWord", 3, ["word"]), ("BadRecord", 4, ["record"]), ("InvalidText", 5, ["line"]), ("OtherLetters", 6, []), ("NoReading", 7, ["word"]), ("TwoReadings", 8, ["one", "other"]), ("NotEnough", 9, ["ahead", "behind"]), ("NotSure", 10, ["place"]), ("NoBook", 11, ["length"]), ("EvenLength", 12, ["length"]), ("NameTaken", 13, ["name"]), ("UnknownName", 14, ["name"])]
def inV (q : String × Nat × List String) : FnI := iniV (Str.ofString (q.1 ++ ".__init__")) (defArgs (ini q.2.1)) (defBody (ini q.2.1)) (defScope (ini q.2.1))
def freeL : List String := ["len", "int", "list", "tuple", "range", "repr", "isinstance", "Exception", "ValueError", "LookupError", "ArithmeticError", "TypeError", "RuntimeError", "AttributeError", "KeyError", "super"]
def gloL : List String := ["ReadError", "BadFormat", "BadWord", "BadRecord", "InvalidText", "OtherLetters", "NoReading", "TwoReadings", "NotEnough", "NotSure", "NoBook", "EvenLength", "NameTaken", "UnknownName", "_law_deck", "_law_draw", "_law_pick", "_law_value", "_law_one", "_law_held", "_law_classes", "_law_is_alone", "_law_raised", "law"]
def factB (K : PySem.W.Frag) : Bool := freeL.all (fun x => decide (PySem.W.nsIn K mainGlobals (Str.ofString x) = some none)) && (gloL.all (fun x => decide (PySem.W.nsIn K mainGlobals (Str.ofString x) = some (some (.ref (cla K x))))) &&
  (inL.all (fun q => xcW K q.1 q.2.2 (Str.ofString (q.1 ++ ".__init__")) prog.main.file) && (decide (PySem.W.nsIn K cStatics "thirdparty.any" = some none) && ((PySem.W.excIn K (cla K "ReadError") PySem.ESX.exTail "Exception.__new__" && PySem.W.keepIn K (.ref (cla K "ReadError"))) &&
  (xsE.all (xcB K) && (ktB K tbC && (tbF.all (xaB K) && (exB K "ReadError" xsR && ((K.lookup sysModules).isSome && fnL.all (fun d => d.ok K))))))))))
abbrev Al : Type := Bool × List He.FnW × List FnI
def obs (K : PySem.W.Frag) : Al := (factB K, fnL.map fun d => He.fnW K d.at_, inL.map fun q => iniW K q.1)
def val : Al := (true, fnL.map He.DefD.val, inL.map inV)
abbrev R : PySem.W.OpenRow := PySem.W.OpenLaw.row PySem.Challenge.rw_amidread_k80_errors
abbrev hk : PySem.W.Hook := hookK 4 obs val
def ob (s : PySem.W.SharedT) : Al := obs (kOf 4 (HandSHeadRun.getT s))
theorem ob_eq (s : PySem.W.SharedT) : ob s = hk.obs s.abs := by
  have e : HandSHeadRun.getT s = s.abs.heap.get? := funext (HandSHeadRun.getT_eq s)
  unfold ob
  rw [e] <;> rfl
def looseL : List Str := ["ReadError", "BadFormat", "BadWord", "BadRecord", "InvalidText", "OtherLetters", "NoReading", "TwoReadings", "NotEnough", "NotSure", "NoBook", "EvenLength", "NameTaken", "UnknownName", "_law_deck", "_law_draw", "_law_pick", "_law_value", "_law_one", "_law_held", "_law_classes", "_law_is_alone", "_law_raised"]
theorem run (w : World) : HandSHeadRun.RunEq R (PySem.W.view R.prog [25]) hk ob 5000 looseL w := by
  intro os
  kernel_rfl
end K80

set_option Elab.async false
set_option linter.all false
set_option maxRecDepth 100000
set_option maxHeartbeats 0
namespace K80
open PySem PySem.Spec PyProof.Rows L2 L2H Am AmX
def iniD (K : PySem.W.Frag) (c : String) : FuncData := match K.lookup (iniA K c) with
  | some ⟨_, _, .func fd, _⟩ => fd
  | _ => default
theorem iniD_eq {K : PySem.W.Frag} {c : String} {qual : Str} {params : Arguments} {body : List Stmt} {scope : Scope} {fs : List Str} {fd : FuncData} (F : AmX.XInit prog K (cla K c) (iniA K c) qual params body scope fs fd) : iniD K c = fd := by
  obtain ⟨oc, od, osl, kV, doc, pm, an, ct, cda, cc, ccl, cdd, vs, ccs, file, tf, cl, cld, csl, rfl, lk, _⟩ := F.ex
  unfold iniD
  rw [lk]
theorem gl {K : PySem.W.Frag} {h : Heap} {mg : Str → Option Value} (X : K.In h) (G : h.Ns mainGlobals mg) (c : obs K = val) (j : Nat) {x : String} (hj : gloL[j]? = some x := by rfl) : mg (Str.ofString x) = some (.ref (cla K x)) := by
  have c1 : factB K = true := congrArg (fun z : Al => z.1) c
  unfold factB at c1
  simp only [Bool.and_eq_true] at c1
  exact PySem.W.mg_of X G (of_decide_eq_true (List.all_eq_true.mp c1.2.1 x (List.mem_of_getElem? hj)))
theorem fr {K : PySem.W.Frag} {h : Heap} {mg : Str → Option Value} (X : K.In h) (G : h.Ns mainGlobals mg) (c : obs K = val) (j : Nat) {x : String} (hj : freeL[j]? = some x := by rfl) : mg (Str.ofString x) = none := by
  have c1 : factB K = true := congrArg (fun z : Al => z.1) c
  unfold factB at c1
  simp only [Bool.and_eq_true] at c1
  exact PySem.W.mg_none_of X G (of_decide_eq_true (List.all_eq_true.mp c1.1 x (List.mem_of_getElem? hj)))
theorem xcl {K : PySem.W.Frag} (c : obs K = val) (j : Nat) {q : String × Nat × List String} (hj : inL[j]? = some q := by rfl) : xcW K q.1 q.2.2 (Str.ofString (q.1 ++ ".__init__")) prog.main.file = true ∧ iniW K q.1 = inV q ∧ PySem.W.nsIn K mainGlobals "super" = some none ∧ PySem.W.nsIn K cStatics "thirdparty.any" = some none := by
  have c1 : factB K = true := congrArg (fun z : Al => z.1) c
  unfold factB at c1
  simp only [Bool.and_eq_true] at c1
  refine ⟨List.all_eq_true.mp c1.2.2.1 q (List.mem_of_getElem? hj), ?_, of_decide_eq_true (List.all_eq_true.mp c1.1 "super" (by decide)), of_decide_eq_true c1.2.2.2.1⟩
  have e : inL.map (fun q => iniW K q.1) = inL.map inV := congrArg (fun z : Al => z.2.2) c
  have e2 : (inL.map (fun q => iniW K q.1))[j]? = (inL.map inV)[j]? := by rw [e]
  rw [List.getElem?_map, List.getElem?_map, hj] at e2
  exact Option.some.inj e2
theorem fnd {K : PySem.W.Frag} (c : obs K = val) (j : Nat) {d : He.DefD} (hj : fnL[j]? = some d := by rfl) : ∃ fd, FunD K d.name d.qual d.params d.body d.scope (d.dvs K) (d.kws K) (He.fAd K d.at_) fd := by
  have c1 : factB K = true := congrArg (fun z : Al => z.1) c
  unfold factB at c1
  simp only [Bool.and_eq_true] at c1
  have e : fnL.map (fun d => He.fnW K d.at_) = fnL.map He.DefD.val := congrArg (fun z : Al => z.2.1) c
  have e2 : (fnL.map (fun d => He.fnW K d.at_))[j]? = (fnL.map He.DefD.val)[j]? := by rw [e]
  rw [List.getElem?_map, List.getElem?_map, hj] at e2
  exact He.DefD.funD (Option.some.inj e2) (List.all_eq_true.mp c1.2.2.2.2.2.2.2.2.2.2 d (List.mem_of_getElem? hj))
theorem xi_BadFormat {K : PySem.W.Frag} (c : obs K = val) : AmX.XCls K (cla K "BadFormat") ∧ PySem.W.findIn K (.ref (cla K "BadFormat")) "__init__" = some (some (.ref (iniA K "BadFormat"))) ∧ PySem.W.typeIn K (.ref (iniA K "BadFormat")) = some (.type "function") ∧ AmX.XInit prog K (cla K "BadFormat") (iniA K "BadFormat") (Str.ofString ("BadFormat" ++ ".__init__")) (defArgs (ini 2)) (defBody (ini 2)) (defScope (ini 2)) ((["part"] : List String).map Str.ofString) (iniD K "BadFormat") := by
  obtain ⟨a, b, s, t⟩ := xcl c 0 (q := ("BadFormat", 2, ["part"]))
  obtain ⟨h1, h2, h3, fd, F⟩ := xini_ok (P := prog) a b s t
  rw [iniD_eq F]
  exact ⟨h1, h2, h3, F⟩
theorem xi_BadWord {K : PySem.W.Frag} (c : obs K = val) : AmX.XCls K (cla K "BadWord") ∧ PySem.W.findIn K (.ref (cla K "BadWord")) "__init__" = some (some (.ref (iniA K "BadWord"))) ∧ PySem.W.typeIn K (.ref (iniA K "BadWord")) = some (.type "function") ∧ AmX.XInit prog K (cla K "BadWord") (iniA K "BadWord") (Str.ofString ("BadWord" ++ ".__init__")) (defArgs (ini 3)) (defBody (ini 3)) (defScope (ini 3)) ((["word"] : List String).map Str.ofString) (iniD K "BadWord") := by
  obtain ⟨a, b, s, t⟩ := xcl c 1 (q := ("BadWord", 3, ["word"]))
  obtain ⟨h1, h2, h3, fd, F⟩ := xini_ok (P := prog) a b s t
  rw [iniD_eq F]
  exact ⟨h1, h2, h3, F⟩
theorem xi_BadRecord {K : PySem.W.Frag} (c : obs K = val) : AmX.XCls K (cla K "BadRecord") ∧ PySem.W.findIn K (.ref (cla K "BadRecord")) "__init__" = some (some (.ref (iniA K "BadRecord"))) ∧ PySem.W.typeIn K (.ref (iniA K "BadRecord")) = some (.type "function") ∧ AmX.XInit prog K (cla K "BadRecord") (iniA K "BadRecord") (Str.ofString ("BadRecord" ++ ".__init__")) (defArgs (ini 4)) (defBody (ini 4)) (defScope (ini 4)) ((["record"] : List String).map Str.ofString) (iniD K "BadRecord") := by
  obtain ⟨a, b, s, t⟩ := xcl c 2 (q := ("BadRecord", 4, ["record"]))
  obtain ⟨h1, h2, h3, fd, F⟩ := xini_ok (P := prog) a b s t
  rw [iniD_eq F]
  exact ⟨h1, h2, h3, F⟩
theorem xi_InvalidText {K : PySem.W.Frag} (c : obs K = val) : AmX.XCls K (cla K "InvalidText") ∧ PySem.W.findIn K (.ref (cla K "InvalidText")) "__init__" = some (some (.ref (iniA K "InvalidText"))) ∧ PySem.W.typeIn K (.ref (iniA K "InvalidText")) = some (.type "function") ∧ AmX.XInit prog K (cla K "InvalidText") (iniA K "InvalidText") (Str.ofString ("InvalidText" ++ ".__init__")) (defArgs (ini 5)) (defBody (ini 5)) (defScope (ini 5)) ((["line"] : List String).map Str.ofString) (iniD K "InvalidText") := by
  obtain ⟨a, b, s, t⟩ := xcl c 3 (q := ("InvalidText", 5, ["line"]))
  obtain ⟨h1, h2, h3, fd, F⟩ := xini_ok (P := prog) a b s t
  rw [iniD_eq F]
  exact ⟨h1, h2, h3, F⟩
theorem xi_OtherLetters {K : PySem.W.Frag} (c : obs K = val) : AmX.XCls K (cla K "OtherLetters") ∧ PySem.W.findIn K (.ref (cla K "OtherLetters")) "__init__" = some (some (.ref (iniA K "OtherLetters"))) ∧ PySem.W.typeIn K (.ref (iniA K "OtherLetters")) = some (.type "function") ∧ AmX.XInit prog K (cla K "OtherLetters") (iniA K "OtherLetters") (Str.ofString ("OtherLetters" ++ ".__init__")) (defArgs (ini 6)) (defBody (ini 6)) (defScope (ini 6)) (([] : List String).map Str.ofString) (iniD K "OtherLetters") := by
  obtain ⟨a, b, s, t⟩ := xcl c 4 (q := ("OtherLetters", 6, []))
  obtain ⟨h1, h2, h3, fd, F⟩ := xini_ok (P := prog) a b s t
  rw [iniD_eq F]
  exact ⟨h1, h2, h3, F⟩
theorem xi_NoReading {K : PySem.W.Frag} (c : obs K = val) : AmX.XCls K (cla K "NoReading") ∧ PySem.W.findIn K (.ref (cla K "NoReading")) "__init__" = some (some (.ref (iniA K "NoReading"))) ∧ PySem.W.typeIn K (.ref (iniA K "NoReading")) = some (.type "function") ∧ AmX.XInit prog K (cla K "NoReading") (iniA K "NoReading") (Str.ofString ("NoReading" ++ ".__init__")) (defArgs (ini 7)) (defBody (ini 7)) (defScope (ini 7)) ((["word"] : List String).map Str.ofString) (iniD K "NoReading") := by
  obtain ⟨a, b, s, t⟩ := xcl c 5 (q := ("NoReading", 7, ["word"]))
  obtain ⟨h1, h2, h3, fd, F⟩ := xini_ok (P := prog) a b s t
  rw [iniD_eq F]
  exact ⟨h1, h2, h3, F⟩
theorem xi_TwoReadings {K : PySem.W.Frag} (c : obs K = val) : AmX.XCls K (cla K "TwoReadings") ∧ PySem.W.findIn K (.ref (cla K "TwoReadings")) "__init__" = some (some (.ref (iniA K "TwoReadings"))) ∧ PySem.W.typeIn K (.ref (iniA K "TwoReadings")) = some (.type "function") ∧ AmX.XInit prog K (cla K "TwoReadings") (iniA K "TwoReadings") (Str.ofString ("TwoReadings" ++ ".__init__")) (defArgs (ini 8)) (defBody (ini 8)) (defScope (ini 8)) ((["one", "other"] : List String).map Str.ofString) (iniD K "TwoReadings") := by
  obtain ⟨a, b, s, t⟩ := xcl c 6 (q := ("TwoReadings", 8, ["one", "other"]))
  obtain ⟨h1, h2, h3, fd, F⟩ := xini_ok (P := prog) a b s t
  rw [iniD_eq F]
  exact ⟨h1, h2, h3, F⟩
theorem xi_NotEnough {K : PySem.W.Frag} (c : obs K = val) : AmX.XCls K (cla K "NotEnough") ∧ PySem.W.findIn K (.ref (cla K "NotEnough")) "__init__" = some (some (.ref (iniA K "NotEnough"))) ∧ PySem.W.typeIn K (.ref (iniA K "NotEnough")) = some (.type "function") ∧ AmX.XInit prog K (cla K "NotEnough") (iniA K "NotEnough") (Str.ofString ("NotEnough" ++ ".__init__")) (defArgs (ini 9)) (defBody (ini 9)) (defScope (ini 9)) ((["ahead", "behind"] : List String).map Str.ofString) (iniD K "NotEnough") := by
  obtain ⟨a, b, s, t⟩ := xcl c 7 (q := ("NotEnough", 9, ["ahead", "behind"]))
  obtain ⟨h1, h2, h3, fd, F⟩ := xini_ok (P := prog) a b s t
  rw [iniD_eq F]
  exact ⟨h1, h2, h3, F⟩
theorem xi_NotSure {K : PySem.W.Frag} (c : obs K = val) : AmX.XCls K (cla K "NotSure") ∧ PySem.W.findIn K (.ref (cla K "NotSure")) "__init__" = some (some (.ref (iniA K "NotSure"))) ∧ PySem.W.typeIn K (.ref (iniA K "NotSure")) = some (.type "function") ∧ AmX.XInit prog K (cla K "NotSure") (iniA K "NotSure") (Str.ofString ("NotSure" ++ ".__init__")) (defArgs (ini 10)) (defBody (ini 10)) (defScope (ini 10)) ((["place"] : List String).map Str.ofString) (iniD K "NotSure") := by
  obtain ⟨a, b, s, t⟩ := xcl c 8 (q := ("NotSure", 10, ["place"]))
  obtain ⟨h1, h2, h3, fd, F⟩ := xini_ok (P := prog) a b s t
  rw [iniD_eq F]
  exact ⟨h1, h2, h3, F⟩
theorem xi_NoBook {K : PySem.W.Frag} (c : obs K = val) : AmX.XCls K (cla K "NoBook") ∧ PySem.W.findIn K (.ref (cla K "NoBook")) "__init__" = some (some (.ref (iniA K "NoBook"))) ∧ PySem.W.typeIn K (.ref (iniA K "NoBook")) = some (.type "function") ∧ AmX.XInit prog K (cla K "NoBook") (iniA K "NoBook") (Str.ofString ("NoBook" ++ ".__init__")) (defArgs (ini 11)) (defBody (ini 11)) (defScope (ini 11)) ((["length"] : List String).map Str.ofString) (iniD K "NoBook") := by
  obtain ⟨a, b, s, t⟩ := xcl c 9 (q := ("NoBook", 11, ["length"]))
  obtain ⟨h1, h2, h3, fd, F⟩ := xini_ok (P := prog) a b s t
  rw [iniD_eq F]
  exact ⟨h1, h2, h3, F⟩
theorem xi_EvenLength {K : PySem.W.Frag} (c : obs K = val) : AmX.XCls K (cla K "EvenLength") ∧ PySem.W.findIn K (.ref (cla K "EvenLength")) "__init__" = some (some (.ref (iniA K "EvenLength"))) ∧ PySem.W.typeIn K (.ref (iniA K "EvenLength")) = some (.type "function") ∧ AmX.XInit prog K (cla K "EvenLength") (iniA K "EvenLength") (Str.ofString ("EvenLength" ++ ".__init__")) (defArgs (ini 12)) (defBody (ini 12)) (defScope (ini 12)) ((["length"] : List String).map Str.ofString) (iniD K "EvenLength") := by
  obtain ⟨a, b, s, t⟩ := xcl c 10 (q := ("EvenLength", 12, ["length"]))
  obtain ⟨h1, h2, h3, fd, F⟩ := xini_ok (P := prog) a b s t
  rw [iniD_eq F]
  exact ⟨h1, h2, h3, F⟩
theorem xi_NameTaken {K : PySem.W.Frag} (c : obs K = val) : AmX.XCls K (cla K "NameTaken") ∧ PySem.W.findIn K (.ref (cla K "NameTaken")) "__init__" = some (some (.ref (iniA K "NameTaken"))) ∧ PySem.W.typeIn K (.ref (iniA K "NameTaken")) = some (.type "function") ∧ AmX.XInit prog K (cla K "NameTaken") (iniA K "NameTaken") (Str.ofString ("NameTaken" ++ ".__init__")) (defArgs (ini 13)) (defBody (ini 13)) (defScope (ini 13)) ((["name"] : List String).map Str.ofString) (iniD K "NameTaken") := by
  obtain ⟨a, b, s, t⟩ := xcl c 11 (q := ("NameTaken", 13, ["name"]))
  obtain ⟨h1, h2, h3, fd, F⟩ := xini_ok (P := prog) a b s t
  rw [iniD_eq F]
  exact ⟨h1, h2, h3, F⟩
theorem xi_UnknownName {K : PySem.W.Frag} (c : obs K = val) : AmX.XCls K (cla K "UnknownName") ∧ PySem.W.findIn K (.ref (cla K "UnknownName")) "__init__" = some (some (.ref (iniA K "UnknownName"))) ∧ PySem.W.typeIn K (.ref (iniA K "UnknownName")) = some (.type "function") ∧ AmX.XInit prog K (cla K "UnknownName") (iniA K "UnknownName") (Str.ofString ("UnknownName" ++ ".__init__")) (defArgs (ini 14)) (defBody (ini 14)) (defScope (ini 14)) ((["name"] : List String).map Str.ofString) (iniD K "UnknownName") := by
  obtain ⟨a, b, s, t⟩ := xcl c 12 (q := ("UnknownName", 14, ["name"]))
  obtain ⟨h1, h2, h3, fd, F⟩ := xini_ok (P := prog) a b s t
  rw [iniD_eq F]
  exact ⟨h1, h2, h3, F⟩
theorem hx_of {w : World} {K : PySem.W.Frag} {h base : Heap} {mg : Str → Option Value} (X : K.In h) (G : h.Ns mainGlobals mg) (c : obs K = val) (XB : K.In base) : HX w K mg base (iniA K) (iniD K) := by
  have c1 : factB K = true := congrArg (fun z : Al => z.1) c
  unfold factB at c1
  simp only [Bool.and_eq_true] at c1
  exact {
    len_ := fr X G c 0
    int_ := fr X G c 1
    list_ := fr X G c 2
    tuple_ := fr X G c 3
    range_ := fr X G c 4
    repr_ := fr X G c 5
    isinstance_ := fr X G c 6
    f_Exception := fr X G c 7
    f_ValueError := fr X G c 8
    f_LookupError := fr X G c 9
    f_ArithmeticError := fr X G c 10
    f_TypeError := fr X G c 11
    f_RuntimeError := fr X G c 12
    f_AttributeError := fr X G c 13
    f_KeyError := fr X G c 14
    m_ReadError := gl X G c 0
    m_BadFormat := gl X G c 1
    c_BadFormat := xc_ok tx_BadFormat (gl X G c 1) (xi_BadFormat c).1 (xi_BadFormat c).2.1 (xi_BadFormat c).2.2.1 (xi_BadFormat c).2.2.2
    bp_BadFormat := bp_BadFormat (xi_BadFormat c).2.2.2
    bk_BadFormat := bk_BadFormat (xi_BadFormat c).2.2.2
    m_BadWord := gl X G c 2
    c_BadWord := xc_ok tx_BadWord (gl X G c 2) (xi_BadWord c).1 (xi_BadWord c).2.1 (xi_BadWord c).2.2.1 (xi_BadWord c).2.2.2
    bp_BadWord := bp_BadWord (xi_BadWord c).2.2.2
    bk_BadWord := bk_BadWord (xi_BadWord c).2.2.2
    m_BadRecord := gl X G c 3
    c_BadRecord := xc_ok tx_BadRecord (gl X G c 3) (xi_BadRecord c).1 (xi_BadRecord c).2.1 (xi_BadRecord c).2.2.1 (xi_BadRecord c).2.2.2
    bp_BadRecord := bp_BadRecord (xi_BadRecord c).2.2.2
    bk_BadRecord := bk_BadRecord (xi_BadRecord c).2.2.2
    m_InvalidText := gl X G c 4
    c_InvalidText := xc_ok tx_InvalidText (gl X G c 4) (xi_InvalidText c).1 (xi_InvalidText c).2.1 (xi_InvalidText c).2.2.1 (xi_InvalidText c).2.2.2
    bp_InvalidText := bp_InvalidText (xi_InvalidText c).2.2.2
    bk_InvalidText := bk_InvalidText (xi_InvalidText c).2.2.2
    m_OtherLetters := gl X G c 5
    c_OtherLetters := xc_ok tx_OtherLetters (gl X G c 5) (xi_OtherLetters c).1 (xi_OtherLetters c).2.1 (xi_OtherLetters c).2.2.1 (xi_OtherLetters c).2.2.2
    bp_OtherLetters := bp_OtherLetters (xi_OtherLetters c).2.2.2
    m_NoReading := gl X G c 6
    c_NoReading := xc_ok tx_NoReading (gl X G c 6) (xi_NoReading c).1 (xi_NoReading c).2.1 (xi_NoReading c).2.2.1 (xi_NoReading c).2.2.2
    bp_NoReading := bp_NoReading (xi_NoReading c).2.2.2
    bk_NoReading := bk_NoReading (xi_NoReading c).2.2.2
    m_TwoReadings := gl X G c 7
    c_TwoReadings := xc_ok tx_TwoReadings (gl X G c 7) (xi_TwoReadings c).1 (xi_TwoReadings c).2.1 (xi_TwoReadings c).2.2.1 (xi_TwoReadings c).2.2.2
    bp_TwoReadings := bp_TwoReadings (xi_TwoReadings c).2.2.2
    bk_TwoReadings := bk_TwoReadings (xi_TwoReadings c).2.2.2
    m_NotEnough := gl X G c 8
    c_NotEnough := xc_ok tx_NotEnough (gl X G c 8) (xi_NotEnough c).1 (xi_NotEnough c).2.1 (xi_NotEnough c).2.2.1 (xi_NotEnough c).2.2.2
    bp_NotEnough := bp_NotEnough (xi_NotEnough c).2.2.2
    bk_NotEnough := bk_NotEnough (xi_NotEnough c).2.2.2
    m_NotSure := gl X G c 9
    c_NotSure := xc_ok tx_NotSure (gl X G c 9) (xi_NotSure c).1 (xi_NotSure c).2.1 (xi_NotSure c).2.2.1 (xi_NotSure c).2.2.2
    bp_NotSure := bp_NotSure (xi_NotSure c).2.2.2
    bk_NotSure := bk_NotSure (xi_NotSure c).2.2.2
    m_NoBook := gl X G c 10
    c_NoBook := xc_ok tx_NoBook (gl X G c 10) (xi_NoBook c).1 (xi_NoBook c).2.1 (xi_NoBook c).2.2.1 (xi_NoBook c).2.2.2
    bp_NoBook := bp_NoBook (xi_NoBook c).2.2.2
    bk_NoBook := bk_NoBook (xi_NoBook c).2.2.2
    m_EvenLength := gl X G c 11
    c_EvenLength := xc_ok tx_EvenLength (gl X G c 11) (xi_EvenLength c).1 (xi_EvenLength c).2.1 (xi_EvenLength c).2.2.1 (xi_EvenLength c).2.2.2
    bp_EvenLength := bp_EvenLength (xi_EvenLength c).2.2.2
    bk_EvenLength := bk_EvenLength (xi_EvenLength c).2.2.2
    m_NameTaken := gl X G c 12
    c_NameTaken := xc_ok tx_NameTaken (gl X G c 12) (xi_NameTaken c).1 (xi_NameTaken c).2.1 (xi_NameTaken c).2.2.1 (xi_NameTaken c).2.2.2
    bp_NameTaken := bp_NameTaken (xi_NameTaken c).2.2.2
    bk_NameTaken := bk_NameTaken (xi_NameTaken c).2.2.2
    m_UnknownName := gl X G c 13
    c_UnknownName := xc_ok tx_UnknownName (gl X G c 13) (xi_UnknownName c).1 (xi_UnknownName c).2.1 (xi_UnknownName c).2.2.1 (xi_UnknownName c).2.2.2
    bp_UnknownName := bp_UnknownName (xi_UnknownName c).2.2.2
    bk_UnknownName := bk_UnknownName (xi_UnknownName c).2.2.2
    e_ReadError := c1.2.2.2.2.1.1
    k_ReadError := c1.2.2.2.2.1.2
    xsE_ := List.all_eq_true.mp c1.2.2.2.2.2.1
    tbC_ := c1.2.2.2.2.2.2.1
    tbF_ := List.all_eq_true.mp c1.2.2.2.2.2.2.2.1
    exB_ := c1.2.2.2.2.2.2.2.2.1
    sys_ := by
      obtain ⟨o, e⟩ := Option.isSome_iff_exists.mp c1.2.2.2.2.2.2.2.2.2.1
      exact ⟨o, XB _ _ e⟩ }
theorem law_of {w : World} {K : PySem.W.Frag} {h : Heap} {mg : Str → Option Value} {f : Addr} (X : K.In h) (G : h.Ns mainGlobals mg) (hfa : mg (Str.ofString "law") = some (.ref f)) (c : obs K = val) :
    ∃ fd : FuncData, (∀ (s : Shared) (v : Value), BindsTo s fd ⟨[v], []⟩ [("_law_script", v)]) ∧ ∀ base : Heap, K.In base → base.Ns mainGlobals mg → FnG prog w K mg base (L2.CX prog w) 7 f fd ["_law_script"] (spB K 1 F_law) := by
  obtain ⟨fd_deck, FD_deck⟩ := fnd c 0
  have g_deck : mg (Str.ofString "_law_deck") = some (.ref (He.fAd K (dd "_law_deck" 16).at_)) := gl X G c 14
  obtain ⟨fd_draw, FD_draw⟩ := fnd c 1
  have g_draw : mg (Str.ofString "_law_draw") = some (.ref (He.fAd K (dd "_law_draw" 17).at_)) := gl X G c 15
  obtain ⟨fd_pick, FD_pick⟩ := fnd c 2
  have g_pick : mg (Str.ofString "_law_pick") = some (.ref (He.fAd K (dd "_law_pick" 18).at_)) := gl X G c 16
  obtain ⟨fd_value, FD_value⟩ := fnd c 3
  have g_value : mg (Str.ofString "_law_value") = some (.ref (He.fAd K (dd "_law_value" 19).at_)) := gl X G c 17
  obtain ⟨fd_one, FD_one⟩ := fnd c 4
  have g_one : mg (Str.ofString "_law_one") = some (.ref (He.fAd K (dd "_law_one" 20).at_)) := gl X G c 18
  obtain ⟨fd_held, FD_held⟩ := fnd c 5
  have g_held : mg (Str.ofString "_law_held") = some (.ref (He.fAd K (dd "_law_held" 21).at_)) := gl X G c 19
  obtain ⟨fd_classes, FD_classes⟩ := fnd c 6
  have g_classes : mg (Str.ofString "_law_classes") = some (.ref (He.fAd K (dd "_law_classes" 22).at_)) := gl X G c 20
  obtain ⟨fd_is_alone, FD_is_alone⟩ := fnd c 7
  have g_is_alone : mg (Str.ofString "_law_is_alone") = some (.ref (He.fAd K (dd "_law_is_alone" 23).at_)) := gl X G c 21
  obtain ⟨fd_raised, FD_raised⟩ := fnd c 8
  have g_raised : mg (Str.ofString "_law_raised") = some (.ref (He.fAd K (dd "_law_raised" 24).at_)) := gl X G c 22
  obtain ⟨fd_law, FD_law⟩ := fnd c 9
  have g_law : mg (Str.ofString "law") = some (.ref (He.fAd K (dd "law" 25).at_)) := gl X G c 23
  have e := hfa.symm.trans g_law
  cases e
  have b := FunD.bindsA (ps := ["_law_script"]) FD_law fun _ _ _ _ _ _ us hl => match us, hl with | [_], _ => rfl
  refine ⟨fd_law, fun s v => b s [v] rfl, fun base XB _ => ?_⟩
  have hx := hx_of (w := w) X G c XB
  have h_deck := ok_deck hx FD_deck g_deck
  have h_draw := ok_draw hx FD_draw g_draw
  have h_pick := ok_pick hx FD_pick g_pick h_draw
  have v0 : Fn prog w K mg base "_law_value" (2 + 0) 2 (F_value 0) := ⟨_, fd_value, ["_law_deck_here", "_law_deep"], ⟨fun vs H Q E h => by
    obtain ⟨_, _, _, _, _, _, z⟩ := h
    exact z.elim, fun A outer s H args us vs Q E hr e0 hb r h => by
    obtain ⟨_, _, _, _, _, _, z⟩ := h
    exact z.elim⟩, g_value, FD_value.kp, FD_value.bindsN fun _ _ _ _ _ _ us hl => match us, hl with | [_, _], _ => rfl⟩
  have v1 := ok_value hx FD_value g_value h_draw h_pick (n := 0) v0
  have v2 := ok_value hx FD_value g_value h_draw h_pick (n := 1) v1
  have v3 := ok_value hx FD_value g_value h_draw h_pick (n := 2) v2
  have v4 := ok_value hx FD_value g_value h_draw h_pick (n := 3) v3
  have h_one := ok_one hx FD_one g_one
  have h_held := ok_held hx FD_held g_held
  have h_classes := ok_classes hx FD_classes g_classes
  have h_is_alone := ok_is_alone hx FD_is_alone g_is_alone h_classes
  have bC : Binds K fd_classes ["_law_e"] [] := FD_classes.bindsN fun _ _ _ _ _ _ us hl => match us, hl with | [_], _ => rfl
  have h_raised := ok_raised hx FD_raised g_raised (hot_classes hx FD_classes) g_classes FD_classes.kp bC
  exact ok_law hx FD_law h_deck v4 h_one h_held h_classes h_is_alone h_raised
end K80
open PySem PySem.W PySem.Calls PyProof.Rows
theorem PySem.Challenge.cw_amidread_k80_errors_holds : PySem.Challenge.rw_amidread_k80_errors.Holds := by
  w_on; o_law
  refine HandSHeadRun.head_any (r := OpenLaw.row PySem.Challenge.rw_amidread_k80_errors) (q := view (OpenLaw.row PySem.Challenge.rw_amidread_k80_errors).prog [25]) (H := K80.hk) (ob := K80.ob) (M := 5000) (loose := K80.looseL) (d := HandSHeadRun.topDef (OpenLaw.row PySem.Challenge.rw_amidread_k80_errors).prog 25) (kwd := []) K80.ob_eq
    (by kernel_rfl) (fun s => by kernel_rfl) K80.run (by kernel_rfl) (by kernel_rfl) (by kernel_rfl) (by rfl) (by first | assumption | decide +kernel) (by decide +kernel) ⟨rfl, rfl, rfl, rfl, rfl, by decide +kernel⟩ ?hw ?hc
  case hw => w_witness2
  case hc =>
    refine Am.walk_ofG (l := PySem.Challenge.rw_amidread_k80_errors) (n := 63) (k := 7) (x := "_law_script") (F := K80.F_law) rfl (by decide) (by kernel_rfl) ⟨rfl, by decide, by decide⟩ ?F K80.plain
    intro w mg fa h Y G hmg0
    obtain ⟨K, KX, c⟩ := Y
    have hmg : mg ("law" : PySem.Str) = some (.ref fa) := by
      have e : (HandSHeadRun.topDef (OpenLaw.row PySem.Challenge.rw_amidread_k80_errors).prog 25).name = ("law" : PySem.Str) := by kernel_rfl
      rw [← e]
      exact hmg0
    obtain ⟨fd, hb, hF⟩ := K80.law_of (w := w) KX G hmg c
    exact ⟨K, fd, KX, hb, hF⟩

