import PyProof.Rows.All
import Wide.All
import OpenK.AllK
import Wide.FinOn
import KE.KStateDown
import Lean
import HandS.ForMost
import HandS.Exc
import HandS.WordsExc
import HandS.IsInst
import HandS.WideBits
import HandS.Conv
import HandS.Deep
import HandS.TupAny
import HandS.Style
import HandS.Flow
import HandS.SortInts
import HandS.NoneIn
import HandS.ExcOwn
import HandS.Defaults
import HandS.More
import HandS.Zip
import HandS.TupMul
import HandS.Ends
import HandS.Words
import HandS.Head0
import HandS.Head1
import HandS.Head2
import HandS.HeadEnd
import HandS.HeadHook1
import HandS.HeadHook2
import HandS.SetFor
import HandS.Strs
import HandS.Star
import HandS.TupSets
import HandS.ExcInit
import HandS.ExcField
import HandS.ClsMeth
import HandS.Iter
import KE.GoesMore
import PySem.Challenge.RW_orderbench_k45_contexts
set_option Elab.async false
set_option linter.all false
set_option maxRecDepth 100000
section
namespace DL
open PySem PySem.Spec PyProof.Rows L2

/-! ### data without addresses -/
inductive D where
  | non | bl (b : Bool) | int (i : Int) | str (x : Str)
  | tup (l : List D) | lst (l : List D)
  | dct (l : List (Key × D))
  | obj (c : String) (l : List (String × D))
/-- what a name owns: a list that changes, an object that is being made -/
inductive Ct where
  | l (l : List D)
  | o (c : String) (fs : List (String × D))
inductive Sl where
  | no | sh (d : D) | ow (x : Ct) | io (x : Ct)
abbrev En := List Sl
inductive R (α : Type) where
  | ok (a : α) (e : En) | ex (c : String) (fs : List (String × D)) (e : En) | no
abbrev M (α : Type) := En → R α
def M.ret {α : Type} (a : α) : M α := fun e => .ok a e
def M.bnd {α β : Type} (m : M α) (f : α → M β) : M β := fun e => match m e with
  | .ok a e' => f a e'
  | .ex c fs e' => .ex c fs e'
  | .no => .no
inductive Ret where | sh (d : D) | ow (x : Ct)
def Ret.d : Ret → Option D
  | .sh d => some d
  | .ow (.l l) => some (.lst l)
  | .ow (.o c fs) => some (.obj c fs)
abbrev FS := List Sl → R Ret
inductive Fl where | nx | bk | ct | rt (r : Ret)

/-! ### what a value stands for -/
abbrev MG := Str → Option Value
/-- a list that is there for good: tracked, or of the module's own part (the script may be) -/
def LsT (K : PySem.W.Frag) (G : Hp) (a : Addr) (vs : List V) : Prop := Rd G a (.lst vs) ∨ ∃ (us : List Value) (n : Nat), K.lookup a = some { cls := .type "list", data := .seq us.toArray n } ∧ us.length ≤ sizeLine ∧ Vals vs us
theorem LsT.sq {K : PySem.W.Frag} {G : Hp} {a : Addr} {vs : List V} (h : LsT K G a vs) : SqL K G a vs := by
  rcases h with h | ⟨us, n, h1, h2, h3⟩
  · exact .inl h
  · exact .inr ⟨_, us.toArray, n, h1, rfl, rfl, rfl, by simpa using h2, by simpa using h3⟩
inductive Rep (K : PySem.W.Frag) (mg : MG) (G : Hp) : V → D → Prop where
  | non : Rep K mg G .non .non
  | bl (b : Bool) : Rep K mg G (.bl b) (.bl b)
  | int (i : Int) : Rep K mg G (.int i) (.int i)
  | str (x : Str) : Rep K mg G (.str x) (.str x)
  | tup {a : Addr} {vs : List V} {l : List D} : SqT K G a vs → vs.length = l.length → (∀ (i : Nat) v d, vs[i]? = some v → l[i]? = some d → Rep K mg G v d) → Rep K mg G (.ref a) (.tup l)
  | lst {a : Addr} {vs : List V} {l : List D} : LsT K G a vs → vs.length = l.length → (∀ (i : Nat) v d, vs[i]? = some v → l[i]? = some d → Rep K mg G v d) → Rep K mg G (.ref a) (.lst l)
  | dct {a : Addr} {kvs : List (Key × V)} {l : List (Key × D)} : G a = some (.dK kvs) → kvs.length = l.length → (∀ (i : Nat) kv kd, kvs[i]? = some kv → l[i]? = some kd → kv.1 = kd.1) →
      (∀ (i : Nat) kv kd, kvs[i]? = some kv → l[i]? = some kd → Rep K mg G kv.2 kd.2) → Rep K mg G (.ref a) (.dct l)
  | obj {a C dx : Addr} {fs : List (Str × V)} {c : String} {l : List (String × D)} (vf : String → V) : G a = some (.ins C dx fs) → mg (Str.ofString c) = some (.ref C) →
      (∀ f d, l.lookup f = some d → fs.lookup (Str.ofString f) = some (vf f)) → (∀ f d, l.lookup f = some d → Rep K mg G (vf f) d) → (∀ f, l.lookup f = none → fs.lookup (Str.ofString f) = none) → Rep K mg G (.ref a) (.obj c l)
def Reps (K : PySem.W.Frag) (mg : MG) (G : Hp) (vs : List V) (l : List D) : Prop := vs.length = l.length ∧ ∀ (i : Nat) v d, vs[i]? = some v → l[i]? = some d → Rep K mg G v d

theorem Same.seqT {K : PySem.W.Frag} {H H' : Hp} {a : Addr} {xs : List V} (e : Same H H') (h : SqT K H a xs) : SqT K H' a xs := by
  rcases h with (h | ⟨o, h⟩) | h
  · exact .inl (.inl (e _ _ h))
  · exact .inl (.inr ⟨o, e _ _ h⟩)
  · exact .inr h
theorem Same.rd {H H' : Hp} {a : Addr} {u : HO} (e : Same H H') (h : Rd H a u) : Rd H' a u := by
  rcases h with h | ⟨o, h⟩
  · exact .inl (e _ _ h)
  · exact .inr ⟨o, e _ _ h⟩
theorem Same.ls {K : PySem.W.Frag} {H H' : Hp} {a : Addr} {vs : List V} (e : Same H H') (h : LsT K H a vs) : LsT K H' a vs := by
  rcases h with h | h
  · exact .inl (Same.rd e h)
  · exact .inr h
section
variable {K : PySem.W.Frag} {mg : MG} {G G' : Hp}
theorem Rep.mono (e : Same G G') : ∀ {v : V} {d : D}, Rep K mg G v d → Rep K mg G' v d := by
  intro v d h
  induction h with
  | non => exact .non
  | bl b => exact .bl b
  | int i => exact .int i
  | str x => exact .str x
  | tup h1 h2 _ ih => exact .tup (Same.seqT e h1) h2 ih
  | lst h1 h2 _ ih => exact .lst (Same.ls e h1) h2 ih
  | dct h1 h2 h3 _ ih => exact .dct (e _ _ h1) h2 h3 ih
  | obj vf h1 h2 h3 _ h5 ih => exact .obj vf (e _ _ h1) h2 h3 ih h5
theorem Reps.mono (e : Same G G') {vs : List V} {l : List D} (h : Reps K mg G vs l) : Reps K mg G' vs l := ⟨h.1, fun i v d a b => (h.2 i v d a b).mono e⟩
theorem Reps.nil : Reps K mg G [] [] := ⟨rfl, fun _ _ _ h => by simp at h⟩
theorem Reps.cons {v : V} {d : D} {vs : List V} {l : List D} (h : Rep K mg G v d) (t : Reps K mg G vs l) : Reps K mg G (v :: vs) (d :: l) := ⟨by simp [t.1], fun i v' d' a b => by
  cases i with
  | zero => simp at a b; subst a b; exact h
  | succ i => exact t.2 i v' d' (by simpa using a) (by simpa using b)⟩
theorem Reps.append {vs ws : List V} {l m : List D} (h : Reps K mg G vs l) (t : Reps K mg G ws m) : Reps K mg G (vs ++ ws) (l ++ m) := ⟨by simp [h.1, t.1], fun i v d a b => by
  by_cases hi : i < vs.length
  · rw [List.getElem?_append_left hi] at a
    rw [List.getElem?_append_left (by rw [← h.1]; exact hi)] at b
    exact h.2 i v d a b
  · rw [List.getElem?_append_right (by omega)] at a
    rw [List.getElem?_append_right (by rw [← h.1]; omega)] at b
    rw [← h.1] at b
    exact t.2 _ v d a b⟩
theorem Reps.one {v : V} {d : D} (h : Rep K mg G v d) : Reps K mg G [v] [d] := .cons h .nil
theorem Reps.get {vs : List V} {l : List D} (h : Reps K mg G vs l) {i : Nat} {d : D} (e : l[i]? = some d) : ∃ v, vs[i]? = some v ∧ Rep K mg G v d := by
  obtain ⟨hi, _⟩ := List.getElem?_eq_some_iff.mp e
  have hv : i < vs.length := by rw [h.1]; exact hi
  exact ⟨vs[i], List.getElem?_eq_getElem hv, h.2 i _ d (List.getElem?_eq_getElem hv) e⟩
theorem Reps.get' {vs : List V} {l : List D} (h : Reps K mg G vs l) {i : Nat} {v : V} (e : vs[i]? = some v) : ∃ d, l[i]? = some d ∧ Rep K mg G v d := by
  obtain ⟨hi, _⟩ := List.getElem?_eq_some_iff.mp e
  have hv : i < l.length := by rw [← h.1]; exact hi
  exact ⟨l[i], List.getElem?_eq_getElem hv, h.2 i v _ e (List.getElem?_eq_getElem hv)⟩
theorem Reps.set {vs : List V} {l : List D} (h : Reps K mg G vs l) {v : V} {d : D} (r : Rep K mg G v d) (i : Nat) : Reps K mg G (vs.set i v) (l.set i d) := ⟨by simp [h.1], fun j v' d' a b => by
  by_cases hj : i = j
  · subst hj
    have h1 : i < vs.length := by
      obtain ⟨q, _⟩ := List.getElem?_eq_some_iff.mp a
      simpa using q
    rw [List.getElem?_set_self h1] at a
    rw [List.getElem?_set_self (by rw [← h.1]; exact h1)] at b
    cases a; cases b; exact r
  · rw [List.getElem?_set_ne hj] at a b
    exact h.2 j v' d' a b⟩
theorem Rep.ref_tup {v : V} {l : List D} (h : Rep K mg G v (.tup l)) : ∃ a vs, v = .ref a ∧ SqT K G a vs ∧ Reps K mg G vs l := by
  cases h with
  | tup h1 h2 h3 => exact ⟨_, _, rfl, h1, h2, h3⟩
theorem Rep.ref_lst {v : V} {l : List D} (h : Rep K mg G v (.lst l)) : ∃ a vs, v = .ref a ∧ LsT K G a vs ∧ Reps K mg G vs l := by
  cases h with
  | lst h1 h2 h3 => exact ⟨_, _, rfl, h1, h2, h3⟩
theorem Rep.mk_tup {a : Addr} {vs : List V} {l : List D} (h : SqT K G a vs) (r : Reps K mg G vs l) : Rep K mg G (.ref a) (.tup l) := .tup h r.1 r.2
theorem Rep.mk_lst {a : Addr} {vs : List V} {l : List D} (h : LsT K G a vs) (r : Reps K mg G vs l) : Rep K mg G (.ref a) (.lst l) := .lst h r.1 r.2
end

/-- what is owned at a -/
def CtR (K : PySem.W.Frag) (mg : MG) (G H : Hp) (a : Addr) : Ct → Prop
  | .l l => ∃ vs, H a = some (.lst vs) ∧ Reps K mg G vs l
  | .o c fs => ∃ C dx ws, H a = some (.ins C dx ws) ∧ H dx = some (.own a) ∧ G dx = none ∧ mg (Str.ofString c) = some (.ref C) ∧ ws.length ≤ fs.length ∧
      ∃ vf : String → V, (∀ f d, fs.lookup f = some d → ws.lookup (Str.ofString f) = some (vf f) ∧ Rep K mg G (vf f) d) ∧ ∀ f, fs.lookup f = none → ws.lookup (Str.ofString f) = none
def Sl.own : Sl → Option Ct
  | .ow x => some x
  | .io x => some x
  | _ => none
/-- what stays through a def: ia the addresses of the parameters that it may change (O0), G0 and H0 the worlds at its entry, F cells that are kept as they are -/
structure Pm where
  ia : Nat → Addr
  G0 : Hp
  H0 : Hp
  O0 : Nat → Prop
  F : Hp
/-- the state: the values' world G, the names' slots -/
structure Sr (K : PySem.W.Frag) (mg : MG) (p : Pm) (G : Hp) (σ : L2.St) (H : Hp) (e : En) : Prop where
  sub : Same G H
  len : σ.length = e.length
  sh : ∀ (i : Nat) d, e[i]? = some (.sh d) → ∃ v, σ[i]? = some (some v) ∧ Rep K mg G v d
  ow : ∀ (i : Nat) s x, e[i]? = some s → s.own = some x → ∃ a, σ[i]? = some (some (.ref a)) ∧ G a = none ∧ CtR K mg G H a x
  io : ∀ (i : Nat) x, e[i]? = some (.io x) → σ[i]? = some (some (.ref (p.ia i))) ∧ p.O0 i
  ap : ∀ (i j : Nat) s t x y a, e[i]? = some s → e[j]? = some t → s.own = some x → t.own = some y → σ[i]? = some (some (.ref a)) → σ[j]? = some (some (.ref a)) → i = j
  fr : ∀ a o, p.H0 a = some o → (∀ i, p.O0 i → p.ia i ≠ a) → H a = some o
  nw : ∀ a o, G a = some o → p.G0 a = some o ∨ p.H0 a = none
  of : ∀ (i : Nat) x a, e[i]? = some (.ow x) → σ[i]? = some (some (.ref a)) → p.H0 a = none
  dm : ∀ a, H a = none → p.H0 a = none
  kp : ∀ a o, p.F a = some o → H a = some o ∧ G a = none
  ka : ∀ (i : Nat) s x a, e[i]? = some s → s.own = some x → σ[i]? = some (some (.ref a)) → p.F a = none
abbrev Srp := Sr
/-- an error's own dict -/
def Xr (K : PySem.W.Frag) (mg : MG) (G H : Hp) (d : Addr) (fs : List (String × D)) : Prop :=
  ∃ ws : List (Str × V), H d = some (.xd ws) ∧ ∀ f x, fs.lookup f = some x → ∃ v, ws.lookup (Str.ofString f) = some v ∧ Rep K mg G v x
/-- what is to hold behind an expression, by its meaning -/
def Wp {α : Type} (K : PySem.W.Frag) (mg : MG) (W : WX) (p : Pm) (G : Hp) (σ : L2.St) (r : R α) (k : α → Hp → Hp → En → Prop) : Prop := match r with
  | .ok a e => ∀ G' H', Same G G' → Srp K mg p G' σ H' e → k a G' H' e
  | .ex c fs e => ∀ G' H' C d, Same G G' → Srp K mg p G' σ H' e → mg (Str.ofString c) = some (.ref C) → Xr K mg G' H' d fs → W (.ref C) (some d) σ H'
  | .no => False
/-- .. a statement -/
def RetK (K : PySem.W.Frag) (mg : MG) (p : Pm) (G : Hp) (σ : L2.St) (H : Hp) (e : En) (Q : VK) : Ret → Prop
  | .sh d => ∀ v, Rep K mg G v d → Q v H
  | .ow x => ∀ a : Addr, G a = none → CtR K mg G H a x → p.H0 a = none → p.F a = none → (∀ (i : Nat) s y, e[i]? = some s → s.own = some y → σ[i]? ≠ some (some (V.ref a))) → Q (.ref a) H
def Ws (K : PySem.W.Frag) (mg : MG) (W : WX) (p : Pm) (G : Hp) (r : R Fl) (E : Ends) : Prop := match r with
  | .ok fl e => ∀ G' σ' H', Same G G' → Srp K mg p G' σ' H' e → (match fl with
    | .nx => E.nx σ' H'
    | .bk => E.bk σ' H'
    | .ct => E.ct σ' H'
    | .rt r => RetK K mg p G' σ' H' e E.rt r)
  | .ex c fs e => ∀ G' σ' H' C d, Same G G' → Srp K mg p G' σ' H' e → mg (Str.ofString c) = some (.ref C) → Xr K mg G' H' d fs → W (.ref C) (some d) σ' H'
  | .no => False
section
variable {K : PySem.W.Frag} {mg : MG} {W : WX} {p : Pm} {G G' : Hp} {σ : L2.St} {α β : Type}
theorem Wp.mono {r : R α} {k k' : α → Hp → Hp → En → Prop} (h : Wp K mg W p G σ r k) (hk : ∀ a G' H' e, Same G G' → Srp K mg p G' σ H' e → k a G' H' e → k' a G' H' e) : Wp K mg W p G σ r k' := by
  cases r with
  | ok a e => exact fun G' H' s z => hk a G' H' e s z (h G' H' s z)
  | ex c fs e => exact h
  | no => exact h
theorem Wp.up {r : R α} {k : α → Hp → Hp → En → Prop} (h : Wp K mg W p G σ r k) (s : Same G G') : Wp K mg W p G' σ r k := by
  cases r with
  | ok a e => exact fun G2 H2 s2 z => h G2 H2 (s.trans s2) z
  | ex c fs e => exact fun G2 H2 C d s2 z => h G2 H2 C d (s.trans s2) z
  | no => exact h
theorem Wp.bnd {m : M α} {f : α → M β} {e : En} {k : β → Hp → Hp → En → Prop} (h : Wp K mg W p G σ (M.bnd m f e) k) :
    Wp K mg W p G σ (m e) fun a G' H' e' => Wp K mg W p G' σ (f a e') k := by
  unfold M.bnd at h
  cases r : m e with
  | ok a e' => rw [r] at h; exact fun G' H' s z => Wp.up h s
  | ex c fs e' => rw [r] at h; exact h
  | no => rw [r] at h; exact h
theorem Ws.up {r : R Fl} {E : Ends} (h : Ws K mg W p G r E) (s : Same G G') : Ws K mg W p G' r E := by
  cases r with
  | ok a e => exact fun G2 σ2 H2 s2 z => h G2 σ2 H2 (s.trans s2) z
  | ex c fs e => exact fun G2 σ2 H2 C d s2 z => h G2 σ2 H2 C d (s.trans s2) z
  | no => exact h
/-- an expression's meaning, then a statement's -/
theorem Ws.bnd {m : M α} {f : α → M Fl} {e : En} {E : Ends} (h : Ws K mg W p G (M.bnd m f e) E) : Wp K mg W p G σ (m e) fun a G' H' e' => Ws K mg W p G' (f a e') E := by
  unfold M.bnd at h
  cases r : m e with
  | ok a e' => rw [r] at h; exact fun G' H' s z => Ws.up h s
  | ex c fs e' => rw [r] at h; exact fun G' H' C d => h G' σ H' C d
  | no => rw [r] at h; exact h
end

/-! ### contexts -/
/-- what is known of where one stands -/
structure CI where
  P : Program
  w : World
  K : PySem.W.Frag
  mg : MG
  base : Heap
  N : List Str
  sc : Scope
  fn : Str → Bool
  k : Nat
structure Okx (I : CI) (W : WX) (X : Cx) : Prop where
  hP : X.prog = I.P
  hw : X.w = I.w
  hK : X.K = I.K
  hmg : X.mg = I.mg
  hbase : X.base = I.base
  hN : X.N = I.N
  hsc : X.env.scope = I.sc
  hfn : X.fn = I.fn
  nd : I.N.Nodup
  calm : X.calm = true
  room : Room I.k X.A
  takes : Takes X W
  passes : PassesOwn (model X.prog X.w) X.A X.env X.xe
/-! ### meanings simulate readings -/
def SimE (I : CI) (W : WX) (t : TE) (m : M D) : Prop := ∀ (p : Pm) G σ H e (Q : VK), Srp I.K I.mg p G σ H e → Wp I.K I.mg W p G σ (m e) (fun d G' H' _ => ∀ v, Rep I.K I.mg G' v d → Q v H') → t σ H Q
def SimT (I : CI) (W : WX) (t : TT) (m : M Bool) : Prop := ∀ (p : Pm) G σ H e (Q : Bool → Hp → Prop), Srp I.K I.mg p G σ H e → Wp I.K I.mg W p G σ (m e) (fun b _ H' _ => Q b H') → t σ H Q
def SimA (I : CI) (W : WX) (t : TA) (m : M (List D)) : Prop := ∀ (p : Pm) G σ H e (Q : List V → Hp → Prop), Srp I.K I.mg p G σ H e → Wp I.K I.mg W p G σ (m e) (fun ds G' H' _ => ∀ vs, Reps I.K I.mg G' vs ds → Q vs H') → t σ H Q
/-- a result: a value, or a new thing that nobody else holds -/
def SimR (I : CI) (W : WX) (t : TE) (m : M Ret) : Prop := ∀ (p : Pm) G σ H e (Q : VK), Srp I.K I.mg p G σ H e → Wp I.K I.mg W p G σ (m e) (fun r G' H' e' => RetK I.K I.mg p G' σ H' e' Q r) → t σ H Q
def SimS (I : CI) (W : WX) (t : TS) (m : M Fl) : Prop := ∀ (p : Pm) G σ H e (E : Ends), Srp I.K I.mg p G σ H e → Ws I.K I.mg W p G (m e) E → t E σ H
def DE (I : CI) (W : WX) (e : Expr) (m : M D) : Prop := ∃ t, (∀ X, Okx I W X → PE X e t) ∧ SimE I W t m
def DT (I : CI) (W : WX) (e : Expr) (m : M Bool) : Prop := ∃ t, (∀ X, Okx I W X → PT X e t) ∧ SimT I W t m
def DA (I : CI) (W : WX) (es : List Expr) (m : M (List D)) : Prop := ∃ t, (∀ X, Okx I W X → PA X es t) ∧ SimA I W t m
def DR (I : CI) (W : WX) (e : Expr) (m : M Ret) : Prop := ∃ t, (∀ X, Okx I W X → PE X e t) ∧ SimR I W t m
def DS (I : CI) (W : WX) (st : Stmt) (m : M Fl) : Prop := ∃ t, (∀ X, Okx I W X → PS X st t) ∧ SimS I W t m
def DSs (I : CI) (W : WX) (sts : List Stmt) (m : M Fl) : Prop := ∃ t, (∀ X, Okx I W X → PSs X sts t) ∧ SimS I W t m
end DL
end

section
namespace DL
open PySem PySem.Spec L2
open PyProof.Rows hiding St

def Ct.d : Ct → D
  | .l ys => .lst ys
  | .o c fs => .obj c fs
def Sl.put (x : Ct) : Sl → Sl
  | .ow _ => .ow x
  | .io _ => .io x
  | s => s
def Sl.isIo : Sl → Bool
  | .io _ => true
  | _ => false
theorem Sl.put_own {x y : Ct} : ∀ {s : Sl}, s.own = some y → (s.put x).own = some x
  | .ow _, _ => rfl
  | .io _, _ => rfl
  | .no, h => nomatch h
  | .sh _, h => nomatch h
section
variable {K : PySem.W.Frag} {mg : MG} {p : Pm} {G G' H H' : Hp} {σ : L2.St} {e : En} {a b : Addr} {x y : Ct}

theorem CtR.at (h : CtR K mg G H a x) : ∃ o, H a = some o ∧ (∀ c, o ≠ .own c) := by
  cases x with
  | l l => obtain ⟨vs, h, _⟩ := h; exact ⟨_, h, fun _ z => nomatch z⟩
  | o c fs => obtain ⟨C, dx, ws, h, _⟩ := h; exact ⟨_, h, fun _ z => nomatch z⟩
/-- other cells may change -/
theorem CtR.keep (h : CtR K mg G H a x) (k : ∀ b o, H b = some o → (b = a ∨ o = .own a) → H' b = some o) : CtR K mg G H' a x := by
  cases x with
  | l l => obtain ⟨vs, h, r⟩ := h; exact ⟨vs, k _ _ h (.inl rfl), r⟩
  | o c fs =>
    obtain ⟨C, dx, ws, h, h2, r⟩ := h
    exact ⟨C, dx, ws, k _ _ h (.inl rfl), k _ _ h2 (.inr rfl), r⟩
theorem CtR.mono (h : CtR K mg G H a x) (s : Same G G') (n : ∀ b, H b = some (.own a) → G b = none → G' b = none) : CtR K mg G' H a x := by
  cases x with
  | l l => obtain ⟨vs, h, r⟩ := h; exact ⟨vs, h, r.mono s⟩
  | o c fs =>
    obtain ⟨C, dx, ws, h, h2, h3, h4, h5, vf, h6, h7⟩ := h
    exact ⟨C, dx, ws, h, h2, n _ h2 h3, h4, h5, vf, fun f d q => ⟨(h6 f d q).1, (h6 f d q).2.mono s⟩, h7⟩
/-- a new thing is given up to all -/
theorem Sr.freeze (S : Srp K mg p G σ H e) (ga : G a = none) (c : CtR K mg G H a x) (h0 : p.H0 a = none) (hF : p.F a = none) (ap : ∀ (i : Nat) s y, e[i]? = some s → s.own = some y → σ[i]? ≠ some (some (V.ref a))) :
    ∃ G', Same G G' ∧ Srp K mg p G' σ H e ∧ Rep K mg G' (.ref a) x.d := by
  obtain ⟨o, ho, no⟩ := c.at
  have s : Same G (upd G a o) := fun b u q => by
    rw [upd_ne (fun z => by rw [z, ga] at q; cases q)]
    exact q
  refine ⟨upd G a o, s, ⟨?_, S.len, ?_, ?_, S.io, S.ap, S.fr, ?_, S.of, S.dm, fun b u q => ⟨(S.kp b u q).1, by rw [upd_ne (fun z => by rw [z, hF] at q; cases q)]; exact (S.kp b u q).2⟩, S.ka⟩, ?_⟩
  · intro b u q
    by_cases hb : b = a
    · subst hb; rw [upd_same] at q; cases q; exact ho
    · rw [upd_ne hb] at q; exact S.sub _ _ q
  · intro i d q
    obtain ⟨v, h1, h2⟩ := S.sh i d q
    exact ⟨v, h1, h2.mono s⟩
  · intro i t y q1 q2
    obtain ⟨a2, h1, h2, h3⟩ := S.ow i t y q1 q2
    have ne : a2 ≠ a := fun z => ap i t y q1 q2 (by rw [h1, z])
    refine ⟨a2, h1, by rw [upd_ne ne]; exact h2, h3.mono s fun b hb gb => ?_⟩
    by_cases z : b = a
    · subst z; rw [ho] at hb; cases hb; exact absurd rfl (no a2)
    · rw [upd_ne z]; exact gb
  · intro b u q
    by_cases hb : b = a
    · subst hb; exact .inr h0
    · rw [upd_ne hb] at q; exact S.nw _ _ q
  · cases x with
    | l l =>
      obtain ⟨vs, h, r⟩ := c
      rw [ho] at h; cases h
      exact .mk_lst (.inl (.inl upd_same)) (r.mono s)
    | o c fs =>
      obtain ⟨C, dx, ws, h, h2, h3, h4, h5, vf, h6, h7⟩ := c
      rw [ho] at h; cases h
      exact .obj vf upd_same h4 (fun f d q => (h6 f d q).1) (fun f d q => (h6 f d q).2.mono s) h7
theorem Sr.lt (S : Srp K mg p G σ H e) {i : Nat} {s : Sl} (h : e[i]? = some s) : i < σ.length := by
  obtain ⟨q, _⟩ := List.getElem?_eq_some_iff.mp h
  rw [S.len]; exact q
/-- a slot that is no parameter's own is stored anew -/
theorem Sr.setSh (S : Srp K mg p G σ H e) {i : Nat} {v : V} {d : D} (r : Rep K mg G v d) (hi : i < e.length) (io : ∀ x, e[i]? ≠ some (.io x)) : Srp K mg p G (σ.set i (some v)) H (e.set i (.sh d)) := by
  have hl : i < σ.length := by rw [S.len]; exact hi
  refine ⟨S.sub, by simp [S.len], ?_, ?_, ?_, ?_, S.fr, S.nw, ?_, S.dm, S.kp, fun j t y a q1 q2 q3 => ?_⟩
  · intro j d' q
    by_cases hj : i = j
    · subst hj
      rw [List.getElem?_set_self hi] at q; cases q
      exact ⟨v, List.getElem?_set_self hl, r⟩
    · rw [List.getElem?_set_ne hj] at q
      rw [List.getElem?_set_ne hj]
      exact S.sh j d' q
  · intro j t y q1 q2
    by_cases hj : i = j
    · subst hj
      rw [List.getElem?_set_self hi] at q1; cases q1; cases q2
    · rw [List.getElem?_set_ne hj] at q1
      rw [List.getElem?_set_ne hj]
      exact S.ow j t y q1 q2
  · intro j y q1
    by_cases hj : i = j
    · subst hj
      rw [List.getElem?_set_self hi] at q1; cases q1
    · rw [List.getElem?_set_ne hj] at q1
      rw [List.getElem?_set_ne hj]
      exact S.io j y q1
  · intro j k s t y z a h1 h2 h3 h4 h5 h6
    by_cases hj : i = j
    · subst hj
      rw [List.getElem?_set_self hi] at h1; cases h1; cases h3
    · by_cases hk : i = k
      · subst hk
        rw [List.getElem?_set_self hi] at h2; cases h2; cases h4
      · rw [List.getElem?_set_ne hj] at h1 h5
        rw [List.getElem?_set_ne hk] at h2 h6
        exact S.ap j k s t y z a h1 h2 h3 h4 h5 h6
  · intro j y a q1 q2
    by_cases hj : i = j
    · subst hj
      rw [List.getElem?_set_self hi] at q1; cases q1
    · rw [List.getElem?_set_ne hj] at q1 q2
      exact S.of j y a q1 q2
  · by_cases hj : i = j
    · subst hj
      rw [List.getElem?_set_self hi] at q1; cases q1; cases q2
    · rw [List.getElem?_set_ne hj] at q1 q3
      exact S.ka j t y a q1 q2 q3
theorem Sr.setOw (S : Srp K mg p G σ H e) {i : Nat} (ga : G a = none) (c : CtR K mg G H a x) (h0 : p.H0 a = none) (hF : p.F a = none) (ap : ∀ (i : Nat) s y, e[i]? = some s → s.own = some y → σ[i]? ≠ some (some (V.ref a)))
    (hi : i < e.length) (io : ∀ x, e[i]? ≠ some (.io x)) : Srp K mg p G (σ.set i (some (.ref a))) H (e.set i (.ow x)) := by
  have hl : i < σ.length := by rw [S.len]; exact hi
  refine ⟨S.sub, by simp [S.len], ?_, ?_, ?_, ?_, S.fr, S.nw, ?_, S.dm, S.kp, fun j t y a' q1 q2 q3 => ?_⟩
  · intro j d' q
    by_cases hj : i = j
    · subst hj
      rw [List.getElem?_set_self hi] at q; cases q
    · rw [List.getElem?_set_ne hj] at q
      rw [List.getElem?_set_ne hj]
      exact S.sh j d' q
  · intro j t y q1 q2
    by_cases hj : i = j
    · subst hj
      rw [List.getElem?_set_self hi] at q1; cases q1; cases q2
      exact ⟨a, List.getElem?_set_self hl, ga, c⟩
    · rw [List.getElem?_set_ne hj] at q1
      rw [List.getElem?_set_ne hj]
      exact S.ow j t y q1 q2
  · intro j y q1
    by_cases hj : i = j
    · subst hj
      rw [List.getElem?_set_self hi] at q1; cases q1
    · rw [List.getElem?_set_ne hj] at q1
      rw [List.getElem?_set_ne hj]
      exact S.io j y q1
  · intro j k s t y z a' h1 h2 h3 h4 h5 h6
    by_cases hj : i = j
    · by_cases hk : i = k
      · rw [← hj, ← hk]
      · subst hj
        rw [List.getElem?_set_self hl] at h5; cases h5
        rw [List.getElem?_set_ne hk] at h2 h6
        exact absurd h6 (ap k t z h2 h4)
    · by_cases hk : i = k
      · subst hk
        rw [List.getElem?_set_self hl] at h6; cases h6
        rw [List.getElem?_set_ne hj] at h1 h5
        exact absurd h5 (ap j s y h1 h3)
      · rw [List.getElem?_set_ne hj] at h1 h5
        rw [List.getElem?_set_ne hk] at h2 h6
        exact S.ap j k s t y z a' h1 h2 h3 h4 h5 h6
  · intro j y a' q1 q2
    by_cases hj : i = j
    · subst hj
      rw [List.getElem?_set_self hl] at q2; cases q2
      exact h0
    · rw [List.getElem?_set_ne hj] at q1 q2
      exact S.of j y a' q1 q2
  · by_cases hj : i = j
    · subst hj
      rw [List.getElem?_set_self hl] at q3; cases q3
      exact hF
    · rw [List.getElem?_set_ne hj] at q1 q3
      exact S.ka j t y a' q1 q2 q3
/-- a slot's meaning is forgotten -/
theorem Sr.drop (S : Srp K mg p G σ H e) (i : Nat) : Srp K mg p G σ H (e.set i .no) := by
  have no : ∀ {j : Nat} {s : Sl}, (e.set i .no)[j]? = some s → s = .no ∨ e[j]? = some s := fun {j s} q => by
    by_cases hj : i = j
    · subst hj
      by_cases hi : i < e.length
      · rw [List.getElem?_set_self hi] at q; cases q; exact .inl rfl
      · rw [List.getElem?_eq_none (by simpa using hi)] at q; cases q
    · rw [List.getElem?_set_ne hj] at q; exact .inr q
  refine ⟨S.sub, by simp [S.len], ?_, ?_, ?_, ?_, S.fr, S.nw, ?_, S.dm, S.kp, fun j t y a q1 q2 q3 => (no q1).elim (fun z => by subst z; cases q2) fun z => S.ka j t y a z q2 q3⟩
  · intro j d q
    rcases no q with z | z
    · cases z
    · exact S.sh j d z
  · intro j t y q1 q2
    rcases no q1 with z | z
    · subst z; cases q2
    · exact S.ow j t y z q2
  · intro j y q1
    rcases no q1 with z | z
    · cases z
    · exact S.io j y z
  · intro j k s t y z a h1 h2 h3 h4 h5 h6
    rcases no h1 with z1 | z1
    · subst z1; cases h3
    · rcases no h2 with z2 | z2
      · subst z2; cases h4
      · exact S.ap j k s t y z a z1 z2 h3 h4 h5 h6
  · intro j y a q1 q2
    rcases no q1 with z | z
    · cases z
    · exact S.of j y a z q2
/-- an own slot's thing is given up -/
theorem Sr.freezeSlot (S : Srp K mg p G σ H e) {i : Nat} (h : e[i]? = some (.ow x)) : ∃ a G', σ[i]? = some (some (.ref a)) ∧ Same G G' ∧ Srp K mg p G' σ H (e.set i (.sh x.d)) ∧ Rep K mg G' (.ref a) x.d := by
  obtain ⟨a, h1, h2, h3⟩ := S.ow i _ x h rfl
  have io : ∀ y, e[i]? ≠ some (.io y) := fun y z => by rw [h] at z; cases z
  obtain ⟨hi, _⟩ := List.getElem?_eq_some_iff.mp h
  have hl : i < σ.length := by rw [S.len]; exact hi
  have S1 := S.drop i
  obtain ⟨G', s, S2, r⟩ := S1.freeze (a := a) h2 h3 (S.of i x a h h1) (S.ka i _ x a h rfl h1) (fun j s y q1 q2 z => by
    by_cases hj : i = j
    · subst hj
      rw [List.getElem?_set_self hi] at q1; cases q1; cases q2
    · rw [List.getElem?_set_ne hj] at q1
      exact hj (S.ap i j _ s x y a h q1 rfl q2 h1 z))
  refine ⟨a, G', h1, s, ?_, r⟩
  have S3 := S2.setSh (i := i) r (by simpa using hi) (fun y z => by rw [List.getElem?_set_self hi] at z; cases z)
  have e1 : σ.set i (some (.ref a)) = σ := by
    obtain ⟨_, q⟩ := List.getElem?_eq_some_iff.mp h1
    rw [← q]
    exact List.set_getElem_self _
  rw [e1, List.set_set] at S3
  exact S3
/-- a new object for all -/
theorem Sr.laid (S : Srp K mg p G σ H e) {q : Addr} {o : HO} (n : H q = none) : Same G (upd G q o) ∧ Srp K mg p (upd G q o) σ (upd H q o) e := by
  have gn : G q = none := by
    cases z : G q with
    | none => rfl
    | some u => rw [S.sub _ _ z] at n; cases n
  have s : Same G (upd G q o) := fun b u z => by
    rw [upd_ne (fun y => by rw [y, gn] at z; cases z)]
    exact z
  have kp : ∀ b u, H b = some u → upd H q o b = some u := fun b u z => by
    rw [upd_ne (fun y => by rw [y, n] at z; cases z)]
    exact z
  refine ⟨s, ⟨?_, S.len, ?_, ?_, S.io, S.ap, fun a u h1 h2 => kp _ _ (S.fr a u h1 h2), ?_, S.of, ?_, fun b u z => ⟨kp _ _ (S.kp b u z).1, by rw [upd_ne (fun y => by rw [y] at z; have := (S.kp _ _ z).1; rw [n] at this; cases this)]; exact (S.kp b u z).2⟩, S.ka⟩⟩
  · intro b u z
    by_cases hb : b = q
    · subst hb; rw [upd_same] at z ⊢; exact z
    · rw [upd_ne hb] at z ⊢; exact S.sub _ _ z
  · intro i d z
    obtain ⟨v, h1, h2⟩ := S.sh i d z
    exact ⟨v, h1, h2.mono s⟩
  · intro i t y q1 q2
    obtain ⟨a2, h1, h2, h3⟩ := S.ow i t y q1 q2
    obtain ⟨u, hu, _⟩ := h3.at
    have ne : a2 ≠ q := fun z => by rw [z, n] at hu; cases hu
    refine ⟨a2, h1, by rw [upd_ne ne]; exact h2, (h3.mono s fun b hb gb => ?_).keep fun b u hb _ => kp b u hb⟩
    rw [upd_ne (fun z => by rw [z, n] at hb; cases hb)]
    exact gb
  · intro b u z
    by_cases hb : b = q
    · subst hb; exact .inr (S.dm _ n)
    · rw [upd_ne hb] at z; exact S.nw _ _ z
  · intro b z
    by_cases hb : b = q
    · subst hb; exact S.dm _ n
    · rw [upd_ne hb] at z; exact S.dm _ z
/-- a new object, nobody's as yet -/
theorem Sr.laidOw (S : Srp K mg p G σ H e) {q : Addr} {o : HO} (n : H q = none) : Srp K mg p G σ (upd H q o) e ∧ G q = none ∧ p.H0 q = none ∧ p.F q = none ∧ ∀ (i : Nat) s y, e[i]? = some s → s.own = some y → σ[i]? ≠ some (some (V.ref q)) := by
  have gn : G q = none := by
    cases z : G q with
    | none => rfl
    | some u => rw [S.sub _ _ z] at n; cases n
  have kp : ∀ b u, H b = some u → upd H q o b = some u := fun b u z => by
    rw [upd_ne (fun y => by rw [y, n] at z; cases z)]
    exact z
  refine ⟨⟨fun b u z => kp _ _ (S.sub _ _ z), S.len, S.sh, ?_, S.io, S.ap, fun a u h1 h2 => kp _ _ (S.fr a u h1 h2), S.nw, S.of, ?_, fun b u z => ⟨kp _ _ (S.kp b u z).1, (S.kp b u z).2⟩, S.ka⟩, gn, S.dm _ n, ?_, ?_⟩
  · intro i t y q1 q2
    obtain ⟨a2, h1, h2, h3⟩ := S.ow i t y q1 q2
    exact ⟨a2, h1, h2, h3.keep fun b u hb _ => kp b u hb⟩
  · intro b z
    by_cases hb : b = q
    · subst hb; exact S.dm _ n
    · rw [upd_ne hb] at z; exact S.dm _ z
  · cases z : p.F q with
    | none => rfl
    | some u => have := (S.kp _ _ z).1; rw [n] at this; cases this
  · intro i s y q1 q2 z
    obtain ⟨a2, h1, h2, h3⟩ := S.ow i s y q1 q2
    rw [h1] at z; cases z
    obtain ⟨u, hu, _⟩ := h3.at
    rw [n] at hu; cases hu
/-- what an own slot holds is changed -/
theorem Sr.change (S : Srp K mg p G σ H e) {i : Nat} {s : Sl} {o : HO} (h : e[i]? = some s) (hs : s.own = some x) (ha : σ[i]? = some (some (.ref a))) (no : ∀ c, o ≠ .own c)
    (c : CtR K mg G (upd H a o) a y) : Srp K mg p G σ (upd H a o) (e.set i (s.put y)) := by
  obtain ⟨hi, _⟩ := List.getElem?_eq_some_iff.mp h
  obtain ⟨a', h1, h2, h3⟩ := S.ow i s x h hs
  rw [ha] at h1; cases h1
  obtain ⟨u0, hu0, nu0⟩ := h3.at
  have at_ : ∀ {j : Nat} {t : Sl}, (e.set i (s.put y))[j]? = some t → (j = i ∧ t = s.put y) ∨ (j ≠ i ∧ e[j]? = some t) := fun {j t} q => by
    by_cases hj : i = j
    · subst hj
      rw [List.getElem?_set_self hi] at q; cases q; exact .inl ⟨rfl, rfl⟩
    · rw [List.getElem?_set_ne hj] at q; exact .inr ⟨fun z => hj z.symm, q⟩
  have at2 : ∀ {j : Nat} {t : Sl} {z : Ct}, (e.set i (s.put y))[j]? = some t → t.own = some z → ∃ t' z', e[j]? = some t' ∧ t'.own = some z' := fun {j t z} q1 q2 => by
    rcases at_ q1 with ⟨rfl, rfl⟩ | ⟨_, q⟩
    · exact ⟨s, x, h, hs⟩
    · exact ⟨t, z, q, q2⟩
  refine ⟨?_, by simp [S.len], ?_, ?_, ?_, ?_, ?_, S.nw, ?_, ?_, fun b u z => ⟨(upd_ne (fun w => by subst w; have := S.ka i s x b h hs ha; rw [this] at z; cases z)).trans (S.kp b u z).1, (S.kp b u z).2⟩, fun j t y' b q1 q2 q3 => by
    obtain ⟨t', z', k1, k2⟩ := at2 q1 q2
    exact S.ka j t' z' b k1 k2 q3⟩
  · intro b u q
    rw [upd_ne (fun z => by rw [z, h2] at q; cases q)]
    exact S.sub _ _ q
  · intro j d q
    rcases at_ q with ⟨rfl, z⟩ | ⟨_, q⟩
    · have : (s.put y).own = some y := Sl.put_own hs
      rw [← z] at this; cases this
    · exact S.sh j d q
  · intro j t z q1 q2
    rcases at_ q1 with ⟨rfl, rfl⟩ | ⟨hj, q⟩
    · rw [Sl.put_own hs] at q2; cases q2
      exact ⟨a, ha, h2, c⟩
    · obtain ⟨a2, k1, k2, k3⟩ := S.ow j t z q q2
      have ne : a2 ≠ a := fun w => hj (S.ap j i t s z x a q h q2 hs (by rw [k1, w]) ha)
      refine ⟨a2, k1, k2, k3.keep fun b u hb hc => ?_⟩
      refine (upd_ne fun w => ?_).trans hb
      subst w
      rcases hc with hc | hc
      · exact ne hc.symm
      · rw [hb] at hu0; cases hu0
        exact nu0 _ hc
  · intro j z q1
    rcases at_ q1 with ⟨rfl, w⟩ | ⟨hj, q⟩
    · cases s with
      | io x' =>
        exact S.io j x' h
      | ow _ => cases w
      | no => cases w
      | sh _ => cases w
    · exact S.io j z q
  · intro j k s1 t y1 z b h1 h2 h3 h4 h5 h6
    obtain ⟨t1, z1, k1, k2⟩ := at2 h1 h3
    obtain ⟨t2, z2, k3, k4⟩ := at2 h2 h4
    exact S.ap j k t1 t2 z1 z2 b k1 k3 k2 k4 h5 h6
  · intro b u q1 q2
    have hb : b ≠ a := fun w => by
      subst w
      cases s with
      | io x' =>
        obtain ⟨k1, k2⟩ := S.io i x' h
        rw [ha] at k1; cases k1
        exact q2 i k2 rfl
      | ow x' =>
        have := S.of i x' b h ha
        rw [this] at q1; cases q1
      | no => cases hs
      | sh _ => cases hs
    rw [upd_ne hb]; exact S.fr b u q1 q2
  · intro j z b q1 q2
    rcases at_ q1 with ⟨rfl, w⟩ | ⟨hj, q⟩
    · cases s with
      | ow x' => exact S.of j x' b h q2
      | io _ => cases w
      | no => cases w
      | sh _ => cases w
    · exact S.of j z b q q2
  · intro b z
    by_cases hb : b = a
    · subst hb; rw [upd_same] at z; cases z
    · rw [upd_ne hb] at z; exact S.dm _ z
end

/-! ### from a new thing to a value -/
def mD (m : M Ret) : M D := M.bnd m fun r => match r with
  | .sh d => M.ret d
  | .ow x => M.ret x.d
theorem SimE.of_r {I : CI} {W : WX} {t : TE} {m : M Ret} (h : SimR I W t m) : SimE I W t (mD m) := by
  intro p G σ H e Q S w
  refine h p G σ H e Q S (Wp.mono (Wp.bnd w) fun r G' H' e' s S' q => ?_)
  cases r with
  | sh d => exact fun v r => q G' H' (Same.refl _) S' v r
  | ow x =>
    intro a ga c h0 hF ap
    obtain ⟨G2, s2, S2, r2⟩ := Sr.freeze S' ga c h0 hF ap
    exact q G2 H' s2 S2 _ r2
def mR (m : M D) : M Ret := M.bnd m fun d => M.ret (.sh d)
theorem SimR.of_e {I : CI} {W : WX} {t : TE} {m : M D} (h : SimE I W t m) : SimR I W t (mR m) := by
  intro p G σ H e Q S w
  refine h p G σ H e Q S (Wp.mono (Wp.bnd w) fun d G' H' e' s S' q => ?_)
  exact fun v r => q G' H' (Same.refl _) S' v r
theorem de_r {I : CI} {W : WX} {e : Expr} {m : M Ret} (h : DR I W e m) : DE I W e (mD m) := let ⟨t, h1, h2⟩ := h; ⟨t, h1, .of_r h2⟩
theorem dr_e {I : CI} {W : WX} {e : Expr} {m : M D} (h : DE I W e m) : DR I W e (mR m) := let ⟨t, h1, h2⟩ := h; ⟨t, h1, .of_e h2⟩
end DL
end

section
namespace DL
open PySem PySem.Spec L2
open PyProof.Rows hiding St

/-! ### data as PyData -/
mutual
def D.py : D → PyData
  | .non => .none
  | .bl b => .bool b
  | .int i => .int i
  | .str x => .str x
  | .tup xs => .tuple (pys xs)
  | .lst xs => .list (pys xs)
  | .dct _ => .dict []
  | .obj _ _ => .dict []
def pys : List D → List PyData
  | [] => []
  | x :: xs => x.py :: pys xs
end
def lay (d : D) : Bool := d.py.canLay0
def okD (d : D) : Bool := SeqAt.shaped d.py
def deq (a b : D) : Option Bool := if okD a && okD b then some (PyData.eqv a.py b.py) else none
theorem pys_map : ∀ xs : List D, pys xs = xs.map D.py
  | [] => by simp [pys]
  | x :: xs => by simp [pys, pys_map xs]
section
variable {K : PySem.W.Frag} {mg : MG} {G H : Hp}
theorem canLayAll0_iff : ∀ xs : List PyData, PyData.canLayAll0 xs = true ↔ ∀ x ∈ xs, x.canLay0 = true
  | [] => by simp [PyData.canLayAll0]
  | x :: xs => by simp [PyData.canLayAll0, canLayAll0_iff xs]
theorem dpAll_of : ∀ {vs : List V} {l : List D}, vs.length = l.length → (∀ (i : Nat) v d, vs[i]? = some v → l[i]? = some d → Dp K H v d.py) → DpAll K H vs (pys l)
  | [], [], _, _ => by simp only [pys]; exact .nil
  | v :: vs, d :: l, hl, h => by
    simp only [pys]
    exact .cons (h 0 v d rfl rfl) (dpAll_of (by simpa using hl) fun i v' d' a b => h (i + 1) v' d' (by simpa using a) (by simpa using b))
  | [], _ :: _, h, _ => by simp at h
  | _ :: _, [], h, _ => by simp at h
theorem lay_item {xs : List D} (h : PyData.canLayAll0 (pys xs) = true) {i : Nat} {d : D} (e : xs[i]? = some d) : d.py.canLay0 = true := by
  rw [pys_map] at h
  exact (canLayAll0_iff _).mp h _ (List.mem_map.mpr ⟨d, List.mem_of_getElem? e, rfl⟩)
theorem Rep.dp (s : Same G H) : ∀ {v : V} {d : D}, Rep K mg G v d → d.py.canLay0 = true → Dp K H v d.py := by
  intro v d h
  induction h with
  | non => intro _; simp only [D.py]; exact .non
  | bl b => intro _; simp only [D.py]; exact .bl b
  | int i => intro _; simp only [D.py]; exact .int i
  | str x => intro _; simp only [D.py]; exact .str x
  | tup h1 h2 _ ih =>
    intro c
    simp only [D.py, PyData.canLay0] at c ⊢
    exact .tup (Same.seqT s h1) (dpAll_of h2 fun i v d a b => ih i v d a b (lay_item c b))
  | lst h1 h2 _ ih =>
    intro c
    simp only [D.py, PyData.canLay0] at c ⊢
    exact .lst (LsT.sq (Same.ls s h1)) (dpAll_of h2 fun i v d a b => ih i v d a b (lay_item c b))
  | dct _ _ _ _ _ => intro c; simp [D.py, PyData.canLay0] at c
  | obj _ _ _ _ _ _ _ => intro c; simp [D.py, PyData.canLay0] at c
theorem Reps.dpl (s : Same G H) {a : Addr} {vs : List V} {l : List D} (hs : SqL K H a vs) (r : Reps K mg G vs l) (c : (D.lst l).py.canLay0 = true) : Dp K H (.ref a) (D.lst l).py := by
  simp only [D.py, PyData.canLay0] at c ⊢
  exact .lst hs (dpAll_of r.1 fun i v d a b => (r.2 i v d a b).dp s (lay_item c b))
end

/-! ### names, constants -/
structure VarOk (N : List Str) (sc : Scope) (i : Nat) (x : Str) : Prop where
  hN : N[i]? = some x
  hv : Vis sc x
  hd : (x == ("__debug__" : Str)) = false
  hc : (x == ("__classdict__" : Str)) = false
def eVar (i : Nat) : M D := fun e => match e[i]? with
  | some (.sh d) => .ok d e
  | some (.ow x) => .ok x.d (e.set i (.sh x.d))
  | _ => .no
def eC (d : D) : M D := M.ret d
section
variable {I : CI} {W : WX} {x : Str} {pos : Pos}
theorem de_var {i : Nat} (h : VarOk I.N I.sc i x) : DE I W (.Name x pos) (eVar i) := by
  refine ⟨tVar i, fun X ok => pe_var (by rw [ok.hN]; exact h.hN) (by rw [ok.hsc]; exact h.hv) h.hd h.hc, fun p G σ H e Q S w => ?_⟩
  unfold eVar at w
  cases q : e[i]? with
  | none => rw [q] at w; exact w.elim
  | some s =>
    rw [q] at w
    cases s with
    | no => exact w.elim
    | io _ => exact w.elim
    | sh d =>
      obtain ⟨v, h1, h2⟩ := S.sh i d q
      exact ⟨v, h1, w G H (Same.refl _) S v h2⟩
    | ow x =>
      obtain ⟨a, G', h1, h2, h3, h4⟩ := S.freezeSlot q
      exact ⟨_, h1, w G' H h2 h3 _ h4⟩
theorem eC_sim {v : V} {d : D} (r : ∀ K mg G, Rep K mg G v d) : SimE I W (tC v) (eC d) := fun p G σ H e Q S w => w G H (Same.refl _) S v (r _ _ _)
theorem de_int {i : Int} {j} : DE I W (.Constant (.int i) j pos) (eC (.int i)) := ⟨_, fun _ _ => pe_int, eC_sim fun _ _ _ => .int i⟩
theorem de_bl {b : Bool} {j} : DE I W (.Constant (.bool b) j pos) (eC (.bl b)) := ⟨_, fun _ _ => pe_bl, eC_sim fun _ _ _ => .bl b⟩
theorem de_non {j} : DE I W (.Constant .none j pos) (eC .non) := ⟨_, fun _ _ => pe_non, eC_sim fun _ _ _ => .non⟩
theorem de_str {y : Str} {j} : DE I W (.Constant (.str y) j pos) (eC (.str y)) := ⟨_, fun _ _ => pe_str, eC_sim fun _ _ _ => .str y⟩
end

/-! ### two-place operations -/
def lift {α : Type} (o : Option α) : M α := match o with
  | some a => M.ret a
  | none => fun _ => .no
theorem lift_wp {α : Type} {K : PySem.W.Frag} {mg : MG} {W : WX} {p : Pm} {G : Hp} {σ : L2.St} {o : Option α} {e : En} {k : α → Hp → Hp → En → Prop} (h : Wp K mg W p G σ (lift o e) k) : ∃ a, o = some a ∧ ∀ G' H', Same G G' → Srp K mg p G' σ H' e → k a G' H' e := by
  cases o with
  | none => exact h.elim
  | some a => exact ⟨a, rfl, h⟩
/-- m tells what f does with data -/
def OpD (I : CI) (W : WX) (f : Value → Value → Sem Value) (m : D → D → Option Ret) : Prop :=
  ∃ r : R2, (∀ X, Okx I W X → OpR X f r) ∧ ∀ (p : Pm) G σ H e x y a b res (Q : VK), Srp I.K I.mg p G σ H e → Rep I.K I.mg G x a → Rep I.K I.mg G y b → m a b = some res →
    (∀ G' H', Same G G' → Srp I.K I.mg p G' σ H' e → RetK I.K I.mg p G' σ H' e Q res) → r x y H Q
def rBin (f : D → D → Option Ret) (ma mb : M D) : M Ret := M.bnd ma fun a => M.bnd mb fun b => lift (f a b)
section
variable {I : CI} {W : WX} {a b c : Expr} {ma mb mc : M D} {pos : Pos}
theorem bin_sim {r : R2} {ta tb : TE} {f : D → D → Option Ret}
    (hr : ∀ (p : Pm) G σ H e x y a b res (Q : VK), Srp I.K I.mg p G σ H e → Rep I.K I.mg G x a → Rep I.K I.mg G y b → f a b = some res → (∀ G' H', Same G G' → Srp I.K I.mg p G' σ H' e → RetK I.K I.mg p G' σ H' e Q res) → r x y H Q)
    (ha : SimE I W ta ma) (hb : SimE I W tb mb) : SimR I W (tOp r ta tb) (rBin f ma mb) := by
  intro p G σ H e Q S w
  refine ha p G σ H e _ S (Wp.mono (Wp.bnd w) fun da G1 H1 e1 s1 S1 w1 v1 r1 => ?_)
  refine hb p G1 σ H1 e1 _ S1 (Wp.mono (Wp.bnd w1) fun db G2 H2 e2 s2 S2 w2 v2 r2 => ?_)
  obtain ⟨res, hf, k⟩ := lift_wp w2
  exact hr p G2 σ H2 e2 v1 v2 da db res Q S2 (r1.mono s2) r2 hf k
theorem dr_bin {op : Operator} {f : D → D → Option Ret} (ho : OpD I W (binaryOp op) f) (ha : DE I W a ma) (hb : DE I W b mb) : DR I W (.BinOp a op b pos) (rBin f ma mb) := by
  obtain ⟨r, h1, h2⟩ := ho
  obtain ⟨ta, a1, a2⟩ := ha
  obtain ⟨tb, b1, b2⟩ := hb
  exact ⟨_, fun X ok => pe_op (h1 X ok) (a1 X ok) (b1 X ok), bin_sim h2 a2 b2⟩
/-- comparisons -/
theorem dr_cmp {op : CmpOp} {f : D → D → Option Ret} (ho : OpD I W (compareOp op) f) (ha : DE I W a ma) (hb : DE I W b mb) (hm : behindInMarks op b = false) : DR I W (.Compare a [op] [b] pos) (rBin f ma mb) := by
  obtain ⟨r, h1, h2⟩ := ho
  obtain ⟨ta, a1, a2⟩ := ha
  obtain ⟨tb, b1, b2⟩ := hb
  exact ⟨_, fun X ok => pe_cmpR (h1 X ok) (a1 X ok) (b1 X ok) hm, bin_sim h2 a2 b2⟩
def blOf : Ret → Option Bool
  | .sh (.bl b) => some b
  | _ => none
def tCmp (f : D → D → Option Ret) (ma mb : M D) : M Bool := M.bnd (rBin f ma mb) fun r => lift (blOf r)
/-- an expression of bools as a test -/
theorem test_sim {t : TE} {m : M Ret} (h : SimR I W t m) : SimT I W (tTest t) (M.bnd m fun r => lift (blOf r)) := by
  intro p G σ H e Q S w
  refine h p G σ H e _ S (Wp.mono (Wp.bnd w) fun r G1 H1 e1 s1 S1 w1 => ?_)
  obtain ⟨b, hb, k⟩ := lift_wp w1
  cases r with
  | ow x => cases hb
  | sh d =>
    cases d <;> first | cases hb | skip
    intro v rv
    cases rv
    exact ⟨b, rfl, k G1 H1 (Same.refl _) S1⟩
theorem dt_cmp {op : CmpOp} {f : D → D → Option Ret} (ho : OpD I W (compareOp op) f) (ha : DE I W a ma) (hb : DE I W b mb) (hm : behindInMarks op b = false) : DT I W (.Compare a [op] [b] pos) (tCmp f ma mb) := by
  obtain ⟨r, h1, h2⟩ := ho
  obtain ⟨ta, a1, a2⟩ := ha
  obtain ⟨tb, b1, b2⟩ := hb
  exact ⟨_, fun X ok => pt_cmpR (h1 X ok) (a1 X ok) (b1 X ok) hm, test_sim (bin_sim h2 a2 b2)⟩
/-- a < b < c -/
def rChain (f g : D → D → Option Ret) (ma mb mc : M D) : M Ret := M.bnd ma fun x => M.bnd mb fun y => M.bnd (lift ((f x y).bind blOf)) fun k => if k = true then M.bnd mc fun z => lift (g y z) else M.ret (.sh (.bl false))
theorem chain_sim {r r' : R2} {ta tb tc : TE} {f g : D → D → Option Ret}
    (hr : ∀ (p : Pm) G σ H e x y a b res (Q : VK), Srp I.K I.mg p G σ H e → Rep I.K I.mg G x a → Rep I.K I.mg G y b → f a b = some res → (∀ G' H', Same G G' → Srp I.K I.mg p G' σ H' e → RetK I.K I.mg p G' σ H' e Q res) → r x y H Q)
    (hr' : ∀ (p : Pm) G σ H e x y a b res (Q : VK), Srp I.K I.mg p G σ H e → Rep I.K I.mg G x a → Rep I.K I.mg G y b → g a b = some res → (∀ G' H', Same G G' → Srp I.K I.mg p G' σ H' e → RetK I.K I.mg p G' σ H' e Q res) → r' x y H Q)
    (ha : SimE I W ta ma) (hb : SimE I W tb mb) (hc : SimE I W tc mc) : SimR I W (tChain r r' ta tb tc) (rChain f g ma mb mc) := by
  intro p G σ H e Q S w
  refine ha p G σ H e _ S (Wp.mono (Wp.bnd w) fun da G1 H1 e1 s1 S1 w1 v1 r1 => ?_)
  refine hb p G1 σ H1 e1 _ S1 (Wp.mono (Wp.bnd w1) fun db G2 H2 e2 s2 S2 w2 v2 r2 => ?_)
  obtain ⟨k, hk, kk⟩ := lift_wp (Wp.bnd w2)
  cases hf : f da db with
  | none => rw [hf] at hk; cases hk
  | some res =>
    rw [hf] at hk
    have hk' : blOf res = some k := hk
    refine hr p G2 σ H2 e2 v1 v2 da db res _ S2 (r1.mono s2) r2 hf fun G3 H3 s3 S3 => ?_
    cases res with
    | ow x => cases hk'
    | sh d =>
      cases d <;> first | cases hk' | skip
      intro v rv
      cases rv
      have w3 := kk G3 H3 s3 S3
      refine ⟨k, rfl, ?_⟩
      cases k with
      | true =>
        rw [if_pos rfl] at w3 ⊢
        refine hc p G3 σ H3 e2 _ S3 (Wp.mono (Wp.bnd w3) fun dc G4 H4 e4 s4 S4 w4 v4 r4 => ?_)
        obtain ⟨res', hg, k'⟩ := lift_wp w4
        exact hr' p G4 σ H4 e4 v2 v4 db dc res' Q S4 ((r2.mono s3).mono s4) r4 hg k'
      | false =>
        rw [if_neg Bool.false_ne_true] at w3 ⊢
        exact w3 G3 H3 (Same.refl _) S3 _ (.bl false)
theorem dr_chain {op op' : CmpOp} {f g : D → D → Option Ret} (ho : OpD I W (compareOp op) f) (ho' : OpD I W (compareOp op') g) (ha : DE I W a ma) (hb : DE I W b mb) (hc : DE I W c mc) (hm : lastMarks [op, op'] [b, c] = false) :
    DR I W (.Compare a [op, op'] [b, c] pos) (rChain f g ma mb mc) := by
  obtain ⟨r, h1, h2⟩ := ho
  obtain ⟨r', h3, h4⟩ := ho'
  obtain ⟨ta, a1, a2⟩ := ha
  obtain ⟨tb, b1, b2⟩ := hb
  obtain ⟨tc, c1, c2⟩ := hc
  exact ⟨_, fun X ok => pe_chain (h1 X ok) (h3 X ok) (a1 X ok) (b1 X ok) (c1 X ok) hm, chain_sim h2 h4 a2 b2 c2⟩
theorem dt_chain {op op' : CmpOp} {f g : D → D → Option Ret} (ho : OpD I W (compareOp op) f) (ho' : OpD I W (compareOp op') g) (ha : DE I W a ma) (hb : DE I W b mb) (hc : DE I W c mc) (hm : lastMarks [op, op'] [b, c] = false) :
    DT I W (.Compare a [op, op'] [b, c] pos) (M.bnd (rChain f g ma mb mc) fun r => lift (blOf r)) := by
  obtain ⟨r, h1, h2⟩ := ho
  obtain ⟨r', h3, h4⟩ := ho'
  obtain ⟨ta, a1, a2⟩ := ha
  obtain ⟨tb, b1, b2⟩ := hb
  obtain ⟨tc, c1, c2⟩ := hc
  exact ⟨_, fun X ok => pt_chain (h1 X ok) (h3 X ok) (a1 X ok) (b1 X ok) (c1 X ok) hm, test_sim (chain_sim h2 h4 a2 b2 c2)⟩
end
end DL
end

section
namespace DL
open PySem PySem.Spec L2
open PyProof.Rows hiding St

/-! ### lists that may be known to their object -/
section
variable {X : Cx} {pins : List (Addr × Obj)} {σ : L2.St} {H : Hp} {s : Shared}
theorem rdL {l : Addr} {xs : List V} (J : Inv X pins σ H s) (h : LsT X.K H l xs) : xs.length ≤ sizeLine ∧ ∃ (us : List Value) (n : Nat), Vals xs us ∧ xs.length = us.length ∧ s.heap.get? l = some { cls := .type "list", data := .seq us.toArray n } := by
  rcases h with h | ⟨us, n, h1, h2, h3⟩
  · obtain ⟨z, us, n, r, e⟩ := h.ok J.hok
    exact ⟨z, us, n, r, r.length, e⟩
  · exact ⟨by rw [h3.length]; exact h2, us, n, h3, h3.length, J.kIn _ _ h1⟩
end
def rCat2 (K : PySem.W.Frag) : R2 := fun x y H Q => ∃ l b xs zs, x = .ref l ∧ y = .ref b ∧ LsT K H l xs ∧ LsT K H b zs ∧ xs.length + zs.length ≤ sizeLine ∧ ∀ q, H q = none → Q (.ref q) (upd H q (.lst (xs ++ zs)))
theorem op_cat2 {X : Cx} : OpR X (binaryOp .Add) (rCat2 X.K) := by
  intro pins s σ H x y v u Q J rx ry ⟨l, b, xs, zs, ex, ey, h1, h2, hz, q⟩
  subst ex; subst ey
  cases rx; cases ry
  obtain ⟨_, us, n, r, hl, e⟩ := rdL J h1
  obtain ⟨_, us2, n2, r2, hl2, e2⟩ := rdL J h2
  refine PySem.P.add_list e e2 ?_ (by simp only [List.size_toArray]; omega)
  rw [show us.toArray ++ us2.toArray = (us ++ us2).toArray by simp]
  exact ⟨.ref _, _, J.lnew (t' := s.toks) (r.append r2) (by simp only [List.length_append]; omega), rfl, q _ J.fresh⟩
def rRep2 (K : PySem.W.Frag) : R2 := fun x y H Q => ∃ l k xs, x = .ref l ∧ y = .int k ∧ LsT K H l xs ∧ -(2 ^ 63) ≤ k ∧ k < 2 ^ 63 ∧ xs.length * k.toNat ≤ sizeLine ∧ ∀ q, H q = none → Q (.ref q) (upd H q (.lst (List.replicate k.toNat xs).flatten))

/-! ### operations upon data -/
def LIM : Nat := 1000000
theorem lim_line : LIM ≤ sizeLine := by decide
theorem limS : LIM + LIM ≤ sizeLine := by decide
def fInt2 (C : Int → Int → Bool) (g : Int → Int → Int) : D → D → Option Ret
  | .int i, .int j => if C i j then some (.sh (.int (g i j))) else none
  | _, _ => none
def fInt0 (g : Int → Int → Int) : D → D → Option Ret
  | .int i, .int j => some (.sh (.int (g i j)))
  | _, _ => none
def fCmp (g : Int → Int → Bool) : D → D → Option Ret
  | .int i, .int j => some (.sh (.bl (g i j)))
  | _, _ => none
section
variable {I : CI} {W : WX} {f : Value → Value → Sem Value}
theorem opd_int {C : Int → Int → Prop} {Cb : Int → Int → Bool} {g : Int → Int → Int} (h : ∀ X, OpR X f (rI C fun i j => .int (g i j))) (hC : ∀ i j, Cb i j = true → C i j) : OpD I W f (fInt2 Cb g) := by
  refine ⟨_, fun X _ => h X, fun p G σ H e x y a b res Q S ra rb hf k => ?_⟩
  cases ra <;> cases rb <;> first | cases hf | skip
  rename_i i j
  unfold fInt2 at hf
  dsimp only at hf
  split at hf
  · rename_i c
    cases hf
    exact ⟨i, j, rfl, rfl, hC _ _ c, k G H (Same.refl _) S _ (.int _)⟩
  · cases hf
theorem opd_int0 {g : Int → Int → Int} (h : ∀ X, OpR X f (rI0 fun i j => .int (g i j))) : OpD I W f (fInt0 g) := by
  refine ⟨_, fun X _ => h X, fun p G σ H e x y a b res Q S ra rb hf k => ?_⟩
  cases ra <;> cases rb <;> first | cases hf | skip
  rename_i i j
  exact ⟨i, j, rfl, rfl, k G H (Same.refl _) S _ (.int _)⟩
theorem opd_cmp {g : Int → Int → Bool} (h : ∀ X, OpR X f (rI0 fun i j => .bl (g i j))) : OpD I W f (fCmp g) := by
  refine ⟨_, fun X _ => h X, fun p G σ H e x y a b res Q S ra rb hf k => ?_⟩
  cases ra <;> cases rb <;> first | cases hf | skip
  rename_i i j
  exact ⟨i, j, rfl, rfl, k G H (Same.refl _) S _ (.bl _)⟩
abbrev fSub := fInt0 fun i j => i - j
abbrev fAnd := fInt0 Builtin.bitAnd
abbrev fOr := fInt0 Builtin.bitOr
abbrev fXor := fInt0 Builtin.bitXor
abbrev fMod := fInt2 (fun _ j => decide (0 < j)) fun i j => i % j
abbrev fDiv := fInt2 (fun _ j => decide (0 < j) && decide (j < 1073741824)) fun i j => i / j
abbrev fPow := fInt2 (fun i j => decide (0 ≤ j) && decide (j ≤ 1000000) && decide (i.natAbs < 2 ^ 64)) fun i j => i ^ j.toNat
abbrev fShl := fInt2 (fun i j => decide (0 ≤ j) && decide (j ≤ 1000000) && decide (i.natAbs < 2 ^ 64)) fun i j => i * 2 ^ j.toNat
abbrev fShr := fInt2 (fun _ j => decide (0 ≤ j)) fun i j => i / 2 ^ j.toNat
abbrev fLt := fCmp fun i j => decide (i < j)
abbrev fLe := fCmp fun i j => decide (i ≤ j)
abbrev fGt := fCmp fun i j => decide (j < i)
abbrev fGe := fCmp fun i j => decide (j ≤ i)
theorem o_sub : OpD I W (binaryOp .Sub) fSub := opd_int0 fun _ => op_sub
theorem o_and : OpD I W (binaryOp .BitAnd) fAnd := opd_int0 fun _ => op_and
theorem o_or : OpD I W (binaryOp .BitOr) fOr := opd_int0 fun _ => op_or
theorem o_xor : OpD I W (binaryOp .BitXor) fXor := opd_int0 fun _ => op_xor
theorem o_mod : OpD I W (binaryOp .Mod) fMod := opd_int (fun _ => op_mod) fun i j c => of_decide_eq_true c
theorem o_div : OpD I W (binaryOp .FloorDiv) fDiv := opd_int (fun _ => op_fdiv) fun i j c => by
  simp only [Bool.and_eq_true, decide_eq_true_eq] at c
  exact c
theorem o_pow : OpD I W (binaryOp .Pow) fPow := opd_int (fun _ => op_pow) fun i j c => by
  simp only [Bool.and_eq_true, decide_eq_true_eq] at c
  exact ⟨c.1.1, c.1.2, c.2⟩
theorem o_shl : OpD I W (binaryOp .LShift) fShl := opd_int (fun _ => op_shl) fun i j c => by
  simp only [Bool.and_eq_true, decide_eq_true_eq] at c
  exact ⟨c.1.1, c.1.2, c.2⟩
theorem o_shr : OpD I W (binaryOp .RShift) fShr := opd_int (fun _ => op_shr) fun i j c => of_decide_eq_true c
theorem o_lt : OpD I W (compareOp .Lt) fLt := opd_cmp fun _ => op_lt
theorem o_le : OpD I W (compareOp .LtE) fLe := opd_cmp fun _ => op_le
theorem o_gt : OpD I W (compareOp .Gt) fGt := opd_cmp fun _ => op_gt
theorem o_ge : OpD I W (compareOp .GtE) fGe := opd_cmp fun _ => op_ge
/-- + -/
def fAdd : D → D → Option Ret
  | .int i, .int j => some (.sh (.int (i + j)))
  | .str x, .str y => if x.length + y.length ≤ LIM then some (.sh (.str (x ++ y))) else none
  | .tup l, .tup m => if l.length + m.length ≤ LIM then some (.sh (.tup (l ++ m))) else none
  | .lst l, .lst m => if l.length + m.length ≤ LIM then some (.ow (.l (l ++ m))) else none
  | _, _ => none
theorem o_add : OpD I W (binaryOp .Add) fAdd := by
  refine ⟨fun x y H Q => (rI0 fun i j => .int (i + j)) x y H Q ∨ (∃ i j, x = .str i ∧ y = .str j ∧ i.length + j.length ≤ sizeLine ∧ Q (.str (i ++ j)) H) ∨ rCatA I.K x y H Q ∨ rCat2 I.K x y H Q,
    fun X ok => op_add.or (op_add_str.or (OpR.or (by have := op_catA (X := X); rw [ok.hK] at this; exact this) (by have h0 := op_cat2 (X := X); rw [ok.hK] at h0; exact h0))), fun p G σ H e x y a b res Q S ra rb hf k => ?_⟩
  have ll := lim_line
  cases ra with
  | int i =>
    cases rb <;> first | cases hf | skip
    exact .inl ⟨i, _, rfl, rfl, k G H (Same.refl _) S _ (.int _)⟩
  | str i =>
    cases rb <;> first | cases hf | skip
    rename_i j
    unfold fAdd at hf
    dsimp only at hf
    split at hf
    · cases hf
      exact .inr (.inl ⟨i, j, rfl, rfl, by omega, k G H (Same.refl _) S _ (.str _)⟩)
    · cases hf
  | @tup a2 vs l h1 h2 h3 =>
    cases rb <;> first | cases hf | skip
    rename_i b2 ws m g1 g2 g3
    unfold fAdd at hf
    dsimp only at hf
    split at hf
    · rename_i hz
      cases hf
      refine .inr (.inr (.inl ⟨a2, b2, vs, ws, rfl, rfl, Same.seqT S.sub h1, Same.seqT S.sub g1, by omega, fun z => ?_, fun _ z => ?_, fun _ _ q n => ?_⟩))
      · subst z
        have : l = [] := by cases l with | nil => rfl | cons _ _ => simp at h2
        subst this
        exact k G H (Same.refl _) S _ (.tup g1 g2 g3)
      · subst z
        have : m = [] := by cases m with | nil => rfl | cons _ _ => simp at g2
        subst this
        refine k G H (Same.refl _) S _ ?_
        rw [List.append_nil]
        exact .tup h1 h2 h3
      · obtain ⟨s1, S1⟩ := S.laid (o := .tup (vs ++ ws)) n
        exact k _ _ s1 S1 _ (.mk_tup (.of upd_same) ((Reps.mono s1 ⟨h2, h3⟩).append (Reps.mono s1 ⟨g2, g3⟩)))
    · cases hf
  | @lst a2 vs l h1 h2 h3 =>
    cases rb <;> first | cases hf | skip
    rename_i b2 ws m g1 g2 g3
    unfold fAdd at hf
    dsimp only at hf
    split at hf
    · rename_i hz
      cases hf
      refine .inr (.inr (.inr ⟨a2, b2, vs, ws, rfl, rfl, Same.ls S.sub h1, Same.ls S.sub g1, by omega, fun q n => ?_⟩))
      obtain ⟨S1, gn, h0, hF, ap⟩ := S.laidOw (o := .lst (vs ++ ws)) n
      exact k _ _ (Same.refl _) S1 q gn ⟨_, upd_same, Reps.append ⟨h2, h3⟩ ⟨g2, g3⟩⟩ h0 hF ap
    · cases hf
  | non => cases hf
  | bl _ => cases hf
  | dct _ _ _ _ => cases hf
  | obj _ _ _ _ _ _ => cases hf
/-- ==, != -/
def fEq (a b : D) : Option Ret := (deq a b).map fun k => .sh (.bl k)
def fNe (a b : D) : Option Ret := (deq a b).map fun k => .sh (.bl (!k))
theorem canLay_ok {d : D} (h : okD d = true) : d.py.canLay0 = true := SeqAt.canLay_of_shaped h
theorem deq_ok {a b : D} {k : Bool} (h : deq a b = some k) : okD a = true ∧ okD b = true ∧ k = PyData.eqv a.py b.py := by
  unfold deq at h
  split at h
  · rename_i c
    simp only [Bool.and_eq_true] at c
    exact ⟨c.1, c.2, (Option.some.inj h).symm⟩
  · cases h
theorem o_eq : OpD I W (compareOp .Eq) fEq := by
  refine ⟨rEqD I.K, fun X ok => by have := op_eqD (X := X) ok.room.units; rw [ok.hK] at this; exact this, fun p G σ H e x y a b res Q S ra rb hf k => ?_⟩
  unfold fEq at hf
  cases hd : deq a b with
  | none => rw [hd] at hf; cases hf
  | some v =>
    rw [hd] at hf; cases hf
    obtain ⟨h1, h2, rfl⟩ := deq_ok hd
    exact ⟨_, _, ra.dp S.sub (canLay_ok h1), rb.dp S.sub (canLay_ok h2), h1, h2, k G H (Same.refl _) S _ (.bl _)⟩
theorem o_ne : OpD I W (compareOp .NotEq) fNe := by
  refine ⟨rNeD I.K, fun X ok => by have := op_neD (X := X) ok.room.units; rw [ok.hK] at this; exact this, fun p G σ H e x y a b res Q S ra rb hf k => ?_⟩
  unfold fNe at hf
  cases hd : deq a b with
  | none => rw [hd] at hf; cases hf
  | some v =>
    rw [hd] at hf; cases hf
    obtain ⟨h1, h2, rfl⟩ := deq_ok hd
    exact ⟨_, _, ra.dp S.sub (canLay_ok h1), rb.dp S.sub (canLay_ok h2), h1, h2, k G H (Same.refl _) S _ (.bl _)⟩
/-- is None, is not None; is of bools -/
def D.isNon : D → Bool
  | .non => true
  | _ => false
def fIs (a b : D) : Option Ret := match b with
  | .non => some (.sh (.bl a.isNon))
  | .bl k => (match a with | .bl j => some (.sh (.bl (j == k))) | _ => none)
  | _ => none
def fIsNot (a b : D) : Option Ret := match b with
  | .non => some (.sh (.bl (!a.isNon)))
  | .bl k => (match a with | .bl j => some (.sh (.bl (!(j == k)))) | _ => none)
  | _ => none
theorem rep_isNon {K : PySem.W.Frag} {mg : MG} {G : Hp} {v : V} {d : D} (h : Rep K mg G v d) : decide (v = .non) = d.isNon := by
  cases h <;> simp [D.isNon]
theorem o_is : OpD I W (compareOp .Is) fIs := by
  refine ⟨fun x y H Q => (y = .non ∧ Q (.bl (decide (x = .non))) H) ∨ rIsB x y H Q, fun X ok => op_isN.or op_isBl, fun p G σ H e x y a b res Q S ra rb hf k => ?_⟩
  cases rb <;> first | cases hf | skip
  · refine .inl ⟨rfl, ?_⟩
    rw [rep_isNon ra]
    exact k G H (Same.refl _) S _ (.bl _)
  · cases ra <;> first | cases hf | skip
    rename_i j2 j1
    refine .inr ⟨_, _, rfl, rfl, ?_⟩
    have := k G H (Same.refl _) S _ (.bl _)
    rw [Bool.beq_eq_decide_eq] at this
    exact this
theorem o_isnot : OpD I W (compareOp .IsNot) fIsNot := by
  refine ⟨fun x y H Q => (y = .non ∧ Q (.bl (!decide (x = .non))) H) ∨ rNotB x y H Q, fun X ok => op_notN.or op_notBl, fun p G σ H e x y a b res Q S ra rb hf k => ?_⟩
  cases rb <;> first | cases hf | skip
  · refine .inl ⟨rfl, ?_⟩
    rw [rep_isNon ra]
    exact k G H (Same.refl _) S _ (.bl _)
  · cases ra <;> first | cases hf | skip
    rename_i j2 j1
    refine .inr ⟨_, _, rfl, rfl, ?_⟩
    have := k G H (Same.refl _) S _ (.bl _)
    rw [Bool.beq_eq_decide_eq] at this
    exact this
end
end DL
end

section
namespace DL
open PySem PySem.Spec L2
open PyProof.Rows hiding St

/-! ### plain arguments -/
def nst : Expr → Bool
  | .Starred _ _ => false
  | _ => true
theorem star_of {a : Expr} (h : nst a = true) (es : List Expr) (env : Env) : starEach (a :: es) env = (false, eval a env) :: starEach es env := by
  cases a <;> first | rfl | cases h
theorem no_star : ∀ {es : List Expr}, es.all nst = true → ∀ env : Env, (starEach es env).any (·.1) = false
  | [], _, _ => rfl
  | a :: es, h, env => by
    simp only [List.all_cons, Bool.and_eq_true] at h
    rw [star_of h.1, List.any_cons, no_star h.2 env]
    rfl
theorem no_back (pos : Pos) (l : List (Bool × Sem Value)) : (backTo pos l).any (·.1) = l.any (·.1) := by
  unfold backTo
  rw [List.any_map]
  rfl
/-- an argument: a value, or the thing that a name owns -/
inductive Ar where | d (x : D) | at (i : Nat)
def eAt (i : Nat) : M Ar := fun e => match e[i]? with
  | some (.ow _) => .ok (.at i) e
  | some (.io _) => .ok (.at i) e
  | _ => .no
def ArOk (K : PySem.W.Frag) (mg : MG) (G : Hp) (σ : L2.St) (v : V) : Ar → Prop
  | .d x => Rep K mg G v x
  | .at i => σ[i]? = some (some v)
def ArsOk (K : PySem.W.Frag) (mg : MG) (G : Hp) (σ : L2.St) (vs : List V) (as : List Ar) : Prop := vs.length = as.length ∧ ∀ (j : Nat) v a, vs[j]? = some v → as[j]? = some a → ArOk K mg G σ v a
theorem ArOk.mono {K : PySem.W.Frag} {mg : MG} {G G' : Hp} {σ : L2.St} {v : V} {a : Ar} (h : ArOk K mg G σ v a) (s : Same G G') : ArOk K mg G' σ v a := by
  cases a with
  | d x => exact Rep.mono s h
  | «at» i => exact h
def SimP (I : CI) (W : WX) (t : TA) (m : M (List Ar)) : Prop := ∀ (p : Pm) G σ H e (Q : List V → Hp → Prop), Srp I.K I.mg p G σ H e → Wp I.K I.mg W p G σ (m e) (fun as G' H' _ => ∀ vs, ArsOk I.K I.mg G' σ vs as → Q vs H') → t σ H Q
def DP (I : CI) (W : WX) (es : List Expr) (m : M (List Ar)) : Prop := es.all nst = true ∧ ∃ t, (∀ X, Okx I W X → PA X es t) ∧ SimP I W t m
def aNil : M (List Ar) := M.ret []
def aCons (ma : M Ar) (mr : M (List Ar)) : M (List Ar) := M.bnd ma fun a => M.bnd mr fun r => M.ret (a :: r)
def aD (m : M D) : M Ar := M.bnd m fun d => M.ret (.d d)
def SimO (I : CI) (W : WX) (t : TE) (m : M Ar) : Prop := ∀ (p : Pm) G σ H e (Q : VK), Srp I.K I.mg p G σ H e → Wp I.K I.mg W p G σ (m e) (fun a G' H' _ => ∀ v, ArOk I.K I.mg G' σ v a → Q v H') → t σ H Q
def DO (I : CI) (W : WX) (a : Expr) (m : M Ar) : Prop := nst a = true ∧ ∃ t, (∀ X, Okx I W X → PE X a t) ∧ SimO I W t m
section
variable {I : CI} {W : WX} {a : Expr} {es : List Expr} {pos : Pos} {x : Str}
theorem do_e {m : M D} (h : DE I W a m) (n : nst a = true) : DO I W a (aD m) := by
  obtain ⟨t, h1, h2⟩ := h
  exact ⟨n, t, h1, fun p G σ H e Q S w => h2 p G σ H e Q S (Wp.mono (Wp.bnd w) fun d G' H' e' s S' q => fun v r => q G' H' (Same.refl _) S' v r)⟩
theorem do_at {i : Nat} (h : VarOk I.N I.sc i x) : DO I W (.Name x pos) (eAt i) := by
  refine ⟨rfl, tVar i, fun X ok => pe_var (by rw [ok.hN]; exact h.hN) (by rw [ok.hsc]; exact h.hv) h.hd h.hc, fun p G σ H e Q S w => ?_⟩
  unfold eAt at w
  have fin : ∀ s y, e[i]? = some s → s.own = some y → (∀ v, σ[i]? = some (some v) → Q v H) → tVar i σ H Q := fun s y q1 q2 k => by
    obtain ⟨a, h1, _⟩ := S.ow i s y q1 q2
    exact ⟨_, h1, k _ h1⟩
  cases q : e[i]? with
  | none => rw [q] at w; exact w.elim
  | some s =>
    rw [q] at w
    cases s with
    | no => exact w.elim
    | sh _ => exact w.elim
    | ow y => exact fin _ y q rfl fun v hv => w G H (Same.refl _) S v hv
    | io y => exact fin _ y q rfl fun v hv => w G H (Same.refl _) S v hv
theorem dp_nil : DP I W [] aNil := ⟨rfl, tNil, fun _ _ => pa_nil, fun p G σ H e Q S w => w G H (Same.refl _) S [] ⟨rfl, fun _ _ _ h => by simp at h⟩⟩
theorem dp_cons {ma : M Ar} {mr : M (List Ar)} (ha : DO I W a ma) (hr : DP I W es mr) : DP I W (a :: es) (aCons ma mr) := by
  obtain ⟨n, t, h1, h2⟩ := ha
  obtain ⟨n', u, h3, h4⟩ := hr
  refine ⟨by simp [n, n'], tCons t u, fun X ok => pa_cons (h1 X ok) (h3 X ok) (star_of n _ _), fun p G σ H e Q S w => ?_⟩
  refine h2 p G σ H e _ S (Wp.mono (Wp.bnd w) fun d G1 H1 e1 s1 S1 w1 v r => ?_)
  refine h4 p G1 σ H1 e1 _ S1 (Wp.mono (Wp.bnd w1) fun as G2 H2 e2 s2 S2 w2 vs rs => ?_)
  refine w2 G2 H2 (Same.refl _) S2 (v :: vs) ⟨by simp [rs.1], fun j v' a' q1 q2 => ?_⟩
  cases j with
  | zero => simp at q1 q2; subst q1 q2; exact r.mono s2
  | succ j => exact rs.2 j v' a' (by simpa using q1) (by simpa using q2)
end
/-- plain lists of values -/
def dVals : List Ar → Option (List D)
  | [] => some []
  | .d x :: as => (dVals as).map (x :: ·)
  | .at _ :: _ => none
def aVals (m : M (List Ar)) : M (List D) := M.bnd m fun as => lift (dVals as)
theorem mapM_d : ∀ {as : List Ar} {ds : List D}, dVals as = some ds → as.length = ds.length ∧ ∀ (j : Nat) a d, as[j]? = some a → ds[j]? = some d → a = .d d
  | [], ds, h => by cases h; exact ⟨rfl, fun _ _ _ h => by simp at h⟩
  | .at _ :: as, ds, h => by cases h
  | .d x :: as, ds, h => by
    unfold dVals at h
    cases q : dVals as with
    | none => rw [q] at h; cases h
    | some r =>
      rw [q] at h
      have h' : ds = x :: r := (Option.some.inj h).symm
      subst h'
      obtain ⟨l, f⟩ := mapM_d q
      refine ⟨by simp [l], fun j a d e1 e2 => ?_⟩
      cases j with
      | zero => simp at e1 e2; subst e1 e2; rfl
      | succ j => exact f j a d (by simpa using e1) (by simpa using e2)
theorem simA_of {I : CI} {W : WX} {t : TA} {m : M (List Ar)} (h : SimP I W t m) : SimA I W t (aVals m) := by
  intro p G σ H e Q S w
  refine h p G σ H e Q S (Wp.mono (Wp.bnd w) fun as G1 H1 e1 s1 S1 w1 vs rs => ?_)
  obtain ⟨ds, hd, k⟩ := lift_wp w1
  obtain ⟨hl, hf⟩ := mapM_d hd
  refine k G1 H1 (Same.refl _) S1 vs ⟨rs.1.trans hl, fun j v d q1 q2 => ?_⟩
  have hj : j < as.length := by
    rw [hl]
    exact (List.getElem?_eq_some_iff.mp q2).1
  have e3 := List.getElem?_eq_getElem hj
  have := hf j _ d e3 q2
  have r := rs.2 j v _ q1 e3
  rw [this] at r
  exact r

/-! ### the promise of a def -/
def PreF (K : PySem.W.Frag) (mg : MG) (ia : Nat → Addr) (G H : Hp) (vs : List V) (args : List Sl) : Prop :=
  Same G H ∧ vs.length = args.length ∧ (∀ (j : Nat) d, args[j]? = some (.sh d) → ∃ v, vs[j]? = some v ∧ Rep K mg G v d) ∧
    (∀ (j : Nat) x, args[j]? = some (.io x) → vs[j]? = some (.ref (ia j)) ∧ G (ia j) = none ∧ CtR K mg G H (ia j) x) ∧
    (∀ (j k : Nat) x y, args[j]? = some (.io x) → args[k]? = some (.io y) → ia j = ia k → j = k) ∧ ∀ (j : Nat) x, args[j]? ≠ some (.ow x)
def IoA (args : List Sl) (j : Nat) : Prop := ∃ x, args[j]? = some (.io x)
structure PostF (K : PySem.W.Frag) (mg : MG) (ia : Nat → Addr) (args : List Sl) (G H G' H' : Hp) (outs : List Sl) : Prop where
  s : Same G G'
  sub : Same G' H'
  fr : ∀ a o, H a = some o → (∀ i, IoA args i → ia i ≠ a) → H' a = some o
  nw : ∀ a o, G' a = some o → G a = some o ∨ H a = none
  dm : ∀ a, H' a = none → H a = none
  io : ∀ (j : Nat) x, outs[j]? = some (.io x) → (∃ y, args[j]? = some (.io y)) ∧ G' (ia j) = none ∧ CtR K mg G' H' (ia j) x
def RetF (K : PySem.W.Frag) (mg : MG) (ia : Nat → Addr) (H G' H' : Hp) (outs : List Sl) (Q : VK) : Ret → Prop
  | .sh d => ∀ v, Rep K mg G' v d → Q v H'
  | .ow x => ∀ a : Addr, G' a = none → CtR K mg G' H' a x → H a = none → (∀ (j : Nat) y, outs[j]? = some (.io y) → ia j ≠ a) → Q (.ref a) H'
def spF (K : PySem.W.Frag) (mg : MG) (sem : FS) : Sp := fun vs H Q E => ∃ ia G args, PreF K mg ia G H vs args ∧ match sem args with
  | .ok r outs => ∀ G' H', PostF K mg ia args G H G' H' outs → RetF K mg ia H G' H' outs Q r
  | .ex c fs outs => ∀ G' H' C d, PostF K mg ia args G H G' H' outs → mg (Str.ofString c) = some (.ref C) → Xr K mg G' H' d fs → E (.ref C) (some d) H'
  | .no => False
def endF (n : Nat) : R Fl → R Ret
  | .ok (.rt r) e => .ok r (e.take n)
  | .ok .nx e => .ok (.sh .non) (e.take n)
  | .ok _ _ => .no
  | .ex c fs e => .ex c fs (e.take n)
  | .no => .no
/-- a def's meaning: m its body's, n the number of its names, k that of its parameters -/
def sFun (n k : Nat) (m : M Fl) : FS := fun args => if args.length = k then endF k (m (args ++ List.replicate (n - k) .no)) else .no

theorem getApp {α : Type} {l m : List α} {j : Nat} {x : α} (h : (l ++ m)[j]? = some x) : l[j]? = some x ∨ (l.length ≤ j ∧ x ∈ m) := by
  by_cases hj : j < l.length
  · rw [List.getElem?_append_left hj] at h
    exact .inl h
  · rw [List.getElem?_append_right (by omega)] at h
    exact .inr ⟨by omega, List.mem_of_getElem? h⟩
theorem getAppL {α : Type} {l m : List α} {j : Nat} {x : α} (h : l[j]? = some x) : (l ++ m)[j]? = some x := by
  obtain ⟨q, _⟩ := List.getElem?_eq_some_iff.mp h
  rw [List.getElem?_append_left q]; exact h
section
variable {K : PySem.W.Frag} {mg : MG} {ia : Nat → Addr} {G H G' H' : Hp} {vs : List V} {args : List Sl}
/-- the state at a def's entry -/
theorem sr_start {N : List Str} (h : PreF K mg ia G H vs args) (hn : vs.length ≤ N.length) : Srp K mg ⟨ia, G, H, IoA args, fun _ => none⟩ G (L2.start N vs) H (args ++ List.replicate (N.length - args.length) .no) := by
  obtain ⟨h1, h2, h3, h4, h5, h6⟩ := h
  have at_ : ∀ {i : Nat} {s : Sl}, (args ++ List.replicate (N.length - args.length) Sl.no)[i]? = some s → s ≠ .no → args[i]? = some s := fun {i s} q ns => by
    rcases getApp q with z | ⟨_, z⟩
    · exact z
    · exact absurd (List.eq_of_mem_replicate z) ns
  have own_ : ∀ {s : Sl} {y : Ct}, s.own = some y → s ≠ .no := fun {s y} q z => by subst z; cases q
  have st : ∀ {i : Nat} {v : V}, vs[i]? = some v → (L2.start N vs)[i]? = some (some v) := fun {i v} q => by
    unfold L2.start
    exact getAppL (by rw [List.getElem?_map, q]; rfl)
  have io_ : ∀ {i : Nat} {s : Sl} {y : Ct}, args[i]? = some s → s.own = some y → s = .io y := fun {i s y} q1 q2 => by
    cases s with
    | no => cases q2
    | sh _ => cases q2
    | ow z => exact absurd q1 (h6 i z)
    | io z => cases q2; rfl
  refine ⟨h1, ?_, ?_, ?_, ?_, ?_, fun a o q _ => q, fun a o q => .inl q, ?_, fun a q => q, fun _ _ q => (nomatch q), fun _ _ _ _ _ _ _ => rfl⟩
  · unfold L2.start
    simp only [List.length_append, List.length_map, List.length_replicate]
    omega
  · intro i d q
    obtain ⟨v, e1, e2⟩ := h3 i d (at_ q (fun z => nomatch z))
    exact ⟨v, st e1, e2⟩
  · intro i s y q1 q2
    have q1 := at_ q1 (own_ q2)
    have := io_ q1 q2
    subst this
    obtain ⟨e1, e2, e3⟩ := h4 i y q1
    exact ⟨ia i, st e1, e2, e3⟩
  · intro i y q
    have q := at_ q (fun z => nomatch z)
    obtain ⟨e1, _, _⟩ := h4 i y q
    exact ⟨st e1, y, q⟩
  · intro i j s t y z a q1 q2 q3 q4 q5 q6
    have q1 := at_ q1 (own_ q3)
    have q2 := at_ q2 (own_ q4)
    have := io_ q1 q3; subst this
    have := io_ q2 q4; subst this
    have e1 := st (h4 i y q1).1
    have e2 := st (h4 j z q2).1
    rw [e1] at q5; rw [e2] at q6
    cases q5
    injection q6 with q6; injection q6 with q6; injection q6 with q6
    exact h5 i j y z q1 q2 q6.symm
  · intro i y a q1 _
    exact absurd (at_ q1 (fun z => nomatch z)) (h6 i y)
theorem take_get {α : Type} {l : List α} {n i : Nat} {x : α} (h : (l.take n)[i]? = some x) : l[i]? = some x ∧ i < n := by
  rw [List.getElem?_take] at h
  split at h
  · exact ⟨h, by assumption⟩
  · cases h
/-- the end of a def -/
theorem post_of {σ : L2.St} {e : En} (S : Srp K mg ⟨ia, G, H, IoA args, fun _ => none⟩ G' σ H' e) (s : Same G G') : PostF K mg ia args G H G' H' (e.take args.length) := by
  refine ⟨s, S.sub, S.fr, S.nw, S.dm, fun j x q => ?_⟩
  obtain ⟨q1, q2⟩ := take_get q
  obtain ⟨e1, e2⟩ := S.io j x q1
  obtain ⟨a, f1, f2, f3⟩ := S.ow j _ x q1 rfl
  rw [e1] at f1; cases f1
  exact ⟨e2, f2, f3⟩
end
end DL
end

section
namespace DL
open PySem PySem.Spec L2
open PyProof.Rows hiding St

/-! ### a call's meaning -/
def slOf (e : En) : Ar → Option Sl
  | .d x => some (.sh x)
  | .at i => match e[i]? with
    | some s => s.own.map .io
    | none => none
def argsOf (e : En) : List Ar → Option (List Sl)
  | [] => some []
  | a :: as => match slOf e a, argsOf e as with
    | some s, some r => some (s :: r)
    | _, _ => none
def ixs : List Ar → List Nat
  | [] => []
  | .at i :: as => i :: ixs as
  | .d _ :: as => ixs as
def putBack : List Ar → List Sl → En → En
  | [], _, e => e
  | .d _ :: as, o, e => putBack as (o.drop 1) e
  | .at i :: as, .io x :: o, e => putBack as o (e.set i ((e.getD i .no).put x))
  | .at i :: as, o, e => putBack as (o.drop 1) (e.set i .no)
def callS (sem : FS) (as : List Ar) : M Ret := fun e => match argsOf e as with
  | none => .no
  | some args => if (ixs as).Nodup then (match sem args with
      | .ok r o => .ok r (putBack as o e)
      | .ex c fs o => .ex c fs (putBack as o e)
      | .no => .no) else .no
def rCall (sem : FS) (ma : M (List Ar)) : M Ret := M.bnd ma (callS sem)

theorem argsOf_get {e : En} : ∀ {as : List Ar} {args : List Sl}, argsOf e as = some args → as.length = args.length ∧ ∀ (j : Nat) a, as[j]? = some a → ∃ s, args[j]? = some s ∧ slOf e a = some s
  | [], args, h => by cases h; exact ⟨rfl, fun _ _ h => by simp at h⟩
  | a :: as, args, h => by
    unfold argsOf at h
    cases h1 : slOf e a with
    | none => rw [h1] at h; cases h
    | some s =>
      cases h2 : argsOf e as with
      | none => rw [h1, h2] at h; cases h
      | some r =>
        rw [h1, h2] at h
        cases h
        obtain ⟨l, f⟩ := argsOf_get h2
        refine ⟨by simp [l], fun j a' q => ?_⟩
        cases j with
        | zero => simp at q; subst q; exact ⟨s, rfl, h1⟩
        | succ j => exact f j a' (by simpa using q)
theorem mem_ixs {i : Nat} : ∀ {as : List Ar} {j : Nat}, as[j]? = some (.at i) → i ∈ ixs as
  | [], _, h => by simp at h
  | a :: as, 0, h => by simp at h; subst h; simp [ixs]
  | .at k :: as, j + 1, h => by simp [ixs]; exact .inr (mem_ixs (j := j) (by simpa using h))
  | .d _ :: as, j + 1, h => by simp [ixs]; exact mem_ixs (j := j) (by simpa using h)
theorem of_ixs {i : Nat} : ∀ {as : List Ar}, i ∈ ixs as → ∃ j : Nat, as[j]? = some (Ar.at i)
  | [], h => by simp [ixs] at h
  | .d _ :: as, h => by
    obtain ⟨j, hj⟩ := of_ixs (as := as) (by simpa [ixs] using h)
    exact ⟨j + 1, by simpa using hj⟩
  | .at k :: as, h => by
    by_cases hk : i = k
    · subst hk; exact ⟨0, rfl⟩
    · simp only [ixs, List.mem_cons] at h
      obtain ⟨j, hj⟩ := of_ixs (h.resolve_left hk)
      exact ⟨j + 1, by simpa using hj⟩
theorem ixs_inj : ∀ {as : List Ar} {i j k : Nat}, (ixs as).Nodup → as[j]? = some (.at i) → as[k]? = some (.at i) → j = k
  | [], _, _, _, _, h, _ => by simp at h
  | a :: as, i, 0, 0, _, _, _ => rfl
  | a :: as, i, 0, k + 1, n, h, h2 => by
    simp at h; subst h
    simp only [ixs, List.nodup_cons] at n
    exact absurd (mem_ixs (j := k) (by simpa using h2)) n.1
  | a :: as, i, j + 1, 0, n, h, h2 => by
    simp at h2; subst h2
    simp only [ixs, List.nodup_cons] at n
    exact absurd (mem_ixs (j := j) (by simpa using h)) n.1
  | .at m :: as, i, j + 1, k + 1, n, h, h2 => by
    simp only [ixs, List.nodup_cons] at n
    exact congrArg (· + 1) (ixs_inj (as := as) (i := i) (j := j) (k := k) n.2 (by simpa using h) (by simpa using h2))
  | .d _ :: as, i, j + 1, k + 1, n, h, h2 => by
    exact congrArg (· + 1) (ixs_inj (as := as) (i := i) (j := j) (k := k) n (by simpa using h) (by simpa using h2))
theorem putBack_len : ∀ (as : List Ar) (o : List Sl) (e : En), (putBack as o e).length = e.length
  | [], _, _ => by simp [putBack]
  | .d _ :: as, o, e => by simp only [putBack]; exact putBack_len as _ e
  | .at i :: as, [], e => by simp only [putBack]; rw [putBack_len]; simp
  | .at i :: as, .io x :: o, e => by simp only [putBack]; rw [putBack_len]; simp
  | .at i :: as, .no :: o, e => by simp only [putBack]; rw [putBack_len]; simp
  | .at i :: as, .sh _ :: o, e => by simp only [putBack]; rw [putBack_len]; simp
  | .at i :: as, .ow _ :: o, e => by simp only [putBack]; rw [putBack_len]; simp
theorem putBack_out : ∀ {as : List Ar} {o : List Sl} {e : En} {k : Nat}, k ∉ ixs as → (putBack as o e)[k]? = e[k]?
  | [], _, _, _, _ => by simp [putBack]
  | .d _ :: as, o, e, k, h => by simp only [putBack]; exact putBack_out (as := as) h
  | .at i :: as, o, e, k, h => by
    simp only [ixs, List.mem_cons, not_or] at h
    have ne : i ≠ k := fun z => h.1 z.symm
    cases o with
    | nil => simp only [putBack]; rw [putBack_out h.2, List.getElem?_set_ne ne]
    | cons s o => cases s <;> (simp only [putBack]; rw [putBack_out h.2, List.getElem?_set_ne ne])
/-- a slot that was handed over -/
theorem putBack_at : ∀ {as : List Ar} {o : List Sl} {e : En} {j i : Nat} {s : Sl}, (ixs as).Nodup → as[j]? = some (.at i) → e[i]? = some s →
    (∃ x, o[j]? = some (.io x) ∧ (putBack as o e)[i]? = some (s.put x)) ∨ (putBack as o e)[i]? = some .no
  | [], _, _, _, _, _, _, h, _ => by simp at h
  | .d _ :: as, o, e, 0, i, s, n, h, hs => by simp at h
  | .d _ :: as, o, e, j + 1, i, s, n, h, hs => by
    simp only [putBack]
    rcases putBack_at (as := as) (o := o.drop 1) (j := j) n (by simpa using h) hs with ⟨x, h1, h2⟩ | h1
    · refine .inl ⟨x, ?_, h2⟩
      rw [List.getElem?_drop] at h1
      rw [Nat.add_comm]; exact h1
    · exact .inr h1
  | .at k :: as, o, e, 0, i, s, n, h, hs => by
    simp at h; subst h
    simp only [ixs, List.nodup_cons] at n
    obtain ⟨hi, _⟩ := List.getElem?_eq_some_iff.mp hs
    have fin : ∀ t (o' : List Sl), (putBack as o' (e.set k t))[k]? = some t := fun t o' => by
      rw [putBack_out n.1, List.getElem?_set_self hi]
    have gd : e.getD k .no = s := by rw [List.getD_eq_getElem?_getD, hs]; rfl
    cases o with
    | nil => exact .inr (by simp only [putBack]; exact fin _ _)
    | cons t o =>
      cases t with
      | io x => exact .inl ⟨x, rfl, by simp only [putBack]; rw [fin, gd]⟩
      | no => exact .inr (by simp only [putBack]; exact fin _ _)
      | sh _ => exact .inr (by simp only [putBack]; exact fin _ _)
      | ow _ => exact .inr (by simp only [putBack]; exact fin _ _)
  | .at k :: as, o, e, j + 1, i, s, n, h, hs => by
    simp only [ixs, List.nodup_cons] at n
    have hi := mem_ixs (as := as) (j := j) (by simpa using h)
    have ne : k ≠ i := fun z => n.1 (z ▸ hi)
    have keep : ∀ t, (e.set k t)[i]? = some s := fun t => by rw [List.getElem?_set_ne ne]; exact hs
    have go : ∀ (o' : List Sl) t, o' = o.drop 1 → (∃ x, o[j + 1]? = some (.io x) ∧ (putBack as o' (e.set k t))[i]? = some (s.put x)) ∨ (putBack as o' (e.set k t))[i]? = some .no := fun o' t eo => by
      rcases putBack_at (as := as) (o := o') (j := j) n.2 (by simpa using h) (keep t) with ⟨x, h1, h2⟩ | h1
      · refine .inl ⟨x, ?_, h2⟩
        rw [eo, List.getElem?_drop] at h1
        rw [Nat.add_comm]; exact h1
      · exact .inr h1
    cases o with
    | nil => simp only [putBack]; exact go _ _ rfl
    | cons t o => cases t <;> (simp only [putBack]; exact go _ _ rfl)
section
variable {K : PySem.W.Frag} {mg : MG} {p : Pm} {G H G' H' : Hp} {σ : L2.St} {e : En} {vs : List V} {as : List Ar} {args : List Sl}
def iaOf (vs : List V) (j : Nat) : Addr := match vs[j]? with
  | some (.ref a) => a
  | _ => 0
theorem slOf_io {a : Ar} {x : Ct} (h : slOf e a = some (.io x)) : ∃ i s, a = .at i ∧ e[i]? = some s ∧ s.own = some x := by
  cases a with
  | d y => cases h
  | «at» i =>
    unfold slOf at h
    dsimp only at h
    cases q : e[i]? with
    | none => rw [q] at h; cases h
    | some s =>
      rw [q] at h
      dsimp only at h
      cases q2 : s.own with
      | none => rw [q2] at h; cases h
      | some y => rw [q2] at h; cases h; exact ⟨i, s, rfl, q, q2⟩
theorem slOf_sh {a : Ar} {d : D} (h : slOf e a = some (.sh d)) : a = .d d := by
  cases a with
  | d y => cases h; rfl
  | «at» i =>
    unfold slOf at h
    dsimp only at h
    cases q : e[i]? with
    | none => rw [q] at h; cases h
    | some s =>
      rw [q] at h
      dsimp only at h
      cases q2 : s.own with
      | none => rw [q2] at h; cases h
      | some y => rw [q2] at h; cases h
theorem slOf_ow {a : Ar} {x : Ct} (h : slOf e a = some (.ow x)) : False := by
  cases a with
  | d y => cases h
  | «at» i =>
    unfold slOf at h
    dsimp only at h
    cases q : e[i]? with
    | none => rw [q] at h; cases h
    | some s =>
      rw [q] at h
      dsimp only at h
      cases q2 : s.own with
      | none => rw [q2] at h; cases h
      | some y => rw [q2] at h; cases h
theorem args_at (ha : argsOf e as = some args) {j : Nat} {s : Sl} (h : args[j]? = some s) : ∃ a, as[j]? = some a ∧ slOf e a = some s := by
  obtain ⟨l, f⟩ := argsOf_get ha
  obtain ⟨hj, _⟩ := List.getElem?_eq_some_iff.mp h
  have hj' : j < as.length := by rw [l]; exact hj
  obtain ⟨s', h1, h2⟩ := f j _ (List.getElem?_eq_getElem hj')
  rw [h] at h1; cases h1
  exact ⟨_, List.getElem?_eq_getElem hj', h2⟩
/-- what the callee is handed -/
theorem pre_call (S : Srp K mg p G σ H e) (r : ArsOk K mg G σ vs as) (ha : argsOf e as = some args) (nd : (ixs as).Nodup) : PreF K mg (iaOf vs) G H vs args := by
  obtain ⟨l, f⟩ := argsOf_get ha
  have vAt : ∀ {j : Nat} {a : Ar}, as[j]? = some a → ∃ v, vs[j]? = some v ∧ ArOk K mg G σ v a := fun {j a} q => by
    obtain ⟨hj, _⟩ := List.getElem?_eq_some_iff.mp q
    have hv : j < vs.length := by rw [r.1]; exact hj
    exact ⟨vs[j], List.getElem?_eq_getElem hv, r.2 j _ a (List.getElem?_eq_getElem hv) q⟩
  have io : ∀ {j : Nat} {x : Ct}, args[j]? = some (.io x) → ∃ i s, as[j]? = some (.at i) ∧ e[i]? = some s ∧ s.own = some x ∧ σ[i]? = some (some (.ref (iaOf vs j))) ∧ vs[j]? = some (.ref (iaOf vs j)) := fun {j x} q => by
    obtain ⟨a, h1, h2⟩ := args_at ha q
    obtain ⟨i, s, rfl, h3, h4⟩ := slOf_io h2
    obtain ⟨v, h5, h6⟩ := vAt h1
    obtain ⟨b, h7, _⟩ := S.ow i s x h3 h4
    have h6' : σ[i]? = some (some v) := h6
    rw [h6'] at h7
    cases h7
    have ei : iaOf vs j = b := by unfold iaOf; rw [h5]
    exact ⟨i, s, h1, h3, h4, by rw [ei]; exact h6', by rw [ei]; exact h5⟩
  refine ⟨S.sub, r.1.trans l, fun j d q => ?_, fun j x q => ?_, fun j k x y q1 q2 q3 => ?_, fun j x q => ?_⟩
  · obtain ⟨a, h1, h2⟩ := args_at ha q
    have := slOf_sh h2
    subst this
    exact vAt h1
  · obtain ⟨i, s, h1, h2, h3, h4, h5⟩ := io q
    obtain ⟨b, h6, h7, h8⟩ := S.ow i s x h2 h3
    rw [h4] at h6; cases h6
    exact ⟨h5, h7, h8⟩
  · obtain ⟨i, s, h1, h2, h3, h4, _⟩ := io q1
    obtain ⟨i', s', g1, g2, g3, g4, _⟩ := io q2
    rw [← q3] at g4
    have := S.ap i i' s s' x y _ h2 g2 h3 g3 h4 g4
    subst this
    exact ixs_inj nd h1 g1
  · obtain ⟨a, _, h2⟩ := args_at ha q
    exact slOf_ow h2
/-- behind the call -/
theorem post_call (S : Srp K mg p G σ H e) (r : ArsOk K mg G σ vs as) (ha : argsOf e as = some args) (nd : (ixs as).Nodup) {o : List Sl} (P : PostF K mg (iaOf vs) args G H G' H' o) : Srp K mg p G' σ H' (putBack as o e) := by
  have pre := pre_call S r ha nd
  -- addresses handed over
  have given : ∀ {b : Addr} {j : Nat}, IoA args j → iaOf vs j = b → ∃ i s x, as[j]? = some (.at i) ∧ e[i]? = some s ∧ s.own = some x ∧ σ[i]? = some (some (.ref b)) := fun {b j} ⟨x, q⟩ eb => by
    obtain ⟨a, h1, h2⟩ := args_at ha q
    obtain ⟨i, s, rfl, h3, h4⟩ := slOf_io h2
    obtain ⟨h5, _, _⟩ := pre.2.2.2.1 j x q
    refine ⟨i, s, x, h1, h3, h4, ?_⟩
    rw [← eb]
    have : ArOk K mg G σ (.ref (iaOf vs j)) (.at i) := r.2 j _ _ h5 h1
    exact this
  have at_ : ∀ {i : Nat} {t : Sl}, (putBack as o e)[i]? = some t → (i ∉ ixs as ∧ e[i]? = some t) ∨ t = .no ∨ ∃ (j : Nat) (s : Sl) (x : Ct), as[j]? = some (Ar.at i) ∧ e[i]? = some s ∧ o[j]? = some (Sl.io x) ∧ t = s.put x := fun {i t} q => by
    by_cases hi : i ∈ ixs as
    · obtain ⟨j, hj⟩ := of_ixs hi
      have hl : i < e.length := by
        have := (List.getElem?_eq_some_iff.mp q).1
        rw [putBack_len] at this; exact this
      rcases putBack_at (o := o) nd hj (List.getElem?_eq_getElem hl) with ⟨x, h1, h2⟩ | h1
      · rw [h2] at q; cases q
        exact .inr (.inr ⟨j, _, x, hj, List.getElem?_eq_getElem hl, h1, rfl⟩)
      · rw [h1] at q; cases q
        exact .inr (.inl rfl)
    · rw [putBack_out hi] at q
      exact .inl ⟨hi, q⟩
  -- an own slot behind the call was own ahead of it
  have own_ : ∀ {i : Nat} {t : Sl} {y : Ct}, (putBack as o e)[i]? = some t → t.own = some y → ∃ s x, e[i]? = some s ∧ s.own = some x ∧ (∀ z, t = .io z → ∃ z', s = .io z') ∧ (∀ z, t = .ow z → ∃ z', s = .ow z') := fun {i t y} q q2 => by
    rcases at_ q with ⟨_, h⟩ | h | ⟨j, s, x, h1, h2, h3, h4⟩
    · exact ⟨t, y, h, q2, fun z hz => ⟨z, hz⟩, fun z hz => ⟨z, hz⟩⟩
    · subst h; cases q2
    · subst h4
      cases s with
      | no => cases q2
      | sh _ => cases q2
      | ow z => exact ⟨_, z, h2, rfl, fun z hz => (by cases hz), fun _ _ => ⟨z, rfl⟩⟩
      | io z => exact ⟨_, z, h2, rfl, fun _ _ => ⟨z, rfl⟩, fun z hz => (by cases hz)⟩
  -- cells that were not handed over
  have kept : ∀ {i : Nat} {s : Sl} {x : Ct} {b : Addr}, i ∉ ixs as → e[i]? = some s → s.own = some x → σ[i]? = some (some (.ref b)) → ∀ c u, H c = some u → (c = b ∨ u = .own b) → H' c = some u := fun {i s x b} hi q1 q2 q3 c u hc hu => by
    refine P.fr c u hc fun j hj ej => ?_
    obtain ⟨i', s', x', g1, g2, g3, g4⟩ := given hj ej
    obtain ⟨a', f1, f2, f3⟩ := S.ow i' s' x' g2 g3
    rw [g4] at f1; cases f1
    obtain ⟨u', hu', nu'⟩ := f3.at
    rw [hc] at hu'; cases hu'
    rcases hu with hu | hu
    · subst hu
      have := S.ap i i' s s' x x' _ q1 g2 q2 g3 q3 g4
      subst this
      exact hi (mem_ixs g1)
    · exact nu' _ hu
  refine ⟨P.sub, by rw [putBack_len]; exact S.len, fun i d q => ?_, fun i t y q1 q2 => ?_, fun i y q => ?_, fun i j s t x y a h1 h2 h3 h4 h5 h6 => ?_, fun a u h1 h2 => ?_, fun a u h => ?_, fun i y a q1 q2 => ?_, fun a h => S.dm a (P.dm a h), fun a u h => ?_, fun i t y a q1 q2 q3 => ?_⟩
  · rcases at_ q with ⟨_, h⟩ | h | ⟨j, s, x, h1, h2, h3, h4⟩
    · obtain ⟨v, g1, g2⟩ := S.sh i d h
      exact ⟨v, g1, g2.mono P.s⟩
    · cases h
    · cases s <;> cases h4
      have := argsOf_get ha
      obtain ⟨_, f⟩ := this
      obtain ⟨s', g1, g2⟩ := f j _ h1
      unfold slOf at g2
      dsimp only at g2
      rw [h2] at g2
      cases g2
  · rcases at_ q1 with ⟨hi, h⟩ | h | ⟨j, s, x, h1, h2, h3, h4⟩
    · obtain ⟨b, g1, g2, g3⟩ := S.ow i t y h q2
      obtain ⟨u, hu, nu⟩ := g3.at
      refine ⟨b, g1, ?_, (g3.mono P.s fun c hc gc => ?_).keep (kept hi h q2 g1)⟩
      · cases z : G' b with
        | none => rfl
        | some w =>
          rcases P.nw b w z with z | z
          · rw [g2] at z; cases z
          · rw [hu] at z; cases z
      · cases z : G' c with
        | none => rfl
        | some w =>
          rcases P.nw c w z with z | z
          · rw [gc] at z; cases z
          · rw [hc] at z; cases z
    · subst h; cases q2
    · subst h4
      obtain ⟨hy, g1, g2⟩ := P.io j x h3
      obtain ⟨y', hy'⟩ := hy
      obtain ⟨i', s', x', f1, f2, f3, f4⟩ := given ⟨y', hy'⟩ rfl
      rw [h1] at f1
      cases f1
      rw [h2] at f2; cases f2
      rw [Sl.put_own f3] at q2; cases q2
      exact ⟨_, f4, g1, g2⟩
  · obtain ⟨s, x, h1, h2, h3, _⟩ := own_ q rfl
    obtain ⟨z', h4⟩ := h3 y rfl
    subst h4
    exact S.io i z' h1
  · obtain ⟨s1, x1, f1, f2, _, _⟩ := own_ h1 h3
    obtain ⟨s2, x2, g1, g2, _, _⟩ := own_ h2 h4
    exact S.ap i j s1 s2 x1 x2 a f1 g1 f2 g2 h5 h6
  · refine P.fr a u (S.fr a u h1 h2) fun j hj ej => ?_
    obtain ⟨i, s, x, g1, g2, g3, g4⟩ := given hj ej
    cases s with
    | no => cases g3
    | sh _ => cases g3
    | ow z =>
      have := S.of i z a g2 g4
      rw [this] at h1; cases h1
    | io z =>
      obtain ⟨k1, k2⟩ := S.io i z g2
      rw [g4] at k1; cases k1
      exact h2 i k2 rfl
  · rcases P.nw a u h with z | z
    · exact S.nw a u z
    · exact .inr (S.dm a z)
  · obtain ⟨s, x, h1, h2, _, h3⟩ := own_ q1 rfl
    obtain ⟨z', h4⟩ := h3 y rfl
    subst h4
    exact S.of i z' a h1 q2
  · obtain ⟨k1, k2⟩ := S.kp a u h
    refine ⟨P.fr a u k1 fun j hj ej => ?_, ?_⟩
    · obtain ⟨i, s, x, g1, g2, g3, g4⟩ := given hj ej
      have := S.ka i s x a g2 g3 g4
      rw [this] at h; cases h
    · cases z : G' a with
      | none => rfl
      | some w =>
        rcases P.nw a w z with z | z
        · rw [k2] at z; cases z
        · rw [k1] at z; cases z
  · obtain ⟨s, x, h1, h2, _, _⟩ := own_ q1 q2
    exact S.ka i s x a h1 h2 q3
end

/-! ### defs -/
/-- the def of the text at st: what it does -/
structure DF (P : Program) (w : World) (K : PySem.W.Frag) (mg : MG) (base : Heap) (k : Nat) (x : Str) (st : Stmt) (ps : List Str) (sem : FS) : Prop where
  ex : ∃ f fd, FnOk P w K mg base (L2.CX P w) k f fd ps (spF K mg sem) ∧ mg x = some (.ref f) ∧ FunD K x x (defArgs st) (defBody st) (defScope st) [] [] f fd ∧ Binds K fd ps []
theorem DF.up {P : Program} {w : World} {K : PySem.W.Frag} {mg : MG} {base : Heap} {j k : Nat} {x : Str} {st : Stmt} {ps : List Str} {sem : FS} (F : DF P w K mg base j x st ps sem) (h : j ≤ k) : DF P w K mg base k x st ps sem := by
  obtain ⟨f, fd, h1, h2⟩ := F.ex
  exact ⟨f, fd, h1.mono h, h2⟩
section
variable {P : Program} {w : World} {K : PySem.W.Frag} {mg : MG} {base : Heap} {k : Nat} {x : Str} {st : Stmt} {N ps : List Str} {m : M Fl} {f : Addr} {fd : FuncData}
theorem spF_len {sem : FS} {n j : Nat} {vs : List V} {H : Hp} {Q : VK} {E : XK} (h : spF K mg (sFun n j m) vs H Q E) : vs.length = j := by
  obtain ⟨ia, G, args, pre, q⟩ := h
  unfold sFun at q
  by_cases z : args.length = j
  · exact pre.2.1.trans z
  · rw [if_neg z] at q; exact q.elim
theorem takes_fn {qual : Str} {scope : Scope} {cd : Value} {A : Around} {outer : List Env} {s : Shared} {H : Hp} {E : XK} : Takes (cxOf (L2.CX P w) P w K mg base N qual scope f cd A outer s H E) (fun cls d _ H => E cls d H) :=
  takes_of rfl rfl rfl rfl
theorem passes_fn {qual : Str} {scope : Scope} {cd : Value} {A : Around} {outer : List Env} {s : Shared} {H : Hp} {E : XK} :
    PassesOwn (model P w) (cxOf (L2.CX P w) P w K mg base N qual scope f cd A outer s H E).A (cxOf (L2.CX P w) P w K mg base N qual scope f cd A outer s H E).env (cxOf (L2.CX P w) P w K mg base N qual scope f cd A outer s H E).xe :=
  passes_of (K := fun e s'' => L2.CX P w outer H s E e s'') rfl
/-- a body's meaning gives what the promise asks of it -/
theorem body_ends {n j : Nat} {args : List Sl} {vs : List V} {G H : Hp} {ia : Nat → Addr} {Q : VK} {E : XK} (pre : PreF K mg ia G H vs args) (hl : args.length = j) (r : R Fl) (q : match endF j r with
    | .ok r outs => ∀ G' H', PostF K mg ia args G H G' H' outs → RetF K mg ia H G' H' outs Q r
    | .ex c fs outs => ∀ G' H' C d, PostF K mg ia args G H G' H' outs → mg (Str.ofString c) = some (.ref C) → Xr K mg G' H' d fs → E (.ref C) (some d) H'
    | .no => False) : Ws K mg (fun cls d _ H => E cls d H) ⟨ia, G, H, IoA args, fun _ => none⟩ G r { nx := fun _ H' => Q .non H', rt := Q } := by
  subst hl
  cases r with
  | no => exact q
  | ex c fs e => exact fun G' σ' H' C d s S hC hX => q G' H' C d (post_of S s) hC hX
  | ok fl e =>
    intro G' σ' H' s S
    cases fl with
    | bk => exact q.elim
    | ct => exact q.elim
    | nx => exact q G' H' (post_of S s) _ .non
    | rt r =>
      have z := q G' H' (post_of S s)
      cases r with
      | sh d => exact z
      | ow y =>
        intro a ga c h0 _ ap
        refine z a ga c h0 fun j x h => ?_
        obtain ⟨h1, h2⟩ := take_get h
        have := (S.io j x h1).1
        exact fun ej => ap j _ x h1 rfl (by rw [this]; show some (some (V.ref (ia j))) = _; rw [ej])
theorem df_mk (F : FunD K x x (defArgs st) (defBody st) (defScope st) [] [] f fd) (hmg : mg x = some (.ref f)) (S : FnScope N ps (defScope st)) (hp : ps.length ≤ N.length)
    (hb : ∀ (kV doc pm : Value) (an : Option Addr) (cdv ct : Value) (us : List Value), us.length = ps.length → bindArgs (PySem.W.fnOf x x (defArgs st) (defBody st) (defScope st) .none kV doc pm an cdv ct) ⟨us, []⟩ = pure (ps.zip us))
    (body : ∀ W : WX, DSs ⟨P, w, K, mg, base, N, defScope st, fun _ => true, k⟩ W (defBody st) m) : DF P w K mg base (k + 1) x st ps (sFun N.length ps.length m) := by
  refine ⟨f, fd, ?_, hmg, F, F.bindsN hb⟩
  refine F.ok S (fun vs H Q E h => spF_len (sem := sFun N.length ps.length m) h) (fun cdv A outer s H vs Q E hr h => ?_)
  obtain ⟨t, h1, h2⟩ := body fun cls d _ H => E cls d H
  refine ⟨t, h1 _ ⟨rfl, rfl, rfl, rfl, rfl, rfl, rfl, rfl, S.nd, rfl, hr, takes_fn, passes_fn⟩, ?_⟩
  have hvl := spF_len (sem := sFun N.length ps.length m) h
  obtain ⟨ia, G, args, pre, q⟩ := h
  have hl : args.length = ps.length := pre.2.1.symm.trans hvl
  unfold sFun at q
  rw [if_pos hl] at q
  have S0 := sr_start (N := N) pre (by rw [hvl]; exact hp)
  rw [hl] at S0
  exact h2 _ _ _ _ _ _ S0 (body_ends (n := N.length) pre hl _ q)
end

/-! ### calls -/
section
variable {I : CI} {W : WX} {X : Cx} {x : Str} {a : Expr} {es : List Expr} {pos p0 : Pos}
theorem gl_of {sc : Scope} (h : X.env.scope = sc) (g : sc.names.lookup x = some .globalImplicit) : Gl X x := by
  show X.env.scope.names.lookup x = _
  rw [h]; exact g
/-- the promise, at the caller's -/
theorem call_sim {sem : FS} {p : Pm} {G H : Hp} {σ : L2.St} {e : En} {Q : VK} {vs : List V} {as : List Ar} (S : Srp I.K I.mg p G σ H e) (r : ArsOk I.K I.mg G σ vs as)
    (w : Wp I.K I.mg W p G σ (callS sem as e) (fun r G' H' e' => RetK I.K I.mg p G' σ H' e' Q r)) : spF I.K I.mg sem vs H Q (WE W σ) := by
  unfold callS at w
  cases ha : argsOf e as with
  | none => rw [ha] at w; exact w.elim
  | some args =>
    rw [ha] at w
    dsimp only at w
    by_cases nd : (ixs as).Nodup
    · rw [if_pos nd] at w
      refine ⟨iaOf vs, G, args, pre_call S r ha nd, ?_⟩
      cases hs : sem args with
      | no => rw [hs] at w; exact w
      | ex c fs o =>
        rw [hs] at w
        intro G' H' C d P hC hX
        exact w G' H' C d P.s (post_call S r ha nd P) hC hX
      | ok rr o =>
        rw [hs] at w
        intro G' H' P
        have S' := post_call S r ha nd P
        have k := w G' H' P.s S'
        cases rr with
        | sh d => exact k
        | ow y =>
          intro b gb c h0 ap
          refine k b gb c (S.dm b h0) (by
            cases z : p.F b with
            | none => rfl
            | some u => have := (S.kp _ _ z).1; rw [h0] at this; cases this) fun i s z q1 q2 q3 => ?_
          -- an own slot's thing stood ahead of the call
          by_cases hi : i ∈ ixs as
          · obtain ⟨j, hj⟩ := of_ixs hi
            obtain ⟨_, f⟩ := argsOf_get ha
            obtain ⟨s1, f1, f2⟩ := f j _ hj
            have hv := r.1
            have hlt : j < vs.length := by rw [hv]; exact (List.getElem?_eq_some_iff.mp hj).1
            have := r.2 j _ _ (List.getElem?_eq_getElem hlt) hj
            have hσ : σ[i]? = some (some vs[j]) := this
            rw [q3] at hσ
            have e1 : vs[j] = .ref b := (Option.some.inj (Option.some.inj hσ)).symm
            unfold slOf at f2
            dsimp only at f2
            cases g1 : e[i]? with
            | none => rw [g1] at f2; cases f2
            | some s0 =>
              rw [g1] at f2
              cases g2 : s0.own with
              | none => dsimp only at f2; rw [g2] at f2; cases f2
              | some z0 =>
                obtain ⟨b', k1, k2, k3⟩ := S.ow i s0 z0 g1 g2
                rw [q3] at k1; cases k1
                obtain ⟨u, hu, _⟩ := k3.at
                rw [h0] at hu; cases hu
          · rw [putBack_out hi] at q1
            obtain ⟨b', k1, k2, k3⟩ := S.ow i s z q1 q2
            rw [q3] at k1; cases k1
            obtain ⟨u, hu, _⟩ := k3.at
            rw [h0] at hu; cases hu
    · rw [if_neg nd] at w; exact w.elim
def tCallS0 (sp : Sp) (E : L2.St → XK) : TE := fun σ H Q => sp [] H Q (E σ)
theorem dr_call {st : Stmt} {ps : List Str} {sem : FS} {k : Nat} {ma : M (List Ar)} (F : DF I.P I.w I.K I.mg I.base k x st ps sem) (hk : k ≤ I.k) (g : I.sc.names.lookup x = some .globalImplicit) (hd : (x == ("__debug__" : Str)) = false)
    (ha : DP I W (a :: es) ma) : DR I W (.Call (.Name x p0) (a :: es) [] pos) (rCall sem ma) := by
  obtain ⟨f, fd, F1, F2, F3, F4⟩ := F.ex
  obtain ⟨n, t, h1, h2⟩ := ha
  have n2 : nst a = true ∧ es.all nst = true := by simpa using n
  refine ⟨tCallS (spF I.K I.mg sem) (WE W) t, fun X ok => ?_, fun p G σ H e Q S w => ?_⟩
  · obtain ⟨P, ww, K, mg, base, N, sc, fn, kk⟩ := I
    obtain ⟨e1, e2, e3, e4, e5, e6, e7, e8, nd, calm, room, takes, passes⟩ := id ok
    dsimp only at *
    subst e1 e2 e3 e4 e5
    exact pe_callS F1 (room.mono hk) (gl_of e7 g) F2 F3.kp F4 (fun σ => passAt takes σ) (h1 X ok) hd (star_of n2.1 _ _) (by rw [no_back]; exact no_star n2.2 _)
  · refine h2 p G σ H e _ S (Wp.mono (Wp.bnd w) fun as G1 H1 e1 s1 S1 w1 vs rs => ?_)
    exact call_sim S1 rs w1
end
end DL
end

section
namespace DL
open PySem PySem.Spec L2
open PyProof.Rows hiding St

/-! ### truth -/
def dTru : D → Option Bool
  | .non => some false
  | .bl b => some b
  | .int i => some (i != 0)
  | .str x => if x.length ≤ LIM then some ((x.length : Int) != 0) else none
  | .tup l => some (!l.isEmpty)
  | .lst l => some (!l.isEmpty)
  | .dct l => some (!l.isEmpty)
  | .obj _ _ => none
theorem isEmpty_len {α β : Type} {l : List α} {m : List β} (h : l.length = m.length) : l.isEmpty = m.isEmpty := by
  cases l <;> cases m <;> simp_all
theorem tru_of {K : PySem.W.Frag} {mg : MG} {G H : Hp} {v : V} {d : D} {k : Bool} (r : Rep K mg G v d) (s : Same G H) (h : dTru d = some k) : TruV K v H k := by
  have ll := lim_line
  cases r with
  | non => cases h; rfl
  | bl b => cases h; rfl
  | int i => cases h; rfl
  | str x =>
    unfold dTru at h
    dsimp only at h
    split at h
    · cases h; exact ⟨by omega, rfl⟩
    · cases h
  | tup h1 h2 _ => cases h; exact .inr (.inl ⟨_, Same.seqT s h1, by rw [isEmpty_len h2]⟩)
  | lst h1 h2 _ => cases h; exact .inl ⟨_, LsT.sq (Same.ls s h1), by rw [isEmpty_len h2]⟩
  | dct h1 h2 _ _ => cases h; exact .inr (.inr ⟨_, s _ _ h1, by rw [isEmpty_len h2]⟩)
  | obj _ _ _ _ _ _ => cases h
def tTru (m : M D) : M Bool := M.bnd m fun d => lift (dTru d)
section
variable {I : CI} {W : WX} {a b c : Expr} {rest : List Expr} {pos : Pos}
theorem dt_val {m : M D} (h : DE I W a m) (he : ∀ (env : Env) (whole : Sem Value), isTrue a env whole = (do let v ← whole; standAt a.pos; holding [v] (truthy v))) : DT I W a (tTru m) := by
  obtain ⟨t, h1, h2⟩ := h
  refine ⟨fun σ H Q => t σ H fun x H' => ∃ k, TruV I.K x H' k ∧ Q k H', fun X ok => ?_, fun p G σ H e Q S w => ?_⟩
  · have := pt_truth (h1 X ok) (he X.env)
    rw [ok.hK] at this
    exact this
  · refine h2 p G σ H e _ S (Wp.mono (Wp.bnd w) fun d G1 H1 e1 s1 S1 w1 v r => ?_)
    obtain ⟨k, hk, q⟩ := lift_wp w1
    exact ⟨k, tru_of r S1.sub hk, q G1 H1 (Same.refl _) S1⟩
/-- tests joined by and, or: they stand by themselves -/
def DW (I : CI) (W : WX) (e : Expr) (m : M Bool) : Prop := ∃ t, (∀ X, Okx I W X → PW X e t) ∧ SimT I W t m
theorem dt_w {m : M Bool} (h : DW I W a m) : DT I W a m := let ⟨t, h1, h2⟩ := h; ⟨t, fun X ok => (h1 X ok).pt, h2⟩
def tAndM (m n : M Bool) : M Bool := M.bnd m fun k => if k = true then n else M.ret false
def tOrM (m n : M Bool) : M Bool := M.bnd m fun k => if k = true then M.ret true else n
theorem dw_and1 {m : M Bool} (h : DT I W a m) : DW I W (.BoolOp .And [a] pos) m := let ⟨t, h1, h2⟩ := h; ⟨t, fun X ok => pw_and1 (h1 X ok), h2⟩
theorem dw_or1 {m : M Bool} (h : DT I W a m) : DW I W (.BoolOp .Or [a] pos) m := let ⟨t, h1, h2⟩ := h; ⟨t, fun X ok => pw_or1 (h1 X ok), h2⟩
theorem dw_and {m n : M Bool} (h : DT I W a m) (h' : DW I W (.BoolOp .And (b :: rest) pos) n) : DW I W (.BoolOp .And (a :: b :: rest) pos) (tAndM m n) := by
  obtain ⟨t, h1, h2⟩ := h
  obtain ⟨u, h3, h4⟩ := h'
  refine ⟨_, fun X ok => pw_and (h1 X ok) (h3 X ok), fun p G σ H e Q S w => ?_⟩
  refine h2 p G σ H e _ S (Wp.mono (Wp.bnd w) fun k G1 H1 e1 s1 S1 w1 => ?_)
  cases k with
  | true =>
    rw [if_pos rfl] at w1 ⊢
    exact h4 p G1 σ H1 e1 _ S1 w1
  | false =>
    rw [if_neg Bool.false_ne_true] at w1 ⊢
    exact w1 G1 H1 (Same.refl _) S1
theorem dw_or {m n : M Bool} (h : DT I W a m) (h' : DW I W (.BoolOp .Or (b :: rest) pos) n) : DW I W (.BoolOp .Or (a :: b :: rest) pos) (tOrM m n) := by
  obtain ⟨t, h1, h2⟩ := h
  obtain ⟨u, h3, h4⟩ := h'
  refine ⟨_, fun X ok => pw_or (h1 X ok) (h3 X ok), fun p G σ H e Q S w => ?_⟩
  refine h2 p G σ H e _ S (Wp.mono (Wp.bnd w) fun k G1 H1 e1 s1 S1 w1 => ?_)
  cases k with
  | true =>
    rw [if_pos rfl] at w1 ⊢
    exact w1 G1 H1 (Same.refl _) S1
  | false =>
    rw [if_neg Bool.false_ne_true] at w1 ⊢
    exact h4 p G1 σ H1 e1 _ S1 w1
def tNotM (m : M Bool) : M Bool := M.bnd m fun k => M.ret (!k)
theorem dt_not {m : M Bool} (h : DT I W a m) : DT I W (.UnaryOp .Not a pos) (tNotM m) := by
  obtain ⟨t, h1, h2⟩ := h
  refine ⟨_, fun X ok => pt_not (h1 X ok), fun p G σ H e Q S w => ?_⟩
  exact h2 p G σ H e _ S (Wp.mono (Wp.bnd w) fun k G1 H1 e1 s1 S1 w1 => w1 G1 H1 (Same.refl _) S1)
/-! ### as values -/
def eAnd (m n : M D) : M D := M.bnd m fun d => M.bnd (lift (dTru d)) fun k => if k = true then n else M.ret d
def eOr (m n : M D) : M D := M.bnd m fun d => M.bnd (lift (dTru d)) fun k => if k = true then M.ret d else n
def eNot (m : M D) : M D := M.bnd m fun d => M.bnd (lift (dTru d)) fun k => M.ret (.bl (!k))
theorem de_one {op} {m : M D} (h : DE I W a m) : DE I W (.BoolOp op [a] pos) m := let ⟨t, h1, h2⟩ := h; ⟨t, fun X ok => pe_one (h1 X ok), h2⟩
theorem de_and {m n : M D} (h : DE I W a m) (h' : DE I W (.BoolOp .And (b :: rest) pos) n) : DE I W (.BoolOp .And (a :: b :: rest) pos) (eAnd m n) := by
  obtain ⟨t, h1, h2⟩ := h
  obtain ⟨u, h3, h4⟩ := h'
  refine ⟨tAndT I.K t u, fun X ok => (by have := pe_andT (pos := pos) (h1 X ok) (h3 X ok); rw [ok.hK] at this; exact this), fun p G σ H e Q S w => ?_⟩
  refine h2 p G σ H e _ S (Wp.mono (Wp.bnd w) fun d G1 H1 e1 s1 S1 w1 v r => ?_)
  obtain ⟨k, hk, q⟩ := lift_wp (Wp.bnd w1)
  refine ⟨k, tru_of r S1.sub hk, ?_⟩
  have w2 := q G1 H1 (Same.refl _) S1
  cases k with
  | true =>
    rw [if_pos rfl] at w2 ⊢
    exact h4 p G1 σ H1 e1 _ S1 w2
  | false =>
    rw [if_neg Bool.false_ne_true] at w2 ⊢
    exact w2 G1 H1 (Same.refl _) S1 v r
theorem de_or {m n : M D} (h : DE I W a m) (h' : DE I W (.BoolOp .Or (b :: rest) pos) n) : DE I W (.BoolOp .Or (a :: b :: rest) pos) (eOr m n) := by
  obtain ⟨t, h1, h2⟩ := h
  obtain ⟨u, h3, h4⟩ := h'
  refine ⟨tOrT I.K t u, fun X ok => (by have := pe_orT (pos := pos) (h1 X ok) (h3 X ok); rw [ok.hK] at this; exact this), fun p G σ H e Q S w => ?_⟩
  refine h2 p G σ H e _ S (Wp.mono (Wp.bnd w) fun d G1 H1 e1 s1 S1 w1 v r => ?_)
  obtain ⟨k, hk, q⟩ := lift_wp (Wp.bnd w1)
  refine ⟨k, tru_of r S1.sub hk, ?_⟩
  have w2 := q G1 H1 (Same.refl _) S1
  cases k with
  | true =>
    rw [if_pos rfl] at w2 ⊢
    exact w2 G1 H1 (Same.refl _) S1 v r
  | false =>
    rw [if_neg Bool.false_ne_true] at w2 ⊢
    exact h4 p G1 σ H1 e1 _ S1 w2
theorem de_not {m : M D} (h : DE I W a m) : DE I W (.UnaryOp .Not a pos) (eNot m) := by
  obtain ⟨t, h1, h2⟩ := h
  refine ⟨tNotT I.K t, fun X ok => (by have := pe_notT (pos := pos) (h1 X ok); rw [ok.hK] at this; exact this), fun p G σ H e Q S w => ?_⟩
  refine h2 p G σ H e _ S (Wp.mono (Wp.bnd w) fun d G1 H1 e1 s1 S1 w1 v r => ?_)
  obtain ⟨k, hk, q⟩ := lift_wp (Wp.bnd w1)
  exact ⟨k, tru_of r S1.sub hk, q G1 H1 (Same.refl _) S1 G1 H1 (Same.refl _) S1 _ (.bl _)⟩
def rIf (c : M Bool) (m n : M Ret) : M Ret := M.bnd c fun k => if k = true then m else n
theorem dr_if {k : M Bool} {m n : M Ret} (hc : DT I W c k) (ha : DR I W a m) (hb : DR I W b n) : DR I W (.IfExp c a b pos) (rIf k m n) := by
  obtain ⟨t, h1, h2⟩ := hc
  obtain ⟨ta, a1, a2⟩ := ha
  obtain ⟨tb, b1, b2⟩ := hb
  refine ⟨_, fun X ok => pe_ifExp (h1 X ok) (a1 X ok) (b1 X ok), fun p G σ H e Q S w => ?_⟩
  refine h2 p G σ H e _ S (Wp.mono (Wp.bnd w) fun d G1 H1 e1 s1 S1 w1 => ?_)
  cases d with
  | true =>
    rw [if_pos rfl] at w1 ⊢
    exact a2 p G1 σ H1 e1 _ S1 w1
  | false =>
    rw [if_neg Bool.false_ne_true] at w1 ⊢
    exact b2 p G1 σ H1 e1 _ S1 w1
/-! ### one-place operators -/
def eUn (g : Int → Int) (m : M D) : M D := M.bnd m fun d => match d with
  | .int i => M.ret (.int (g i))
  | _ => fun _ => .no
theorem de_un {op : UnaryOp} {g : Int → Int} (ho : ∀ X, UnR X (unaryOp op) (rU fun i => .int (g i))) {m : M D} (h : DE I W a m) : DE I W (.UnaryOp op a pos) (eUn g m) := by
  obtain ⟨t, h1, h2⟩ := h
  refine ⟨_, fun X ok => pe_un (ho X) (h1 X ok), fun p G σ H e Q S w => ?_⟩
  refine h2 p G σ H e _ S (Wp.mono (Wp.bnd w) fun d G1 H1 e1 s1 S1 w1 v r => ?_)
  cases r <;> first | exact w1.elim | skip
  rename_i i
  exact ⟨i, rfl, w1 G1 H1 (Same.refl _) S1 _ (.int _)⟩
theorem de_neg {m : M D} (h : DE I W a m) : DE I W (.UnaryOp .USub a pos) (eUn (fun i => -i) m) := de_un (fun _ => un_neg) h
theorem de_inv {m : M D} (h : DE I W a m) : DE I W (.UnaryOp .Invert a pos) (eUn Builtin.bitNot m) := de_un (fun _ => un_inv) h
/-! ### displays -/
def eTup (m : M (List Ar)) : M D := M.bnd (aVals m) fun ds => if ds.length ≤ LIM then M.ret (.tup ds) else fun _ => .no
def rLst (m : M (List Ar)) : M Ret := M.bnd (aVals m) fun ds => if ds.length ≤ LIM then M.ret (.ow (.l ds)) else fun _ => .no
theorem de_tup {es : List Expr} {m : M (List Ar)} {k} (h : DP I W es m) : DE I W (.Tuple es k pos) (eTup m) := by
  obtain ⟨n, t, h1, h2⟩ := h
  refine ⟨_, fun X ok => pe_tup (h1 X ok), fun p G σ H e Q S w => ?_⟩
  refine simA_of h2 p G σ H e _ S (Wp.mono (Wp.bnd w) fun ds G1 H1 e1 s1 S1 w1 vs r => ?_)
  have ll := lim_line
  split at w1
  · refine ⟨by rw [r.1]; omega, fun q n => ?_⟩
    obtain ⟨s2, S2⟩ := S1.laid (o := .tup vs) n
    exact w1 _ _ s2 S2 _ (.mk_tup (.of upd_same) (r.mono s2))
  · exact w1.elim
theorem dr_lst {es : List Expr} {m : M (List Ar)} (h : DP I W es m) : DR I W (.List es pos) (rLst m) := by
  obtain ⟨n, t, h1, h2⟩ := h
  refine ⟨_, fun X ok => pe_lst (h1 X ok), fun p G σ H e Q S w => ?_⟩
  refine simA_of h2 p G σ H e _ S (Wp.mono (Wp.bnd w) fun ds G1 H1 e1 s1 S1 w1 vs r => ?_)
  have ll := lim_line
  split at w1
  · refine ⟨by rw [r.1]; omega, fun q n => ?_⟩
    obtain ⟨S2, gn, h0, hF, ap⟩ := S1.laidOw (o := .lst vs) n
    exact w1 G1 _ (Same.refl _) S2 q gn ⟨vs, upd_same, r⟩ h0 hF ap
  · exact w1.elim
/-- {} and {'a': ..}: kept for what they are -/
theorem de_dict0 : DE I W (.Dict [] [] pos) (eC (.dct [])) := by
  refine ⟨_, fun X ok => pe_dnewK, fun p G σ H e Q S w => fun q n => ?_⟩
  obtain ⟨s2, S2⟩ := S.laid (o := .dK []) n
  exact w _ _ s2 S2 _ (.dct upd_same rfl (fun i kv kd h => by simp at h) (fun i kv kd h => by simp at h))
end
end DL
end

section
namespace DL
open PySem PySem.Spec L2
open PyProof.Rows hiding St

/-! ### statements -/
def sSeq (m n : M Fl) : M Fl := M.bnd m fun fl => match fl with
  | .nx => n
  | fl => M.ret fl
section
variable {I : CI} {W : WX} {st : Stmt} {rest : List Stmt} {m n : M Fl} {pos : Pos}
theorem seq_sim {t u : TS} (h : SimS I W t m) (h' : SimS I W u n) : SimS I W (tSeq t u) (sSeq m n) := by
  intro p G σ H e E S w
  refine h p G σ H e _ S ?_
  unfold sSeq M.bnd at w
  cases r : m e with
  | no => rw [r] at w; exact w
  | ex c fs e' => rw [r] at w; exact w
  | ok fl e' =>
    rw [r] at w
    intro G' σ' H' s S'
    cases fl with
    | nx => exact h' p G' σ' H' e' E S' (Ws.up w s)
    | bk => exact w G' σ' H' s S'
    | ct => exact w G' σ' H' s S'
    | rt r => exact w G' σ' H' s S'
def sNil : M Fl := M.ret .nx
theorem dss_nil : DSs I W [] sNil := ⟨tNext, fun _ _ => pss_nil, fun p G σ H e E S w => w G σ H (Same.refl _) S⟩
theorem dss_cons (h : DS I W st m) (h' : DSs I W rest n) : DSs I W (st :: rest) (sSeq m n) := by
  obtain ⟨t, h1, h2⟩ := h
  obtain ⟨u, h3, h4⟩ := h'
  exact ⟨_, fun X ok => pss_cons (h1 X ok) (h3 X ok), seq_sim h2 h4⟩
theorem dss_one (h : DS I W st m) : DSs I W [st] m := let ⟨t, h1, h2⟩ := h; ⟨t, fun X ok => pss_one (h1 X ok), h2⟩
theorem ds_pass : DS I W (.Pass pos) sNil := ⟨tNext, fun _ _ => ps_pass, fun p G σ H e E S w => w G σ H (Same.refl _) S⟩
def sBreak : M Fl := M.ret .bk
def sCont : M Fl := M.ret .ct
theorem ds_break : DS I W (.Break pos) sBreak := ⟨_, fun _ _ => ps_break, fun p G σ H e E S w => w G σ H (Same.refl _) S⟩
theorem ds_continue : DS I W (.Continue pos) sCont := ⟨_, fun _ _ => ps_continue, fun p G σ H e E S w => w G σ H (Same.refl _) S⟩
/-- code that is never come to -/
def sNever : M Fl := fun _ => .no
theorem ds_never : DS I W st sNever := ⟨tNever, fun _ _ => ps_never, fun p G σ H e E S w => w.elim⟩
def sRet (m : M Ret) : M Fl := M.bnd m fun r => M.ret (.rt r)
theorem ds_ret {a : Expr} {m : M Ret} (h : DR I W a m) : DS I W (.Return (some a) pos) (sRet m) := by
  obtain ⟨t, h1, h2⟩ := h
  refine ⟨_, fun X ok => ps_ret (h1 X ok), fun p G σ H e E S w => ?_⟩
  exact h2 p G σ H e _ S (Wp.mono (Ws.bnd w) fun r G1 H1 e1 s1 S1 w1 => w1 G1 σ H1 (Same.refl _) S1)
/-- return x, where x is an own name: it is handed over -/
def sRetV (i : Nat) : M Fl := fun e => match e[i]? with
  | some (.ow x) => .ok (.rt (.ow x)) (e.set i .no)
  | some (.sh d) => .ok (.rt (.sh d)) e
  | _ => .no
theorem ds_retV {i : Nat} {x : Str} {p0 : Pos} (h : VarOk I.N I.sc i x) : DS I W (.Return (some (.Name x p0)) pos) (sRetV i) := by
  refine ⟨tRet (tVar i), fun X ok => ps_ret (pe_var (by rw [ok.hN]; exact h.hN) (by rw [ok.hsc]; exact h.hv) h.hd h.hc), fun p G σ H e E S w => ?_⟩
  unfold sRetV at w
  cases q : e[i]? with
  | none => rw [q] at w; exact w.elim
  | some s =>
    rw [q] at w
    cases s with
    | no => exact w.elim
    | io _ => exact w.elim
    | sh d =>
      obtain ⟨v, h1, h2⟩ := S.sh i d q
      exact ⟨v, h1, w G σ H (Same.refl _) S v h2⟩
    | ow x =>
      obtain ⟨a, h1, h2, h3⟩ := S.ow i _ x q rfl
      refine ⟨_, h1, w G σ H (Same.refl _) (S.drop i) a h2 h3 (S.of i x a q h1) (S.ka i _ x a q rfl h1) fun j s y q1 q2 q3 => ?_⟩
      by_cases hj : i = j
      · subst hj
        rw [List.getElem?_set_self (List.getElem?_eq_some_iff.mp q).1] at q1; cases q1; cases q2
      · rw [List.getElem?_set_ne hj] at q1
        exact hj (S.ap i j _ s x y a q q1 rfl q2 h1 q3)
theorem ds_retN : DS I W (.Return none pos) (M.ret (.rt (.sh .non))) := ⟨_, fun _ _ => ps_retN, fun p G σ H e E S w => w G σ H (Same.refl _) S _ .non⟩
def sIf (c : M Bool) (m n : M Fl) : M Fl := M.bnd c fun k => if k = true then m else n
theorem ds_if {c : Expr} {a b : List Stmt} {k : M Bool} (hc : DT I W c k) (ha : DSs I W a m) (hb : DSs I W b n) : DS I W (.If c a b pos) (sIf k m n) := by
  obtain ⟨t, h1, h2⟩ := hc
  obtain ⟨ta, a1, a2⟩ := ha
  obtain ⟨tb, b1, b2⟩ := hb
  refine ⟨_, fun X ok => ps_if (h1 X ok) (a1 X ok) (b1 X ok), fun p G σ H e E S w => ?_⟩
  refine h2 p G σ H e _ S (Wp.mono (Ws.bnd w) fun d G1 H1 e1 s1 S1 w1 => ?_)
  cases d with
  | true =>
    rw [if_pos rfl] at w1 ⊢
    exact a2 p G1 σ H1 e1 _ S1 w1
  | false =>
    rw [if_neg Bool.false_ne_true] at w1 ⊢
    exact b2 p G1 σ H1 e1 _ S1 w1
def sDrop {α : Type} (m : M α) : M Fl := M.bnd m fun _ => M.ret .nx
theorem ds_expr {a : Expr} {m : M D} (h : DE I W a m) (hs : ∀ env : Env, env.scope = I.sc → swapsWith a none pos.line env = pure false) : DS I W (.Expr a pos) (sDrop m) := by
  obtain ⟨t, h1, h2⟩ := h
  refine ⟨_, fun X ok => ps_expr (h1 X ok) (hs X.env ok.hsc), fun p G σ H e E S w => ?_⟩
  exact h2 p G σ H e _ S (Wp.mono (Ws.bnd w) fun r G1 H1 e1 s1 S1 w1 v _ => w1 G1 σ H1 (Same.refl _) S1)

/-! ### targets -/
def Wg (K : PySem.W.Frag) (mg : MG) (p : Pm) (G : Hp) (r : R Unit) (k : Hp → L2.St → Hp → En → Prop) : Prop := match r with
  | .ok _ e => ∀ G' σ' H', Same G G' → Srp K mg p G' σ' H' e → k G' σ' H' e
  | _ => False
/-- σ' differs from σ at the places gs alone -/
def Dif (gs : List Nat) (σ σ' : L2.St) : Prop := σ'.length = σ.length ∧ ∀ j : Nat, j ∉ gs → σ'[j]? = σ[j]?
def SimG (I : CI) (W : WX) (t : TG) (g : D → M Unit) (gs : List Nat) : Prop := ∀ (p : Pm) G σ H e v d (Q : L2.St → Hp → Prop), Srp I.K I.mg p G σ H e → Rep I.K I.mg G v d → Wg I.K I.mg p G (g d e) (fun _ σ' H' _ => Dif gs σ σ' → Q σ' H') → t v σ H Q
def DG (I : CI) (W : WX) (tg : Expr) (g : D → M Unit) (gs : List Nat) : Prop := ∃ t, (∀ X, Okx I W X → PG X tg t) ∧ SimG I W t g gs
/-- a name that may be stored -/
structure SetOk (N : List Str) (sc : Scope) (fn : Str → Bool) (i : Nat) (x : Str) : Prop where
  hN : N[i]? = some x
  hv : Loc sc x
  hf : fn x = true ∨ sc.names.lookup x = some .local
def gSet (i : Nat) (d : D) : M Unit := fun e => match e[i]? with
  | some (.io _) => .no
  | some _ => .ok () (e.set i (.sh d))
  | none => .no
theorem dif_set (i : Nat) (v : Option V) (σ : L2.St) : Dif [i] σ (σ.set i v) := ⟨by simp, fun j hj => by
  rw [List.getElem?_set_ne (by simpa using fun z => hj (by simp [z]))]⟩
theorem dg_name {i : Nat} {x : Str} (h : SetOk I.N I.sc I.fn i x) : DG I W (.Name x pos) (gSet i) [i] := by
  refine ⟨gName i, fun X ok => pg_name (by rw [ok.hN]; exact ok.nd) (by rw [ok.hN]; exact h.hN) (by rw [ok.hsc]; exact h.hv) (by rw [ok.hfn, ok.hsc]; exact h.hf), fun p G σ H e v d Q S r w => ?_⟩
  unfold gSet at w
  cases q : e[i]? with
  | none => rw [q] at w; exact w.elim
  | some s =>
    have hi := (List.getElem?_eq_some_iff.mp q).1
    rw [q] at w
    cases s with
    | io _ => exact w.elim
    | no => exact w G _ H (Same.refl _) (S.setSh r hi fun y z => by rw [q] at z; cases z) (dif_set i _ _)
    | sh _ => exact w G _ H (Same.refl _) (S.setSh r hi fun y z => by rw [q] at z; cases z) (dif_set i _ _)
    | ow _ => exact w G _ H (Same.refl _) (S.setSh r hi fun y z => by rw [q] at z; cases z) (dif_set i _ _)
def SimGs (I : CI) (W : WX) (t : TGs) (g : List D → M Unit) (gs : List Nat) : Prop := ∀ (p : Pm) G σ H e vs ds (Q : L2.St → Hp → Prop), Srp I.K I.mg p G σ H e → Reps I.K I.mg G vs ds → Wg I.K I.mg p G (g ds e) (fun _ σ' H' _ => Dif gs σ σ' → Q σ' H') → t vs σ H Q
def DGs (I : CI) (W : WX) (tgs : List Expr) (g : List D → M Unit) (gs : List Nat) : Prop := (∀ env : Env, (assignEach tgs env).length = tgs.length ∧ (assignEach tgs env).findIdx? (·.1) = none) ∧ ∃ t, (∀ X, Okx I W X → PGs X tgs t) ∧ SimGs I W t g gs
def gNilM (ds : List D) : M Unit := fun e => match ds with
  | [] => .ok () e
  | _ => .no
def gConsM (g : D → M Unit) (h : List D → M Unit) (ds : List D) : M Unit := match ds with
  | d :: ds => M.bnd (g d) fun _ => h ds
  | [] => fun _ => .no
theorem dgs_nil : DGs I W [] gNilM [] := by
  refine ⟨fun env => ⟨rfl, rfl⟩, gNil, fun _ _ => pgs_nil, fun p G σ H e vs ds Q S r w => ?_⟩
  cases ds with
  | nil =>
    have := r.1
    exact ⟨by simpa using this, w G σ H (Same.refl _) S ⟨rfl, fun _ _ => rfl⟩⟩
  | cons _ _ => exact w.elim
def nstG : Expr → Bool
  | .Starred _ _ => false
  | _ => true
theorem assignEach_cons {a : Expr} (h : nstG a = true) (as : List Expr) (env : Env) : assignEach (a :: as) env = (false, assign a env) :: assignEach as env := by
  cases a <;> first | rfl | cases h
theorem Reps.uncons {K : PySem.W.Frag} {mg : MG} {G : Hp} {vs : List V} {d : D} {ds : List D} (r : Reps K mg G vs (d :: ds)) : ∃ v vr, vs = v :: vr ∧ Rep K mg G v d ∧ Reps K mg G vr ds := by
  cases vs with
  | nil => have := r.1; simp at this
  | cons v vr => exact ⟨v, vr, rfl, r.2 0 v d rfl rfl, by have := r.1; simpa using this, fun i a b h1 h2 => r.2 (i + 1) a b (by simpa using h1) (by simpa using h2)⟩
theorem dgs_cons {a : Expr} {as : List Expr} {g : D → M Unit} {h : List D → M Unit} {gs hs : List Nat} (n : nstG a = true) (hg : DG I W a g gs) (hh : DGs I W as h hs) : DGs I W (a :: as) (gConsM g h) (gs ++ hs) := by
  obtain ⟨t, h1, h2⟩ := hg
  obtain ⟨k, u, h3, h4⟩ := hh
  refine ⟨fun env => ?_, gCons t u, fun X ok => pgs_cons (h1 X ok) (h3 X ok) (by rw [assignEach_cons n]; rfl), fun p G σ H e vs ds Q S r w => ?_⟩
  · rw [assignEach_cons n]
    obtain ⟨k1, k2⟩ := k env
    refine ⟨by simp [k1], ?_⟩
    rw [List.findIdx?_cons]
    simp [k2]
  · cases ds with
    | nil => exact w.elim
    | cons d ds =>
      obtain ⟨v, vr, rfl, r1, r2⟩ := r.uncons
      refine ⟨v, vr, rfl, h2 p G σ H e v d _ S r1 ?_⟩
      unfold gConsM M.bnd at w
      dsimp only at w
      cases z : g d e with
      | no => rw [z] at w; exact w.elim
      | ex c fs e' => rw [z] at w; exact w.elim
      | ok _ e' =>
        rw [z] at w
        intro G' σ' H' s S' d1
        refine h4 p G' σ' H' e' vr ds _ S' (r2.mono s) ?_
        dsimp only at w
        cases z2 : h ds e' with
        | no => rw [z2] at w; exact w.elim
        | ex c fs e2 => rw [z2] at w; exact w.elim
        | ok _ e2 =>
          rw [z2] at w
          exact fun G2 σ2 H2 s2 S2 d2 => w G2 σ2 H2 (s.trans s2) S2 ⟨d2.1.trans d1.1, fun j hj => (d2.2 j fun z => hj (List.mem_append_right _ z)).trans (d1.2 j fun z => hj (List.mem_append_left _ z))⟩
def gTupM (n : Nat) (h : List D → M Unit) (d : D) : M Unit := match d with
  | .tup ds => if ds.length = n then h ds else fun _ => .no
  | _ => fun _ => .no
theorem dg_tup {as : List Expr} {k} {h : List D → M Unit} {gs : List Nat} (hh : DGs I W as h gs) : DG I W (.Tuple as k pos) (gTupM as.length h) gs := by
  obtain ⟨q, u, h3, h4⟩ := hh
  refine ⟨gTup I.K as.length u, fun X ok => (by have := pg_tup (pos := pos) (k := k) ok.calm (h3 X ok) (q X.env).1 (q X.env).2; rw [ok.hK] at this; exact this), fun p G σ H e v d Q S r w => ?_⟩
  cases r <;> first | exact w.elim | skip
  rename_i a vs l h1 h2 h3'
  unfold gTupM at w
  dsimp only at w
  by_cases z : l.length = as.length
  · rw [if_pos z] at w
    exact ⟨a, vs, rfl, Same.seqT S.sub h1, h2.trans z, h4 p G σ H e vs l Q S ⟨h2, h3'⟩ w⟩
  · rw [if_neg z] at w; exact w.elim
/-- a list into names -/
def gLstM (n : Nat) (h : List D → M Unit) (d : D) : M Unit := match d with
  | .lst ds => if ds.length = n then h ds else fun _ => .no
  | _ => fun _ => .no
theorem dg_lst {as : List Expr} {k} {h : List D → M Unit} {gs : List Nat} (hh : DGs I W as h gs) : DG I W (.Tuple as k pos) (gLstM as.length h) gs := by
  obtain ⟨q, u, h3, h4⟩ := hh
  refine ⟨gUnl I.K as.length u, fun X ok => (by have := pg_unl (pos := pos) (k := k) ok.calm (h3 X ok) (q X.env).1 (q X.env).2; rw [ok.hK] at this; exact this), fun p G σ H e v d Q S r w => ?_⟩
  cases r <;> first | exact w.elim | skip
  rename_i a vs l h1 h2 h3'
  unfold gLstM at w
  dsimp only at w
  by_cases z : l.length = as.length
  · rw [if_pos z] at w
    exact ⟨a, vs, rfl, LsT.sq (Same.ls S.sub h1), h2.trans z, h4 p G σ H e vs l Q S ⟨h2, h3'⟩ w⟩
  · rw [if_neg z] at w; exact w.elim
/-! ### stores -/
def sAsg (m : M D) (g : D → M Unit) : M Fl := M.bnd m fun d => M.bnd (g d) fun _ => M.ret .nx
theorem ws_g {K : PySem.W.Frag} {mg : MG} {p : Pm} {G : Hp} {m : M Unit} {e : En} {E : Ends} (h : Ws K mg W p G (M.bnd m (fun _ => M.ret .nx) e) E) (hne : ∀ c fs e', m e ≠ .ex c fs e') : Wg K mg p G (m e) fun _ σ' H' _ => E.nx σ' H' := by
  unfold M.bnd at h
  cases z : m e with
  | no => rw [z] at h; exact h.elim
  | ex c fs e' => exact absurd z (hne c fs e')
  | ok _ e' => rw [z] at h; exact fun G' σ' H' s S => h G' σ' H' s S
theorem wg_dif {K : PySem.W.Frag} {mg : MG} {p : Pm} {G : Hp} {r : R Unit} {k : L2.St → Hp → Prop} {d : L2.St → Prop} (h : Wg K mg p G r fun _ σ' H' _ => k σ' H') : Wg K mg p G r fun _ σ' H' _ => d σ' → k σ' H' := by
  cases r with
  | ok _ e => exact fun G' σ' H' s S _ => h G' σ' H' s S
  | no => exact h
  | ex _ _ _ => exact h
/-- name = e, the value for all -/
theorem ds_set {i : Nat} {x : Str} {p0 : Pos} {a : Expr} {m : M D} (hx : SetOk I.N I.sc I.fn i x) (h : DE I W a m) (hs : ∀ env : Env, env.scope = I.sc → swapsWith a (some (.Name x p0)) pos.line env = pure false) : DS I W (.Assign [.Name x p0] a pos) (sAsg m (gSet i)) := by
  obtain ⟨t, h1, h2⟩ := h
  obtain ⟨tg, g1, g2⟩ := dg_name (I := I) (W := W) (pos := p0) hx
  refine ⟨tAsg t (gName i), fun X ok => ps_set (by rw [ok.hN]; exact ok.nd) (by rw [ok.hN]; exact hx.hN) (by rw [ok.hsc]; exact hx.hv) (h1 X ok) (hs X.env ok.hsc) (by rw [ok.hfn, ok.hsc]; exact hx.hf), fun p G σ H e E S w => ?_⟩
  refine h2 p G σ H e _ S (Wp.mono (Ws.bnd w) fun d G1 H1 e1 s1 S1 w1 v r => ?_)
  have w2 := ws_g w1 (fun c fs e' z => by unfold gSet at z; split at z <;> cases z)
  unfold gSet at w2
  show E.nx (σ.set i (some v)) H1
  cases q : e1[i]? with
  | none => rw [q] at w2; exact w2.elim
  | some s =>
    have hi := (List.getElem?_eq_some_iff.mp q).1
    rw [q] at w2
    cases s with
    | io _ => exact w2.elim
    | no => exact w2 G1 _ H1 (Same.refl _) (S1.setSh r hi fun y z => by rw [q] at z; cases z)
    | sh _ => exact w2 G1 _ H1 (Same.refl _) (S1.setSh r hi fun y z => by rw [q] at z; cases z)
    | ow _ => exact w2 G1 _ H1 (Same.refl _) (S1.setSh r hi fun y z => by rw [q] at z; cases z)
/-- name = e, a new thing that the name owns -/
def gOwn (i : Nat) (r : Ret) : M Fl := fun e => match e[i]?, r with
  | some (.io _), _ => .no
  | some _, .ow x => .ok .nx (e.set i (.ow x))
  | some _, .sh d => .ok .nx (e.set i (.sh d))
  | _, _ => .no
def sOwn (m : M Ret) (i : Nat) : M Fl := M.bnd m (gOwn i)
theorem ds_own {i : Nat} {x : Str} {p0 : Pos} {a : Expr} {m : M Ret} (hx : SetOk I.N I.sc I.fn i x) (h : DR I W a m) (hs : ∀ env : Env, env.scope = I.sc → swapsWith a (some (.Name x p0)) pos.line env = pure false) : DS I W (.Assign [.Name x p0] a pos) (sOwn m i) := by
  obtain ⟨t, h1, h2⟩ := h
  refine ⟨tAsg t (gName i), fun X ok => ps_set (by rw [ok.hN]; exact ok.nd) (by rw [ok.hN]; exact hx.hN) (by rw [ok.hsc]; exact hx.hv) (h1 X ok) (hs X.env ok.hsc) (by rw [ok.hfn, ok.hsc]; exact hx.hf), fun p G σ H e E S w => ?_⟩
  refine h2 p G σ H e _ S (Wp.mono (Ws.bnd w) fun r G1 H1 e1 s1 S1 w1 => ?_)
  unfold gOwn at w1
  cases q : e1[i]? with
  | none => rw [q] at w1; exact w1.elim
  | some s =>
    have hi := (List.getElem?_eq_some_iff.mp q).1
    rw [q] at w1
    have nio : (∀ y, s ≠ .io y) → ∀ y, e1[i]? ≠ some (.io y) := fun h y z => by rw [q] at z; cases z; exact h y rfl
    cases r with
    | sh d =>
      intro v rv
      cases s with
      | io _ => exact w1.elim
      | no => exact w1 G1 _ H1 (Same.refl _) (S1.setSh rv hi (nio fun _ z => nomatch z))
      | sh _ => exact w1 G1 _ H1 (Same.refl _) (S1.setSh rv hi (nio fun _ z => nomatch z))
      | ow _ => exact w1 G1 _ H1 (Same.refl _) (S1.setSh rv hi (nio fun _ z => nomatch z))
    | ow y =>
      intro b gb c h0 hF ap
      cases s with
      | io _ => exact w1.elim
      | no => exact w1 G1 _ H1 (Same.refl _) (S1.setOw gb c h0 hF ap hi (nio fun _ z => nomatch z))
      | sh _ => exact w1 G1 _ H1 (Same.refl _) (S1.setOw gb c h0 hF ap hi (nio fun _ z => nomatch z))
      | ow _ => exact w1 G1 _ H1 (Same.refl _) (S1.setOw gb c h0 hF ap hi (nio fun _ z => nomatch z))
/-- targets = e -/
theorem ds_asg {tg a : Expr} {m : M D} {g : D → M Unit} {gs : List Nat} (hg : DG I W tg g gs) (hne : ∀ d e c fs e', g d e ≠ .ex c fs e') (h : DE I W a m) (hs : ∀ env : Env, swapsWithSole [tg] a pos.line env = pure false) (hw : ∀ env : Env, env.scope = I.sc → swappedStores [tg] a env = pure none) (n : nstG tg = true) :
    DS I W (.Assign [tg] a pos) (sAsg m g) := by
  obtain ⟨t, h1, h2⟩ := h
  obtain ⟨tg', g1, g2⟩ := hg
  refine ⟨tAsg t tg', fun X ok => ps_asg (h1 X ok) (g1 X ok) (hs X.env) (hw X.env ok.hsc) (by rw [assignEach_cons n]; rfl), fun p G σ H e E S w => ?_⟩
  refine h2 p G σ H e _ S (Wp.mono (Ws.bnd w) fun d G1 H1 e1 s1 S1 w1 v r => ?_)
  exact g2 p G1 σ H1 e1 v d _ S1 r (wg_dif (ws_g w1 (hne d e1)))
end
end DL
end

section
namespace DL
open PySem PySem.Spec L2
open PyProof.Rows hiding St

/-! ### what is walked -/
/-- J hands out these, one a turn, wherever the values' world is at least G -/
def IterOk (K : PySem.W.Frag) (mg : MG) (J : It) (G : Hp) (ds : List D) : Prop := ∀ (p : Pm) G' σ H e, Same G G' → Srp K mg p G' σ H e → ∀ i : Nat,
  (i = ds.length → J.stop i H) ∧ ∀ d, ds[i]? = some d → J.go i H ∧ ∀ x H2, J.yld i H x H2 → ∃ G2, Same G' G2 ∧ Srp K mg p G2 σ H2 e ∧ Rep K mg G2 x d ∧ ∀ a o, H a = some o → H2 a = some o
def SimI (I : CI) (W : WX) (w : TI) (m : M (List D)) : Prop := ∀ (p : Pm) G σ H e (R : It → Hp → Prop), Srp I.K I.mg p G σ H e → Wp I.K I.mg W p G σ (m e) (fun ds G' H' _ => ∀ J, IterOk I.K I.mg J G' ds → R J H') → w σ H R
def DI (I : CI) (W : WX) (tg iter : Expr) (m : M (List D)) : Prop := ∃ w, (∀ X, Okx I W X → PI X tg iter w) ∧ SimI I W w m
section
variable {I : CI} {W : WX} {tg a b c : Expr} {pos p0 : Pos} {n : M Fl}
theorem iter_lst {K : PySem.W.Frag} {mg : MG} {G : Hp} {q : Addr} {vs : List V} {l : List D} (h : LsT K G q vs) (r : Reps K mg G vs l) : IterOk K mg (Itl K q) G l := by
  intro p G' σ H e s S i
  have hS : SqL K H q vs := LsT.sq (Same.ls S.sub (Same.ls s h))
  refine ⟨fun ei => ⟨vs, hS, by rw [r.1, ei]; exact Nat.le_refl _⟩, fun d hd => ?_⟩
  obtain ⟨v, hv, rv⟩ := r.get hd
  refine ⟨⟨vs, v, hS, hv⟩, fun x H2 y => ?_⟩
  obtain ⟨rfl, f⟩ := y
  have := f vs hS
  rw [hv] at this; cases this
  exact ⟨G', Same.refl _, S, rv.mono s, fun _ _ h => h⟩
theorem iter_tup {K : PySem.W.Frag} {mg : MG} {G : Hp} {q : Addr} {vs : List V} {l : List D} (h : SqT K G q vs) (r : Reps K mg G vs l) : IterOk K mg (Itt K q) G l := by
  intro p G' σ H e s S i
  have hS : SqT K H q vs := Same.seqT S.sub (Same.seqT s h)
  refine ⟨fun ei => ⟨vs, hS, by rw [r.1, ei]; exact Nat.le_refl _⟩, fun d hd => ?_⟩
  obtain ⟨v, hv, rv⟩ := r.get hd
  refine ⟨⟨vs, v, hS, hv⟩, fun x H2 y => ?_⟩
  obtain ⟨rfl, f⟩ := y
  have := f vs hS
  rw [hv] at this; cases this
  exact ⟨G', Same.refl _, S, rv.mono s, fun _ _ h => h⟩
def iLst (m : M D) : M (List D) := M.bnd m fun d => match d with
  | .lst l => M.ret l
  | _ => fun _ => .no
def iTupM (m : M D) : M (List D) := M.bnd m fun d => match d with
  | .tup l => M.ret l
  | _ => fun _ => .no
theorem di_lst {m : M D} (h : DE I W a m) : DI I W tg a (iLst m) := by
  obtain ⟨t, h1, h2⟩ := h
  refine ⟨iList I.K t, fun X ok => (by have := pi_list (tg := tg) (h1 X ok); rw [ok.hK] at this; exact this), fun p G σ H e R S w => ?_⟩
  refine h2 p G σ H e _ S (Wp.mono (Wp.bnd w) fun d G1 H1 e1 s1 S1 w1 v r => ?_)
  cases r <;> first | exact w1.elim | skip
  rename_i q vs l k1 k2 k3
  exact ⟨q, rfl, ⟨vs, LsT.sq (Same.ls S1.sub k1)⟩, w1 G1 H1 (Same.refl _) S1 _ (iter_lst k1 ⟨k2, k3⟩)⟩
theorem di_tup {m : M D} (h : DE I W a m) : DI I W tg a (iTupM m) := by
  obtain ⟨t, h1, h2⟩ := h
  refine ⟨iTup I.K t, fun X ok => (by have := pi_tup (tg := tg) (h1 X ok); rw [ok.hK] at this; exact this), fun p G σ H e R S w => ?_⟩
  refine h2 p G σ H e _ S (Wp.mono (Wp.bnd w) fun d G1 H1 e1 s1 S1 w1 v r => ?_)
  cases r <;> first | exact w1.elim | skip
  rename_i q vs l k1 k2 k3
  exact ⟨q, rfl, ⟨vs, Same.seqT S1.sub k1⟩, w1 G1 H1 (Same.refl _) S1 _ (iter_tup k1 ⟨k2, k3⟩)⟩
/-- ranges -/
def rngL (lo : Int) (k : Nat) : List D := (List.range k).map fun i : Nat => .int (lo + i)
theorem iter_rng {K : PySem.W.Frag} {mg : MG} {G : Hp} {lo : Int} {k : Nat} : IterOk K mg (Itr lo k) G (rngL lo k) := by
  intro p G' σ H e s S i
  refine ⟨fun ei => ?_, fun d hd => ?_⟩
  · show k ≤ i
    rw [ei]; simp [rngL]
  · unfold rngL at hd
    rw [List.getElem?_map] at hd
    cases z : (List.range k)[i]? with
    | none => rw [z] at hd; cases hd
    | some j =>
      rw [z] at hd
      obtain ⟨hj, ej⟩ := List.getElem?_eq_some_iff.mp z
      simp at hj ej
      subst ej
      have : d = .int (lo + i) := (Option.some.inj hd).symm
      subst this
      refine ⟨hj, fun x H2 y => ?_⟩
      obtain ⟨rfl, rfl⟩ := y
      exact ⟨G', Same.refl _, S, .int _, fun _ _ h => h⟩
def small62 (i : Int) : Bool := decide (-(2 ^ 62) ≤ i) && decide (i < 2 ^ 62)
theorem small62_ok {i : Int} (h : small62 i = true) : -(2 ^ 62) ≤ i ∧ i < 2 ^ 62 := by
  unfold small62 at h
  simp only [Bool.and_eq_true, decide_eq_true_eq] at h
  exact h
def iRng1M (m : M (List Ar)) : M (List D) := M.bnd (aVals m) fun ds => match ds with
  | [.int j] => if small62 j then M.ret (rngL 0 j.toNat) else fun _ => .no
  | _ => fun _ => .no
def iRng2M (m : M (List Ar)) : M (List D) := M.bnd (aVals m) fun ds => match ds with
  | [.int i, .int j] => if small62 i && small62 j then M.ret (rngL i (j - i).toNat) else fun _ => .no
  | _ => fun _ => .no
theorem reps1 {K : PySem.W.Frag} {mg : MG} {G : Hp} {vs : List V} {d : D} (r : Reps K mg G vs [d]) : ∃ v, vs = [v] ∧ Rep K mg G v d := by
  obtain ⟨v, vr, rfl, h, t⟩ := r.uncons
  have := t.1
  simp at this
  subst this
  exact ⟨v, rfl, h⟩
theorem reps2 {K : PySem.W.Frag} {mg : MG} {G : Hp} {vs : List V} {d d' : D} (r : Reps K mg G vs [d, d']) : ∃ v v', vs = [v, v'] ∧ Rep K mg G v d ∧ Rep K mg G v' d' := by
  obtain ⟨v, vr, rfl, h, t⟩ := r.uncons
  obtain ⟨v', rfl, h'⟩ := reps1 t
  exact ⟨v, v', rfl, h, h'⟩
theorem rep_int {K : PySem.W.Frag} {mg : MG} {G : Hp} {v : V} {i : Int} (r : Rep K mg G v (.int i)) : v = .int i := by cases r; rfl
theorem di_rng1 {m : M (List Ar)} (g : I.sc.names.lookup ("range" : Str) = some .globalImplicit) (hm : I.mg ("range" : Str) = none) (h : DP I W [a] m) : DI I W tg (.Call (.Name "range" p0) [a] [] pos) (iRng1M m) := by
  obtain ⟨n, t, h1, h2⟩ := h
  have n2 : nst a = true := by simpa using n
  refine ⟨iRng1 t, fun X ok => pi_range1 (gl_of ok.hsc g) (by rw [ok.hmg]; exact hm) (h1 X ok) (star_of n2 _ _), fun p G σ H e R S w => ?_⟩
  refine simA_of h2 p G σ H e _ S (Wp.mono (Wp.bnd w) fun ds G1 H1 e1 s1 S1 w1 vs r => ?_)
  match ds, w1, r with
  | [.int j], w1, r =>
    obtain ⟨v, rfl, rv⟩ := reps1 r
    have := rep_int rv; subst this
    dsimp only at w1
    split at w1
    · rename_i z
      obtain ⟨z1, z2⟩ := small62_ok z
      exact ⟨j, rfl, z1, z2, w1 G1 H1 (Same.refl _) S1 _ iter_rng⟩
    · exact w1.elim
theorem di_rng2 {m : M (List Ar)} (g : I.sc.names.lookup ("range" : Str) = some .globalImplicit) (hm : I.mg ("range" : Str) = none) (h : DP I W [a, b] m) : DI I W tg (.Call (.Name "range" p0) [a, b] [] pos) (iRng2M m) := by
  obtain ⟨n, t, h1, h2⟩ := h
  have n2 : nst a = true ∧ nst b = true := by simpa using n
  refine ⟨iRng2 t, fun X ok => pi_range2 (gl_of ok.hsc g) (by rw [ok.hmg]; exact hm) (h1 X ok) (by rw [star_of n2.1, star_of n2.2]; rfl) (star_of n2.2 _ _), fun p G σ H e R S w => ?_⟩
  refine simA_of h2 p G σ H e _ S (Wp.mono (Wp.bnd w) fun ds G1 H1 e1 s1 S1 w1 vs r => ?_)
  match ds, w1, r with
  | [.int i, .int j], w1, r =>
    obtain ⟨v, v', rfl, rv, rv'⟩ := reps2 r
    have := rep_int rv; subst this
    have := rep_int rv'; subst this
    dsimp only at w1
    split at w1
    · rename_i z
      simp only [Bool.and_eq_true] at z
      obtain ⟨z1, z2⟩ := small62_ok z.1
      obtain ⟨z3, z4⟩ := small62_ok z.2
      exact ⟨i, j, rfl, ⟨z1, z2, z3, z4⟩, w1 G1 H1 (Same.refl _) S1 _ iter_rng⟩
    · exact w1.elim

/-! ### for -/
def loopF (g : D → M Unit) (body : M Fl) : List D → M Fl
  | [] => M.ret .nx
  | d :: ds => M.bnd (g d) fun _ => M.bnd body fun fl => match fl with
    | .nx => loopF g body ds
    | .ct => loopF g body ds
    | .bk => M.ret .nx
    | .rt r => M.ret (.rt r)
def sFor (mi : M (List D)) (g : D → M Unit) (body : M Fl) : M Fl := M.bnd mi fun ds => loopF g body ds
theorem for_sim {wi : TI} {tg' : TG} {tb : TS} {mi : M (List D)} {g : D → M Unit} (hi : SimI I W wi mi) {gs : List Nat} (hg : SimG I W tg' g gs) (hne : ∀ d e c fs e', g d e ≠ .ex c fs e') (hb : SimS I W tb n) : SimS I W (tFor wi tg' tb) (sFor mi g n) := by
  intro p G σ H e E S w
  refine hi p G σ H e _ S (Wp.mono (Ws.bnd w) fun ds G1 H1 e1 s1 S1 w1 J hJ => ?_)
  refine ⟨fun i m σ' H' => m = ds.length - i ∧ i ≤ ds.length ∧ ∃ G' e', Same G1 G' ∧ Srp I.K I.mg p G' σ' H' e' ∧ Ws I.K I.mg W p G' (loopF g n (ds.drop i) e') E,
    ⟨ds.length, by simp, Nat.zero_le _, G1, e1, Same.refl _, S1, by simpa using w1⟩, ?_⟩
  rintro i m σ' H' ⟨rfl, hi', G', e', s', S', w'⟩
  obtain ⟨st, go⟩ := hJ p G' σ' H' e' s' S' i
  by_cases hl : i < ds.length
  · have hd := List.getElem?_eq_getElem hl
    obtain ⟨g1, g2⟩ := go _ hd
    refine .inr ⟨g1, fun σ2 H2 => ∃ m', m' < ds.length - i ∧ (m' = ds.length - (i + 1) ∧ i + 1 ≤ ds.length ∧ ∃ G' e', Same G1 G' ∧ Srp I.K I.mg p G' σ2 H2 e' ∧ Ws I.K I.mg W p G' (loopF g n (ds.drop (i + 1)) e') E), fun σ2 H2 h => h, fun x H2 y => ?_⟩
    obtain ⟨G2, t1, S2, r2, _⟩ := g2 x H2 y
    rw [List.drop_eq_getElem_cons hl] at w'
    have w3 := Ws.up w' t1
    unfold loopF M.bnd at w3
    refine hg p G2 σ' H2 e' x _ _ S2 r2 ?_
    cases z : g ds[i] e' with
    | no => rw [z] at w3; exact w3.elim
    | ex c fs e2 => exact absurd z (hne _ _ c fs e2)
    | ok _ e2 =>
      rw [z] at w3
      dsimp only at w3
      intro G3 σ3 H3 t3 S3 _
      refine hb p G3 σ3 H3 e2 _ S3 ?_
      have w4 := Ws.up w3 t3
      have nx : ∀ {fl : Fl} {e4 : En}, (fl = .nx ∨ fl = .ct) → n e2 = .ok fl e4 → ∀ G4 σ4 H4, Same G3 G4 → Srp I.K I.mg p G4 σ4 H4 e4 →
          ∃ m', m' < ds.length - i ∧ (m' = ds.length - (i + 1) ∧ i + 1 ≤ ds.length ∧ ∃ G' e', Same G1 G' ∧ Srp I.K I.mg p G' σ4 H4 e' ∧ Ws I.K I.mg W p G' (loopF g n (ds.drop (i + 1)) e') E) := fun {fl e4} hf q G4 σ4 H4 t4 S4 => by
        refine ⟨_, by omega, rfl, hl, G4, e4, s'.trans (t1.trans (t3.trans t4)), S4, ?_⟩
        rw [q] at w4
        rcases hf with rfl | rfl
        · exact Ws.up w4 t4
        · exact Ws.up w4 t4
      cases q : n e2 with
      | no => rw [q] at w4; exact w4.elim
      | ex c fs e4 => rw [q] at w4; exact w4
      | ok fl e4 =>
        intro G4 σ4 H4 t4 S4
        cases fl with
        | nx => exact nx (.inl rfl) q G4 σ4 H4 t4 S4
        | ct => exact nx (.inr rfl) q G4 σ4 H4 t4 S4
        | bk => rw [q] at w4; exact w4 G4 σ4 H4 t4 S4
        | rt r => rw [q] at w4; exact w4 G4 σ4 H4 t4 S4
  · have ei : i = ds.length := by omega
    refine .inl ⟨st ei, ?_⟩
    rw [List.drop_eq_nil_of_le (by omega)] at w'
    exact w' G' σ' H' (Same.refl _) S'
theorem ds_for {iter : Expr} {body : List Stmt} {mi : M (List D)} {g : D → M Unit} (hi : DI I W tg iter mi) {gs : List Nat} (hg : DG I W tg g gs) (hne : ∀ d e c fs e', g d e ≠ .ex c fs e') (hb : DSs I W body n)
    (hs : ∀ (env : Env) x, foldedSetIterable iter env x = pure x) : DS I W (.For tg iter body [] pos) (sFor mi g n) := by
  obtain ⟨w, i1, i2⟩ := hi
  obtain ⟨t, g1, g2⟩ := hg
  obtain ⟨u, b1, b2⟩ := hb
  exact ⟨tFor w t u, fun X ok => ps_for ok.passes ok.calm (i1 X ok) (g1 X ok) (b1 X ok) (hs X.env), for_sim i2 g2 hne b2⟩
/-! ### while -/
def loopW (c : M Bool) (body : M Fl) : Nat → M Fl
  | 0 => fun _ => .no
  | k + 1 => M.bnd c fun b => if b = true then M.bnd body fun fl => (match fl with
    | .nx => loopW c body k
    | .ct => loopW c body k
    | .bk => M.ret .nx
    | .rt r => M.ret (.rt r)) else M.ret .nx
theorem while_sim {tc : TT} {tb : TS} {mc : M Bool} (k : Nat) (hc : SimT I W tc mc) (hb : SimS I W tb n) : SimS I W (tWhile tc tb) (loopW mc n k) := by
  intro p G σ H e E S w
  refine ⟨fun m σ' H' => ∃ G' e', Srp I.K I.mg p G' σ' H' e' ∧ Ws I.K I.mg W p G' (loopW mc n m e') E, ⟨k, G, e, S, w⟩, ?_⟩
  rintro m σ' H' ⟨G', e', S', w'⟩
  cases m with
  | zero => exact w'.elim
  | succ m =>
    refine hc p G' σ' H' e' _ S' (Wp.mono (Ws.bnd w') fun b G1 H1 e1 s1 S1 w1 => ?_)
    cases b with
    | false =>
      rw [if_neg Bool.false_ne_true] at w1 ⊢
      exact w1 G1 σ' H1 (Same.refl _) S1
    | true =>
      rw [if_pos rfl] at w1 ⊢
      refine ⟨fun σ2 H2 => ∃ m', m' < m + 1 ∧ ∃ G' e', Srp I.K I.mg p G' σ2 H2 e' ∧ Ws I.K I.mg W p G' (loopW mc n m' e') E, fun _ _ h => h, ?_⟩
      refine hb p G1 σ' H1 e1 _ S1 ?_
      unfold M.bnd at w1
      cases q : n e1 with
      | no => rw [q] at w1; exact w1.elim
      | ex c fs e4 => rw [q] at w1; exact w1
      | ok fl e4 =>
        rw [q] at w1
        intro G4 σ4 H4 t4 S4
        cases fl with
        | nx => exact ⟨m, Nat.lt_succ_self _, G4, e4, S4, Ws.up w1 t4⟩
        | ct => exact ⟨m, Nat.lt_succ_self _, G4, e4, S4, Ws.up w1 t4⟩
        | bk => exact w1 G4 σ4 H4 t4 S4
        | rt r => exact w1 G4 σ4 H4 t4 S4
theorem ds_while {c : Expr} {body : List Stmt} {mc : M Bool} (k : Nat) (hc : DT I W c mc) (hb : DSs I W body n) : DS I W (.While c body [] pos) (loopW mc n k) := by
  obtain ⟨t, h1, h2⟩ := hc
  obtain ⟨u, b1, b2⟩ := hb
  exact ⟨_, fun X ok => ps_while ok.passes (h1 X ok) (b1 X ok), while_sim k h2 b2⟩
end
end DL
end

section
namespace DL
open PySem PySem.Spec L2
open PyProof.Rows hiding St

/-! ### a thing that stands apart -/
structure Tmp (p : Pm) (G : Hp) (σ : L2.St) (e : En) (q : Addr) : Prop where
  g : G q = none
  h0 : p.H0 q = none
  f : p.F q = none
  ap : ∀ (i : Nat) s y, e[i]? = some s → s.own = some y → σ[i]? ≠ some (some (V.ref q))
section
variable {K : PySem.W.Frag} {mg : MG} {p : Pm} {G G' H H' : Hp} {σ σ2 : L2.St} {e e2 : En} {q : Addr} {o : HO}
abbrev Pm.hold (p : Pm) (q : Addr) (o : HO) : Pm := { p with F := upd p.F q o }
theorem Sr.protect (S : Srp K mg p G σ H e) (T : Tmp p G σ e q) (h : H q = some o) : Srp K mg (p.hold q o) G σ H e := by
  refine ⟨S.sub, S.len, S.sh, S.ow, S.io, S.ap, S.fr, S.nw, S.of, S.dm, fun a u z => ?_, fun i s x a h1 h2 h3 => ?_⟩
  · by_cases ha : a = q
    · subst ha
      have z' : upd p.F a o a = some u := z
      rw [upd_same] at z'; cases z'
      exact ⟨h, T.g⟩
    · have z' : upd p.F q o a = some u := z
      rw [upd_ne ha] at z'
      exact S.kp a u z'
  · show upd p.F q o a = none
    rw [upd_ne (fun z => by subst z; exact T.ap i s x h1 h2 h3)]
    exact S.ka i s x a h1 h2 h3
theorem Sr.unprotect (S : Srp K mg (p.hold q o) G σ H e) (h0 : p.H0 q = none) (hf : p.F q = none) : Srp K mg p G σ H e ∧ Tmp p G σ e q ∧ H q = some o := by
  have kq := S.kp q o upd_same
  refine ⟨⟨S.sub, S.len, S.sh, S.ow, S.io, S.ap, S.fr, S.nw, S.of, S.dm, fun a u z => S.kp a u ?_, fun i s x a h1 h2 h3 => ?_⟩, ⟨kq.2, h0, hf, fun i s y h1 h2 h3 => ?_⟩, kq.1⟩
  · show upd p.F q o a = some u
    rw [upd_ne (fun w => by rw [w, hf] at z; cases z)]
    exact z
  · have := S.ka i s x a h1 h2 h3
    by_cases ha : a = q
    · subst ha; exact hf
    · have z' : upd p.F q o a = none := this
      rw [upd_ne ha] at z'
      exact z'
  · have := S.ka i s y q h1 h2 h3
    have z' : upd p.F q o q = none := this
    rw [upd_same] at z'; cases z'
theorem Sr.poke (S : Srp K mg p G σ H e) (T : Tmp p G σ e q) {o' : HO} (h : H q = some o) (no : ∀ c, o ≠ .own c) : Srp K mg p G σ (upd H q o') e := by
  refine ⟨fun a u z => ?_, S.len, S.sh, fun i s x h1 h2 => ?_, S.io, S.ap, fun a u h1 h2 => ?_, S.nw, S.of, fun a z => ?_, fun a u z => ?_, S.ka⟩
  · rw [upd_ne (fun w => by rw [w, T.g] at z; cases z)]
    exact S.sub a u z
  · obtain ⟨a, k1, k2, k3⟩ := S.ow i s x h1 h2
    refine ⟨a, k1, k2, k3.keep fun b u hb hc => (upd_ne fun w => ?_).trans hb⟩
    subst w
    rcases hc with hc | hc
    · subst hc; exact T.ap i s x h1 h2 k1
    · rw [h] at hb; cases hb
      exact no _ hc
  · rw [upd_ne (fun w => by rw [w, T.h0] at h1; cases h1)]
    exact S.fr a u h1 h2
  · by_cases ha : a = q
    · subst ha; rw [upd_same] at z; cases z
    · rw [upd_ne ha] at z; exact S.dm a z
  · obtain ⟨k1, k2⟩ := S.kp a u z
    exact ⟨by rw [upd_ne (fun w => by rw [w, T.f] at z; cases z)]; exact k1, k2⟩
/-! ### a block's names -/
def wipeE (e : En) : List Nat → En
  | [] => e
  | v :: vs => (wipeE e vs).set v .no
def backE (e e0 : En) : List Nat → En
  | [] => e
  | v :: vs => (backE e e0 vs).set v (e0.getD v .no)
theorem Sr.wipe1 (S : Srp K mg p G σ H e) (v : Nat) : Srp K mg p G (σ.set v none) H (e.set v .no) := by
  have no : ∀ {j : Nat} {s : Sl}, (e.set v .no)[j]? = some s → s ≠ .no → j ≠ v ∧ e[j]? = some s := fun {j s} q ns => by
    by_cases hj : v = j
    · subst hj
      by_cases hi : v < e.length
      · rw [List.getElem?_set_self hi] at q; cases q; exact absurd rfl ns
      · rw [List.getElem?_eq_none (by simpa using hi)] at q; cases q
    · rw [List.getElem?_set_ne hj] at q; exact ⟨fun z => hj z.symm, q⟩
  have own : ∀ {s : Sl} {x : Ct}, s.own = some x → s ≠ .no := fun {s x} q z => by subst z; cases q
  have sg : ∀ {j : Nat}, j ≠ v → (σ.set v none)[j]? = σ[j]? := fun {j} h => List.getElem?_set_ne (fun z => h z.symm)
  refine ⟨S.sub, by simp [S.len], fun i d q => ?_, fun i s x h1 h2 => ?_, fun i x h1 => ?_, fun i j s t x y a h1 h2 h3 h4 h5 h6 => ?_, S.fr, S.nw, fun i x a h1 h2 => ?_, S.dm, S.kp, fun i s x a h1 h2 h3 => ?_⟩
  · obtain ⟨k1, k2⟩ := no q (fun z => nomatch z)
    rw [sg k1]; exact S.sh i d k2
  · obtain ⟨k1, k2⟩ := no h1 (own h2)
    rw [sg k1]; exact S.ow i s x k2 h2
  · obtain ⟨k1, k2⟩ := no h1 (fun z => nomatch z)
    rw [sg k1]; exact S.io i x k2
  · obtain ⟨k1, k2⟩ := no h1 (own h3)
    obtain ⟨g1, g2⟩ := no h2 (own h4)
    rw [sg k1] at h5; rw [sg g1] at h6
    exact S.ap i j s t x y a k2 g2 h3 h4 h5 h6
  · obtain ⟨k1, k2⟩ := no h1 (fun z => nomatch z)
    rw [sg k1] at h2; exact S.of i x a k2 h2
  · obtain ⟨k1, k2⟩ := no h1 (own h2)
    rw [sg k1] at h3; exact S.ka i s x a k2 h2 h3
theorem Sr.wipe (S : Srp K mg p G σ H e) : ∀ vs : List Nat, Srp K mg p G (L2.wipe σ vs) H (wipeE e vs)
  | [] => S
  | v :: vs => (Sr.wipe S vs).wipe1 v
theorem wipe_get : ∀ (vs : List Nat) (σ : L2.St) (i : Nat), (L2.wipe σ vs)[i]? = if i ∈ vs then (if i < σ.length then some none else none) else σ[i]?
  | [], σ, i => by simp [L2.wipe]
  | v :: vs, σ, i => by
    unfold L2.wipe
    by_cases h : v = i
    · subst h
      simp only [List.mem_cons, true_or, if_true]
      by_cases hl : v < σ.length
      · rw [if_pos hl, List.getElem?_set_self (by rw [wipe_length]; exact hl)]
      · rw [if_neg hl, List.getElem?_eq_none (by rw [List.length_set, wipe_length]; omega)]
    · rw [List.getElem?_set_ne h, wipe_get vs σ i]
      have : (i ∈ v :: vs) ↔ i ∈ vs := by
        simp only [List.mem_cons]
        exact ⟨fun z => z.resolve_left fun w => h w.symm, .inr⟩
      simp only [this]
theorem wipe_same {vs gs : List Nat} (hs : ∀ i ∈ gs, i ∈ vs) (d : Dif gs (L2.wipe σ vs) σ2) : L2.wipe σ2 vs = L2.wipe σ vs := by
  have hl : σ2.length = σ.length := d.1.trans (wipe_length σ vs)
  refine List.ext_getElem? fun i => ?_
  rw [wipe_get, wipe_get, hl]
  by_cases hi : i ∈ vs
  · rw [if_pos hi, if_pos hi]
  · rw [if_neg hi, if_neg hi, d.2 i fun z => hi (hs i z), wipe_get, if_neg hi]
theorem backE_len (e e0 : En) : ∀ vs : List Nat, (backE e e0 vs).length = e.length
  | [] => rfl
  | v :: vs => by unfold backE; rw [List.length_set, backE_len e e0 vs]
theorem wipeE_len (e : En) : ∀ vs : List Nat, (wipeE e vs).length = e.length
  | [] => rfl
  | v :: vs => by unfold wipeE; rw [List.length_set, wipeE_len e vs]
theorem backE_get : ∀ (vs : List Nat) (e e0 : En) (i : Nat), e.length = e0.length → (backE e e0 vs)[i]? = if i ∈ vs then e0[i]? else e[i]?
  | [], e, e0, i, _ => by simp [backE]
  | v :: vs, e, e0, i, hl => by
    unfold backE
    by_cases h : v = i
    · subst h
      simp only [List.mem_cons, true_or, if_true]
      by_cases hv : v < e.length
      · rw [List.getElem?_set_self (by rw [backE_len]; exact hv), List.getD_eq_getElem?_getD, List.getElem?_eq_getElem (by omega)]
        rfl
      · rw [List.getElem?_eq_none (by rw [List.length_set, backE_len]; omega), List.getElem?_eq_none (by omega)]
    · rw [List.getElem?_set_ne h, backE_get vs e e0 i hl]
      have : (i ∈ v :: vs) ↔ i ∈ vs := by
        simp only [List.mem_cons]
        exact ⟨fun z => z.resolve_left fun w => h w.symm, .inr⟩
      simp only [this]
/-- none of these names owns a thing -/
def noOwn (e : En) (vs : List Nat) : Bool := vs.all fun v => (e.getD v .no).own.isNone
/-- behind a block's turn, out of the block -/
theorem Sr.back {vs : List Nat} (S0 : Srp K mg p G σ H e) (S : Srp K mg p G' σ2 H' e2) (s : Same G G') (hw : L2.wipe σ2 vs = L2.wipe σ vs) (hl : e2.length = e.length) (hn : noOwn e vs = true) : Srp K mg p G' σ H' (backE e2 e vs) := by
  have out : ∀ {i : Nat}, i ∉ vs → σ2[i]? = σ[i]? := fun {i} hi => by
    have := congrArg (fun z : L2.St => z[i]?) hw
    simp only [wipe_get, if_neg hi] at this
    exact this
  have gt : ∀ {i : Nat} {t : Sl}, (backE e2 e vs)[i]? = some t → (i ∉ vs ∧ e2[i]? = some t) ∨ (i ∈ vs ∧ e[i]? = some t ∧ t.own = none) := fun {i t} q => by
    rw [backE_get _ _ _ _ hl] at q
    by_cases hi : i ∈ vs
    · rw [if_pos hi] at q
      refine .inr ⟨hi, q, ?_⟩
      unfold noOwn at hn
      have := List.all_eq_true.mp hn i hi
      rw [List.getD_eq_getElem?_getD, q] at this
      simpa using this
    · rw [if_neg hi] at q
      exact .inl ⟨hi, q⟩
  have own : ∀ {i : Nat} {t : Sl} {x : Ct}, (backE e2 e vs)[i]? = some t → t.own = some x → i ∉ vs ∧ e2[i]? = some t := fun {i t x} q h => by
    rcases gt q with z | ⟨_, _, z⟩
    · exact z
    · rw [h] at z; cases z
  refine ⟨S.sub, by rw [backE_len, hl]; exact S0.len, fun i d q => ?_, fun i t x h1 h2 => ?_, fun i x h1 => ?_, fun i j t u x y a h1 h2 h3 h4 h5 h6 => ?_, S.fr, S.nw, fun i x a h1 h2 => ?_, S.dm, S.kp, fun i t x a h1 h2 h3 => ?_⟩
  · rcases gt q with ⟨k1, k2⟩ | ⟨_, k2, _⟩
    · rw [← out k1]; exact S.sh i d k2
    · obtain ⟨v, g1, g2⟩ := S0.sh i d k2
      exact ⟨v, g1, g2.mono s⟩
  · obtain ⟨k1, k2⟩ := own h1 h2
    rw [← out k1]; exact S.ow i t x k2 h2
  · obtain ⟨k1, k2⟩ := own h1 rfl
    rw [← out k1]; exact S.io i x k2
  · obtain ⟨k1, k2⟩ := own h1 h3
    obtain ⟨g1, g2⟩ := own h2 h4
    rw [← out k1] at h5; rw [← out g1] at h6
    exact S.ap i j t u x y a k2 g2 h3 h4 h5 h6
  · obtain ⟨k1, k2⟩ := own h1 rfl
    rw [← out k1] at h2; exact S.of i x a k2 h2
  · obtain ⟨k1, k2⟩ := own h1 h2
    rw [← out k1] at h3; exact S.ka i t x a k2 h2 h3
end

/-! ### list comprehensions -/
def turnC (g : D → M Unit) (t : M Bool) (m : M D) (d : D) : M (Option D) := M.bnd (g d) fun _ => M.bnd t fun b => if b = true then M.bnd m fun y => M.ret (some y) else M.ret none
def compF (g : D → M Unit) (t : M Bool) (m : M D) (vs : List Nat) : List D → List D → M (List D)
  | [], acc => M.ret acc
  | d :: ds, acc => fun e => if noOwn e vs then (match turnC g t m d (wipeE e vs) with
    | .ok (some y) e' => compF g t m vs ds (acc ++ [y]) (backE e' e vs)
    | .ok none e' => compF g t m vs ds acc (backE e' e vs)
    | _ => .no) else .no
def rComp (mi : M (List D)) (g : D → M Unit) (t : M Bool) (m : M D) (vs : List Nat) : M Ret := M.bnd mi fun ds => if ds.length ≤ LIM then M.bnd (compF g t m vs ds []) fun l => M.ret (.ow (.l l)) else fun _ => .no
abbrev W0 : WX := fun _ _ _ _ => False
def CI.blk (I : CI) (scope : Scope) : CI := { I with sc := relS scope I.sc, fn := fun x => scope.names.lookup x == some .cell }
theorem okx_blk {I : CI} {W : WX} {X : Cx} (ok : Okx I W X) (scope : Scope) (s : Shared) (H : Hp) (C : Addr) (cl : List (Str × Addr)) (fp : List Addr) : Okx (I.blk scope) W0 (X.blk s H scope (compEnvC scope cl C X.env) fp) := by
  refine ⟨ok.hP, ok.hw, ok.hK, ok.hmg, ok.hbase, ok.hN, ?_, rfl, ok.nd, ok.calm, ok.room, takes0, .never⟩
  show (compEnvC scope cl C X.env).scope = relS scope I.sc
  rw [← ok.hsc]
  rfl
section
variable {I : CI} {W : WX} {tg iter elt : Expr} {ifs : List Expr} {scope : Scope} {pos : Pos}
def DTs (I : CI) (W : WX) (ifs : List Expr) (m : M Bool) : Prop := ∃ t, (∀ X, Okx I W X → PTs X ifs t) ∧ SimT I W t m
theorem dts_nil : DTs I W [] (M.ret true) := ⟨tYes, fun _ _ => pts_nil, fun p G σ H e Q S w => w G H (Same.refl _) S⟩
theorem dts_one {c : Expr} {m : M Bool} (h : DT I W c m) : DTs I W [c] m := let ⟨t, h1, h2⟩ := h; ⟨t, fun X ok => pts_one (h1 X ok), h2⟩
theorem comp_sim {wi : TI} {tg' : TG} {tt : TT} {te : TE} {mi : M (List D)} {g : D → M Unit} {gs vs : List Nat} {t : M Bool} {m : M D} (hi : SimI I W wi mi) (hg : SimG (I.blk scope) W0 tg' g gs) (hgs : ∀ i ∈ gs, i ∈ vs)
    (ht : SimT (I.blk scope) W0 tt t) (he : SimE (I.blk scope) W0 te m) : SimR I W (tLc wi tg' tt te vs) (rComp mi g t m vs) := by
  intro p G σ H e Q S w
  refine hi p G σ H e _ S (Wp.mono (Wp.bnd w) fun ds G1 H1 e1 s1 S1 w1 J hJ => ?_)
  intro q nq
  split at w1
  case isFalse => exact w1.elim
  rename_i hlim
  have w1 := Wp.bnd w1
  obtain ⟨S1', gq, hq0, hqF, hqa⟩ := S1.laidOw (o := .lst []) nq
  have ll := lim_line
  -- between the turns
  refine ⟨fun i k H' => k = ds.length - i ∧ i ≤ ds.length ∧ ∃ G' e' av ad, Same G1 G' ∧ Srp I.K I.mg p G' σ H' e' ∧ Tmp p G' σ e' q ∧ H' q = some (.lst av) ∧ Reps I.K I.mg G' av ad ∧ ad.length ≤ i ∧
      Wp I.K I.mg W p G' σ (compF g t m vs (ds.drop i) ad e') (fun l G2 H2 e2 => Wp I.K I.mg W p G2 σ (M.ret (Ret.ow (Ct.l l)) e2) fun r G3 H3 e3 => RetK I.K I.mg p G3 σ H3 e3 Q r),
    ⟨ds.length, by simp, Nat.zero_le _, G1, e1, [], [], Same.refl _, S1', ⟨gq, hq0, hqF, hqa⟩, upd_same, Reps.nil, Nat.zero_le _, by simpa using w1⟩, ?_⟩
  rintro i k H' ⟨rfl, hi', G', e', av, ad, s', S', T', hav, rav, hadl, w'⟩
  obtain ⟨st, go⟩ := hJ p G' σ H' e' s' S' i
  by_cases hl : i < ds.length
  · obtain ⟨g1, g2⟩ := go _ (List.getElem?_eq_getElem hl)
    refine .inr ⟨g1, fun H2 => ∃ m', m' < ds.length - i ∧ (m' = ds.length - (i + 1) ∧ i + 1 ≤ ds.length ∧ ∃ G' e' av ad, Same G1 G' ∧ Srp I.K I.mg p G' σ H2 e' ∧ Tmp p G' σ e' q ∧ H2 q = some (.lst av) ∧ Reps I.K I.mg G' av ad ∧ ad.length ≤ i + 1 ∧
      Wp I.K I.mg W p G' σ (compF g t m vs (ds.drop (i + 1)) ad e') (fun l G2 H2 e2 => Wp I.K I.mg W p G2 σ (M.ret (Ret.ow (Ct.l l)) e2) fun r G3 H3 e3 => RetK I.K I.mg p G3 σ H3 e3 Q r)), fun H2 h => h, fun x H2 y => ?_⟩
    -- the turn, with the new list held
    have SP := S'.protect T' hav
    obtain ⟨_, go2⟩ := hJ (p.hold q (.lst av)) G' σ H' e' s' SP i
    obtain ⟨_, g4⟩ := go2 _ (List.getElem?_eq_getElem hl)
    obtain ⟨G2, t1, S2, r2, _⟩ := g4 x H2 y
    rw [List.drop_eq_getElem_cons hl] at w'
    unfold compF at w'
    by_cases hno : noOwn e' vs = true
    case neg => rw [if_neg hno] at w'; exact w'.elim
    rw [if_pos hno] at w'
    have SW := S2.wipe vs
    refine hg (p.hold q (.lst av)) G2 _ H2 (wipeE e' vs) x _ _ SW r2 ?_
    -- what the turn comes to
    have back : ∀ {G3 : Hp} {σ3 : L2.St} {H3 : Hp} {e3 : En}, Same G2 G3 → Srp I.K I.mg (p.hold q (.lst av)) G3 σ3 H3 e3 → L2.wipe σ3 vs = L2.wipe σ vs → e3.length = e'.length →
        Srp I.K I.mg p G3 σ H3 (backE e3 e' vs) ∧ Tmp p G3 σ (backE e3 e' vs) q ∧ H3 q = some (.lst av) := fun {G3 σ3 H3 e3} s3 S3 h3 l3 => (Sr.back S2 S3 s3 h3 l3 hno).unprotect T'.h0 T'.f
    unfold turnC M.bnd at w'
    cases z : g ds[i] (wipeE e' vs) with
    | no => rw [z] at w'; exact w'.elim
    | ex c fs e2 => rw [z] at w'; exact w'.elim
    | ok u e2 =>
      rw [z] at w'
      dsimp only at w'
      intro G3 σ3 H3 t3 S3 d3
      have hlen : σ3.length = σ.length := d3.1.trans (wipe_length σ vs)
      have hwp := wipe_same hgs d3
      have lenE : ∀ {G4 : Hp} {H4 : Hp} {e4 : En}, Srp I.K I.mg (p.hold q (.lst av)) G4 σ3 H4 e4 → e4.length = e'.length := fun {G4 H4 e4} S4 => by
        rw [← S4.len, hlen, S'.len]
      refine ⟨hwp, ?_⟩
      have wt : Wp I.K I.mg W0 (p.hold q (.lst av)) G3 σ3 (t e2) fun b G4 H4 e4 => (if b = true then te σ3 H4 fun y H5 => ∃ acc, H5 q = some (.lst acc) ∧ acc.length < sizeLine ∧ ∃ m', m' < ds.length - i ∧ (m' = ds.length - (i + 1) ∧ i + 1 ≤ ds.length ∧ ∃ G' e' av ad, Same G1 G' ∧ Srp I.K I.mg p G' σ (upd H5 q (.lst (acc ++ [y]))) e' ∧ Tmp p G' σ e' q ∧ upd H5 q (.lst (acc ++ [y])) q = some (.lst av) ∧ Reps I.K I.mg G' av ad ∧ ad.length ≤ i + 1 ∧
          Wp I.K I.mg W p G' σ (compF g t m vs (ds.drop (i + 1)) ad e') (fun l G2 H2 e2 => Wp I.K I.mg W p G2 σ (M.ret (Ret.ow (Ct.l l)) e2) fun r G3 H3 e3 => RetK I.K I.mg p G3 σ H3 e3 Q r))
          else ∃ m', m' < ds.length - i ∧ (m' = ds.length - (i + 1) ∧ i + 1 ≤ ds.length ∧ ∃ G' e' av ad, Same G1 G' ∧ Srp I.K I.mg p G' σ H4 e' ∧ Tmp p G' σ e' q ∧ H4 q = some (.lst av) ∧ Reps I.K I.mg G' av ad ∧ ad.length ≤ i + 1 ∧
          Wp I.K I.mg W p G' σ (compF g t m vs (ds.drop (i + 1)) ad e') (fun l G2 H2 e2 => Wp I.K I.mg W p G2 σ (M.ret (Ret.ow (Ct.l l)) e2) fun r G3 H3 e3 => RetK I.K I.mg p G3 σ H3 e3 Q r))) := by
        cases zt : t e2 with
        | no => rw [zt] at w'; exact w'.elim
        | ex c fs e4 => rw [zt] at w'; exact w'.elim
        | ok b e4 =>
          rw [zt] at w'
          intro G4 H4 t4 S4
          cases b with
          | false =>
            dsimp only at w'
            rw [if_neg Bool.false_ne_true] at w' ⊢
            obtain ⟨k1, k2, k3⟩ := back (t3.trans t4) S4 hwp (lenE S4)
            exact ⟨_, by omega, rfl, hl, G4, _, av, ad, s'.trans (t1.trans (t3.trans t4)), k1, k2, k3, rav.mono (t1.trans (t3.trans t4)), by omega, Wp.up w' (t1.trans (t3.trans t4))⟩
          | true =>
            dsimp only at w'
            rw [if_pos rfl] at w' ⊢
            refine he (p.hold q (.lst av)) G4 σ3 H4 e4 _ S4 ?_
            cases zm : m e4 with
            | no => rw [zm] at w'; exact w'.elim
            | ex c fs e5 => rw [zm] at w'; exact w'.elim
            | ok yd e5 =>
              rw [zm] at w'
              intro G5 H5 t5 S5 yv ry
              obtain ⟨k1, k2, k3⟩ := back (t3.trans (t4.trans t5)) S5 hwp (lenE S5)
              refine ⟨av, k3, by rw [rav.1]; omega, _, by omega, rfl, hl, G5, _, av ++ [yv], ad ++ [yd], s'.trans (t1.trans (t3.trans (t4.trans t5))), k1.poke k2 k3 (fun _ z => nomatch z), k2, upd_same,
                (rav.mono (t1.trans (t3.trans (t4.trans t5)))).append (Reps.one ry), by simp; omega, Wp.up w' (t1.trans (t3.trans (t4.trans t5)))⟩
      exact ht (p.hold q (.lst av)) G3 σ3 H3 e2 _ S3 wt
  · have ei : i = ds.length := by omega
    refine .inl ⟨st ei, ?_⟩
    rw [List.drop_eq_nil_of_le (by omega)] at w'
    have k1 := w' G' H' (Same.refl _) S' G' H' (Same.refl _) S'
    exact k1 q T'.g ⟨av, hav, rav⟩ T'.h0 T'.f T'.ap
theorem dr_comp {own : List (Str × Nat)} {mi : M (List D)} {g : D → M Unit} {gs : List Nat} {t : M Bool} {m : M D} (hi : DI I W tg iter mi) (ok : BlkOk I.N I.sc scope own) (hg : DG (I.blk scope) W0 tg g gs) (hgs : ∀ i ∈ gs, i ∈ own.map (·.2))
    (ht : DTs (I.blk scope) W0 ifs t) (he : DE (I.blk scope) W0 elt m) (hs : ∀ (env : Env) x, foldedSetIterable iter env x = pure x) : DR I W (.ListComp elt [⟨tg, iter, ifs, 0⟩] scope pos) (rComp mi g t m (own.map (·.2))) := by
  obtain ⟨w, i1, i2⟩ := hi
  obtain ⟨u, g1, g2⟩ := hg
  obtain ⟨tt, t1, t2⟩ := ht
  obtain ⟨te, e1, e2⟩ := he
  refine ⟨tLc w u tt te (own.map (·.2)), fun X kx => pe_lc kx.calm (by rw [kx.hN]; exact kx.nd) (i1 X kx) (by rw [kx.hN, kx.hsc]; exact ok) (fun s H C cl fp => g1 _ (okx_blk kx scope s H C cl fp)) (fun s H C cl fp => t1 _ (okx_blk kx scope s H C cl fp)) (fun s H C cl fp => e1 _ (okx_blk kx scope s H C cl fp)) (hs X.env), comp_sim i2 g2 hgs t2 e2⟩
end
end DL
end

section
namespace DL
open PySem PySem.Spec L2
open PyProof.Rows hiding St

section
variable {I : CI} {W : WX} {a b : Expr} {es : List Expr} {pos p0 : Pos} {x : Str}
theorem de_never : DE I W a (fun _ => .no) := ⟨fun _ _ _ => False, fun _ _ => ⟨fun _ _ _ _ _ _ h => h.elim⟩, fun p G σ H e Q S w => w.elim⟩
theorem dr_never : DR I W a (fun _ => .no) := ⟨fun _ _ _ => False, fun _ _ => ⟨fun _ _ _ _ _ _ h => h.elim⟩, fun p G σ H e Q S w => w.elim⟩
theorem dt_never : DT I W a (fun _ => .no) := ⟨fun _ _ _ => False, fun _ _ => ⟨fun _ _ _ _ _ _ h => h.elim⟩, fun p G σ H e Q S w => w.elim⟩
/-! ### x[i] -/
def fIx : D → D → Option D
  | .lst l, .int i => atI l i
  | .tup l, .int i => atI l i
  | .str z, .int i => if z.length ≤ LIM then (atI z.cps.toList i).map fun c => .str ⟨#[c]⟩ else none
  | _, _ => none
theorem atI_reps {K : PySem.W.Frag} {mg : MG} {G : Hp} {vs : List V} {l : List D} (r : Reps K mg G vs l) {i : Int} {d : D} (h : atI l i = some d) : ∃ v, atI vs i = some v ∧ Rep K mg G v d := by
  unfold atI at h ⊢
  rw [r.1]
  cases z : ixN l.length i with
  | none => rw [z] at h; cases h
  | some j =>
    rw [z] at h
    exact r.get h
theorem rIx_of {K : PySem.W.Frag} {mg : MG} {G H : Hp} (s : Same G H) {v w : V} {d k y : D} {Q : VK} (r : Rep K mg G v d) (rk : Rep K mg G w k) (h : fIx d k = some y) (q : ∀ u, Rep K mg G u y → Q u H) : rIx K v w H Q := by
  have ll := lim_line
  cases r with
  | tup h1 h2 h3 =>
    cases rk <;> first | cases h | skip
    obtain ⟨u, e1, e2⟩ := atI_reps ⟨h2, h3⟩ h
    exact .inr (.inl ⟨_, _, _, u, rfl, rfl, Same.seqT s h1, e1, q u e2⟩)
  | lst h1 h2 h3 =>
    cases rk <;> first | cases h | skip
    obtain ⟨u, e1, e2⟩ := atI_reps ⟨h2, h3⟩ h
    exact .inl ⟨_, _, _, u, rfl, rfl, LsT.sq (Same.ls s h1), e1, q u e2⟩
  | str z =>
    cases rk <;> first | cases h | skip
    unfold fIx at h
    dsimp only at h
    split at h
    · rename_i i hz
      cases e : atI z.cps.toList i with
      | none => rw [e] at h; cases h
      | some c =>
        rw [e] at h
        have : y = .str ⟨#[c]⟩ := (Option.some.inj h).symm
        subst this
        exact .inr (.inr ⟨z, i, c, rfl, rfl, by omega, e, q _ (.str _)⟩)
    · cases h
  | non => cases h
  | bl _ => cases h
  | int _ => cases h
  | dct _ _ _ _ => cases h
  | obj _ _ _ _ _ _ => cases h
def eIx (ma mb : M D) : M D := M.bnd ma fun x => M.bnd mb fun y => lift (fIx x y)
theorem de_ix {ma mb : M D} (ha : DE I W a ma) (hb : DE I W b mb) (hs : PlainIx b) : DE I W (.Subscript a b pos) (eIx ma mb) := by
  obtain ⟨t, h1, h2⟩ := ha
  obtain ⟨u, h3, h4⟩ := hb
  refine ⟨tOp (rIx I.K) t u, fun X ok => pe_ix (by have := ix_seq (X := X); rw [ok.hK] at this; exact this) (h1 X ok) (h3 X ok) hs, fun p G σ H e Q S w => ?_⟩
  refine h2 p G σ H e _ S (Wp.mono (Wp.bnd w) fun da G1 H1 e1 s1 S1 w1 v r => ?_)
  refine h4 p G1 σ H1 e1 _ S1 (Wp.mono (Wp.bnd w1) fun db G2 H2 e2 s2 S2 w2 v' r' => ?_)
  obtain ⟨y, hy, k⟩ := lift_wp w2
  exact rIx_of S2.sub (r.mono s2) r' hy fun u ru => k G2 H2 (Same.refl _) S2 u ru
/-- x[i], x a name: what it owns stays its own -/
def Sl.look : Sl → Option D
  | .sh d => some d
  | .ow x => some x.d
  | .io x => some x.d
  | .no => none
def peek (i : Nat) (k : D → M D) : M D := fun e => match e[i]?.bind Sl.look with
  | some d => k d e
  | none => .no
def has (i : Nat) (m : M D) : M D := fun e => if (e[i]?.bind Sl.look).isSome = true then m e else .no
def eIxV (i : Nat) (mb : M D) : M D := has i (M.bnd mb fun y => peek i fun d => lift (fIx d y))
theorem slot_any {K : PySem.W.Frag} {mg : MG} {p : Pm} {G H : Hp} {σ : L2.St} {e : En} (S : Srp K mg p G σ H e) {i : Nat} {d : D} (h : e[i]?.bind Sl.look = some d) :
    ∃ v, σ[i]? = some (some v) ∧ ((∃ s, e[i]? = some s ∧ Rep K mg G v d) ∨ ∃ s x a, e[i]? = some s ∧ s.own = some x ∧ d = x.d ∧ v = .ref a ∧ CtR K mg G H a x) := by
  cases q : e[i]? with
  | none => rw [q] at h; cases h
  | some s =>
    rw [q] at h
    cases s with
    | no => cases h
    | sh y =>
      cases h
      obtain ⟨v, h1, h2⟩ := S.sh i d q
      exact ⟨v, h1, .inl ⟨_, rfl, h2⟩⟩
    | ow x =>
      cases h
      obtain ⟨b, h1, h2, h3⟩ := S.ow i _ x q rfl
      exact ⟨_, h1, .inr ⟨_, x, b, rfl, rfl, rfl, rfl, h3⟩⟩
    | io x =>
      cases h
      obtain ⟨b, h1, h2, h3⟩ := S.ow i _ x q rfl
      exact ⟨_, h1, .inr ⟨_, x, b, rfl, rfl, rfl, rfl, h3⟩⟩
theorem pe_slot {i : Nat} (h : VarOk I.N I.sc i x) : ∀ X, Okx I W X → PE X (.Name x p0) (tVar i) := fun X ok => pe_var (by rw [ok.hN]; exact h.hN) (by rw [ok.hsc]; exact h.hv) h.hd h.hc
/-- the slot is there all through an expression: σ stays -/
theorem de_ixV {i : Nat} {mb : M D} (hx : VarOk I.N I.sc i x) (hb : DE I W b mb) (hs : PlainIx b) : DE I W (.Subscript (.Name x p0) b pos) (eIxV i mb) := by
  obtain ⟨u, h3, h4⟩ := hb
  refine ⟨tOp (rIx I.K) (tVar i) u, fun X ok => pe_ix (by have := ix_seq (X := X); rw [ok.hK] at this; exact this) (pe_slot hx X ok) (h3 X ok) hs, fun p G σ H e Q S w => ?_⟩
  unfold eIxV has at w
  split at w
  case isFalse => exact w.elim
  rename_i hs0
  cases q : e[i]?.bind Sl.look with
  | none => rw [q] at hs0; cases hs0
  | some d0 =>
    obtain ⟨v, hv, _⟩ := slot_any S q
    refine ⟨v, hv, h4 p G σ H e _ S (Wp.mono (Wp.bnd w) fun db G2 H2 e2 s2 S2 w2 v' r' => ?_)⟩
    unfold peek at w2
    cases q2 : e2[i]?.bind Sl.look with
    | none => rw [q2] at w2; exact w2.elim
    | some d =>
      rw [q2] at w2
      dsimp only at w2
      obtain ⟨y, hy, k⟩ := lift_wp w2
      obtain ⟨v2, hv2, hc⟩ := slot_any S2 q2
      rw [hv] at hv2; cases hv2
      have fin := fun u ru => k G2 H2 (Same.refl _) S2 u ru
      rcases hc with ⟨s, _, r⟩ | ⟨s, x, b, _, _, rfl, rfl, c⟩
      · exact rIx_of S2.sub r r' hy fin
      · cases x with
        | o c fs => cases db <;> cases hy
        | l l =>
          obtain ⟨vs, hH, rs⟩ := c
          cases r' <;> first | cases hy | skip
          obtain ⟨u', e1, e2'⟩ := atI_reps rs hy
          exact .inl ⟨_, _, _, u', rfl, rfl, .of hH, e1, fin u' e2'⟩
/-! ### x[lo:hi] -/
def SimPo (I : CI) (W : WX) (t : TO) (m : M (Option Int)) : Prop := ∀ (p : Pm) G σ H e (Q : Option Int → Hp → Prop), Srp I.K I.mg p G σ H e → Wp I.K I.mg W p G σ (m e) (fun o _ H' _ => Q o H') → t σ H Q
def DPo (I : CI) (W : WX) (o : Option Expr) (m : M (Option Int)) : Prop := ∃ t, (∀ X, Okx I W X → PO X o t) ∧ SimPo I W t m
def oSome (m : M D) : M (Option Int) := M.bnd m fun d => match d with
  | .int i => M.ret (some i)
  | _ => fun _ => .no
theorem dpo_none : DPo I W none (M.ret none) := ⟨_, fun _ _ => po_none, fun p G σ H e Q S w => w G H (Same.refl _) S⟩
theorem dpo_some {m : M D} (h : DE I W a m) : DPo I W (some a) (oSome m) := by
  obtain ⟨t, h1, h2⟩ := h
  refine ⟨_, fun X ok => po_some (h1 X ok), fun p G σ H e Q S w => ?_⟩
  refine h2 p G σ H e _ S (Wp.mono (Wp.bnd w) fun d G1 H1 e1 s1 S1 w1 v r => ?_)
  cases r <;> first | exact w1.elim | skip
  exact ⟨_, rfl, w1 G1 H1 (Same.refl _) S1⟩
def cutD (l : List D) (lo hi : Option Int) : List D := (l.drop (HT.sIx l.length 0 lo)).take (HT.sIx l.length l.length hi - HT.sIx l.length 0 lo)
def fSl (d : D) (lo hi : Option Int) : Option Ret := match d with
  | .lst l => some (.ow (.l (cutD l lo hi)))
  | .tup l => some (.sh (.tup (cutD l lo hi)))
  | .str z => if z.length ≤ LIM then some (.sh (.str (cutS z lo hi))) else none
  | _ => none
theorem reps_cut {K : PySem.W.Frag} {mg : MG} {G : Hp} {vs : List V} {l : List D} (r : Reps K mg G vs l) (lo hi : Option Int) : Reps K mg G (cutV vs lo hi) (cutD l lo hi) := by
  unfold cutV cutD
  rw [r.1]
  refine ⟨by simp [r.1], fun i v d h1 h2 => ?_⟩
  obtain ⟨k1, _⟩ := take_get h1
  obtain ⟨k2, _⟩ := take_get h2
  rw [List.getElem?_drop] at k1 k2
  exact r.2 _ v d k1 k2
theorem cutD_whole {l : List D} {lo hi : Option Int} (h : HT.sIx l.length 0 lo = 0 ∧ HT.sIx l.length l.length hi = l.length) : cutD l lo hi = l := by
  unfold cutD
  rw [h.1, h.2]
  simp
def rSl (m : M D) (ml mh : M (Option Int)) : M Ret := M.bnd m fun d => M.bnd ml fun lo => M.bnd mh fun hi => lift (fSl d lo hi)
theorem dr_slice {m : M D} {ml mh : M (Option Int)} {lo hi : Option Expr} {p2 : Pos} (h : DE I W a m) (hl : DPo I W lo ml) (hh : DPo I W hi mh) : DR I W (.Subscript a (.Slice lo hi none p2) pos) (rSl m ml mh) := by
  obtain ⟨t, h1, h2⟩ := h
  obtain ⟨tl, l1, l2⟩ := hl
  obtain ⟨th, u1, u2⟩ := hh
  refine ⟨tSl (fun x lo hi H Q => rSlL I.K x lo hi H Q ∨ rSlA I.K x lo hi H Q ∨ rSlS x lo hi H Q) t tl th, fun X ok => pe_slice (by have h1 := sl_list (X := X); have h2 := sl_tupA (X := X); rw [ok.hK] at h1 h2; exact h1.or (h2.or sl_str)) (h1 X ok) (l1 X ok) (u1 X ok), fun p G σ H e Q S w => ?_⟩
  have ll := lim_line
  refine h2 p G σ H e _ S (Wp.mono (Wp.bnd w) fun d G1 H1 e1 s1 S1 w1 v r => ?_)
  refine l2 p G1 σ H1 e1 _ S1 (Wp.mono (Wp.bnd w1) fun lo' G2 H2 e2 s2 S2 w2 => ?_)
  refine u2 p G2 σ H2 e2 _ S2 (Wp.mono (Wp.bnd w2) fun hi' G3 H3 e3 s3 S3 w3 => ?_)
  obtain ⟨res, hf, k⟩ := lift_wp w3
  have r := (r.mono s2).mono s3
  cases r with
  | lst h1 h2 h3 =>
    cases hf
    refine .inl ⟨_, _, rfl, LsT.sq (Same.ls S3.sub h1), fun q n => ?_⟩
    obtain ⟨S4, gn, h0, hF, ap⟩ := S3.laidOw (o := .lst _) n
    exact k G3 _ (Same.refl _) S4 q gn ⟨_, upd_same, reps_cut ⟨h2, h3⟩ _ _⟩ h0 hF ap
  | @tup b vs l h1 h2 h3 =>
    cases hf
    refine .inr (.inl ⟨b, vs, rfl, Same.seqT S3.sub h1, fun hw => ?_, fun hw q n => ?_⟩)
    · refine k G3 H3 (Same.refl _) S3 _ ?_
      rw [h2] at hw
      rw [cutD_whole hw]
      exact .tup h1 h2 h3
    · obtain ⟨s4, S4⟩ := S3.laid (o := .tup _) n
      exact k _ _ s4 S4 _ (.mk_tup (.of upd_same) ((reps_cut ⟨h2, h3⟩ _ _).mono s4))
  | str z =>
    unfold fSl at hf
    dsimp only at hf
    split at hf
    · cases hf
      exact .inr (.inr ⟨z, rfl, by omega, k G3 H3 (Same.refl _) S3 _ (.str _)⟩)
    · cases hf
  | non => cases hf
  | bl _ => cases hf
  | int _ => cases hf
  | dct _ _ _ _ => cases hf
  | obj _ _ _ _ _ _ => cases hf

/-! ### built-in functions -/
/-- f tells what a call with these data does -/
def FnD (I : CI) (W : WX) (fv : Value) (f : List D → Option Ret) : Prop :=
  ∃ r : List V → Hp → VK → Prop, (∀ X, Okx I W X → CallR X fv r) ∧ ∀ (p : Pm) G σ H e vs ds res (Q : VK), Srp I.K I.mg p G σ H e → Reps I.K I.mg G vs ds → f ds = some res →
    (∀ G' H', Same G G' → Srp I.K I.mg p G' σ H' e → RetK I.K I.mg p G' σ H' e Q res) → r vs H Q
def rFn (f : List D → Option Ret) (m : M (List Ar)) : M Ret := M.bnd (aVals m) fun ds => lift (f ds)
theorem fn_sim {r : List V → Hp → VK → Prop} {t : TA} {f : List D → Option Ret} {m : M (List Ar)} (hr : ∀ (p : Pm) G σ H e vs ds res (Q : VK), Srp I.K I.mg p G σ H e → Reps I.K I.mg G vs ds → f ds = some res →
    (∀ G' H', Same G G' → Srp I.K I.mg p G' σ H' e → RetK I.K I.mg p G' σ H' e Q res) → r vs H Q) (h : SimP I W t m) : SimR I W (tCB r t) (rFn f m) := by
  intro p G σ H e Q S w
  refine simA_of h p G σ H e _ S (Wp.mono (Wp.bnd w) fun ds G1 H1 e1 s1 S1 w1 vs rs => ?_)
  obtain ⟨res, hf, k⟩ := lift_wp w1
  exact hr p G1 σ H1 e1 vs ds res Q S1 rs hf k
theorem dr_fnB {id : String} {f : List D → Option Ret} {m : M (List Ar)} (F : FnD I W (.builtin id) f) (g : I.sc.names.lookup x = some .globalImplicit) (hm : I.mg x = none) (hv : bootBuiltins x = some (.builtin id)) (ha : DP I W (a :: es) m)
    (hn : x ≠ "__name__") (hd : (x == ("__debug__" : Str)) = false) : DR I W (.Call (.Name x p0) (a :: es) [] pos) (rFn f m) := by
  obtain ⟨r, f1, f2⟩ := F
  obtain ⟨n, t, h1, h2⟩ := ha
  have n2 : nst a = true ∧ es.all nst = true := by simpa using n
  exact ⟨tCB r t, fun X ok => pe_callB (f1 X ok) (gl_of ok.hsc g) (by rw [ok.hmg]; exact hm) hv (h1 X ok) hn hd (star_of n2.1 _ _) (by rw [no_back]; exact no_star n2.2 _), fn_sim f2 h2⟩
theorem dr_fnT {T : String} {f : List D → Option Ret} {m : M (List Ar)} (F : FnD I W (.type T) f) (g : I.sc.names.lookup x = some .globalImplicit) (hm : I.mg x = none) (hv : bootBuiltins x = some (.type T)) (ha : DP I W (a :: es) m)
    (hn : x ≠ "__name__") (hd : (x == ("__debug__" : Str)) = false) : DR I W (.Call (.Name x p0) (a :: es) [] pos) (rFn f m) := by
  obtain ⟨r, f1, f2⟩ := F
  obtain ⟨n, t, h1, h2⟩ := ha
  have n2 : nst a = true ∧ es.all nst = true := by simpa using n
  exact ⟨tCB r t, fun X ok => pe_callTy (f1 X ok) (gl_of ok.hsc g) (by rw [ok.hmg]; exact hm) hv (h1 X ok) hn hd (star_of n2.1 _ _) (by rw [no_back]; exact no_star n2.2 _), fn_sim f2 h2⟩
end
end DL
end

section
namespace DL
open PySem PySem.Spec L2
open PyProof.Rows hiding St

def asInts : List D → Option (List Int)
  | [] => some []
  | .int i :: l => (asInts l).map (i :: ·)
  | _ :: _ => none
def asBls : List D → Option (List Bool)
  | [] => some []
  | .bl i :: l => (asBls l).map (i :: ·)
  | _ :: _ => none
theorem asInts_map (ns : List Int) : asInts (ns.map D.int) = some ns := by
  induction ns with
  | nil => rfl
  | cons n ns ih => simp [asInts, ih]
theorem asBls_map (ns : List Bool) : asBls (ns.map D.bl) = some ns := by
  induction ns with
  | nil => rfl
  | cons n ns ih => simp [asBls, ih]
section
variable {K : PySem.W.Frag} {mg : MG} {G : Hp}
theorem ints_of : ∀ {l : List D} {vs : List V} {ns : List Int}, Reps K mg G vs l → asInts l = some ns → vs = ns.map V.int
  | [], vs, ns, r, h => by
    cases h
    have := r.1
    cases vs with
    | nil => rfl
    | cons _ _ => simp at this
  | d :: l, vs, ns, r, h => by
    obtain ⟨v, vr, rfl, h1, h2⟩ := r.uncons
    cases d <;> first | cases h | skip
    rename_i i
    unfold asInts at h
    cases z : asInts l with
    | none => rw [z] at h; cases h
    | some ms =>
      rw [z] at h
      have : ns = i :: ms := (Option.some.inj h).symm
      subst this
      rw [rep_int h1, ints_of h2 z]
      rfl
theorem bls_of : ∀ {l : List D} {vs : List V} {ns : List Bool}, Reps K mg G vs l → asBls l = some ns → vs = ns.map V.bl
  | [], vs, ns, r, h => by
    cases h
    have := r.1
    cases vs with
    | nil => rfl
    | cons _ _ => simp at this
  | d :: l, vs, ns, r, h => by
    obtain ⟨v, vr, rfl, h1, h2⟩ := r.uncons
    cases d <;> first | cases h | skip
    rename_i i
    unfold asBls at h
    cases z : asBls l with
    | none => rw [z] at h; cases h
    | some ms =>
      rw [z] at h
      have : ns = i :: ms := (Option.some.inj h).symm
      subst this
      cases h1
      rw [bls_of h2 z]
      rfl
theorem reps_ints : ∀ (ns : List Int), Reps K mg G (ns.map V.int) (ns.map D.int)
  | [] => Reps.nil
  | n :: ns => .cons (.int n) (reps_ints ns)
end
section
variable {I : CI} {W : WX}
/-! ### one value -/
def f1 (g : D → Option Ret) : List D → Option Ret
  | [d] => g d
  | _ => none
def gLen : D → Option Ret
  | .lst l => some (.sh (.int l.length))
  | .tup l => some (.sh (.int l.length))
  | .str z => if z.length ≤ LIM then some (.sh (.int z.length)) else none
  | _ => none
theorem len_of {K : PySem.W.Frag} {mg : MG} {G H : Hp} {v : V} {d : D} {res : Ret} (r : Rep K mg G v d) (s : Same G H) (h : gLen d = some res) : ∃ n, LenV K v H n ∧ res = .sh (.int n) := by
  have ll := lim_line
  cases r with
  | lst h1 h2 _ => cases h; exact ⟨_, .inl ⟨_, LsT.sq (Same.ls s h1), rfl⟩, by rw [h2]⟩
  | tup h1 h2 _ => cases h; exact ⟨_, .inr ⟨_, Same.seqT s h1, rfl⟩, by rw [h2]⟩
  | str z =>
    unfold gLen at h
    dsimp only at h
    split at h
    · cases h; exact ⟨_, ⟨by omega, rfl⟩, rfl⟩
    · cases h
  | non => cases h
  | bl _ => cases h
  | int _ => cases h
  | dct _ _ _ _ => cases h
  | obj _ _ _ _ _ _ => cases h
theorem fn_one {fv : Value} {g : D → Option Ret} {r : List V → Hp → VK → Prop} (h1 : ∀ X, Okx I W X → CallR X fv r) (h2 : ∀ (p : Pm) G σ H e v d res (Q : VK), Srp I.K I.mg p G σ H e → Rep I.K I.mg G v d → g d = some res →
    (∀ G' H', Same G G' → Srp I.K I.mg p G' σ H' e → RetK I.K I.mg p G' σ H' e Q res) → r [v] H Q) : FnD I W fv (f1 g) := by
  refine ⟨r, h1, fun p G σ H e vs ds res Q S rs hf k => ?_⟩
  match ds, rs, hf with
  | [d], rs, hf =>
    obtain ⟨v, rfl, rv⟩ := reps1 rs
    exact h2 p G σ H e v d res Q S rv hf k
theorem fn_len : FnD I W (.builtin "len") (f1 gLen) := fn_one (r := fun xs H Q => ∃ x n, xs = [x] ∧ LenV I.K x H n ∧ Q (.int n) H) (fun X ok => by have := call_len (X := X); rw [ok.hK] at this; exact this) fun p G σ H e v d res Q S r h k => by
  obtain ⟨n, h1, rfl⟩ := len_of r S.sub h
  exact ⟨v, n, rfl, h1, k G H (Same.refl _) S _ (.int _)⟩
def gAbs : D → Option Ret
  | .int i => some (.sh (.int (if i < 0 then -i else i)))
  | _ => none
theorem fn_abs : FnD I W (.builtin "abs") (f1 gAbs) := fn_one (fun X ok => call_abs) fun p G σ H e v d res Q S r h k => by
  cases r <;> cases h
  exact ⟨_, rfl, k G H (Same.refl _) S _ (.int _)⟩
def gInt : D → Option Ret
  | .int i => some (.sh (.int i))
  | .bl b => some (.sh (.int (if b then 1 else 0)))
  | _ => none
theorem fn_int : FnD I W (.type "int") (f1 gInt) := fn_one (fun X ok => call_int1) fun p G σ H e v d res Q S r h k => by
  cases r <;> cases h
  · exact .inr ⟨_, rfl, k G H (Same.refl _) S _ (.int _)⟩
  · exact .inl ⟨_, rfl, k G H (Same.refl _) S _ (.int _)⟩
def gStr : D → Option Ret
  | .int i => if i.natAbs.log2 < 1920 then some (.sh (.str (toString i))) else none
  | _ => none
theorem fn_str : FnD I W (.type "str") (f1 gStr) := fn_one (fun X ok => call_str_int) fun p G σ H e v d res Q S r h k => by
  cases r <;> first | cases h | skip
  unfold gStr at h
  dsimp only at h
  split at h
  · cases h
    exact ⟨_, rfl, by assumption, k G H (Same.refl _) S _ (.str _)⟩
  · cases h
def gList : D → Option Ret
  | .lst l => some (.ow (.l l))
  | .tup l => some (.ow (.l l))
  | _ => none
theorem fn_list : FnD I W (.type "list") (f1 gList) := fn_one (r := fun xs H Q => ∃ p ys, xs = [.ref p] ∧ (SqL I.K H p ys ∨ SqT I.K H p ys) ∧ ∀ l, H l = none → Q (.ref l) (upd H l (.lst ys))) (fun X ok => by have := call_list_of (X := X); rw [ok.hK] at this; exact this) fun p G σ H e v d res Q S r h k => by
  cases r with
  | lst h1 h2 h3 =>
    cases h
    refine ⟨_, _, rfl, .inl (LsT.sq (Same.ls S.sub h1)), fun q n => ?_⟩
    obtain ⟨S4, gn, h0, hF, ap⟩ := S.laidOw (o := .lst _) n
    exact k G _ (Same.refl _) S4 q gn ⟨_, upd_same, ⟨h2, h3⟩⟩ h0 hF ap
  | tup h1 h2 h3 =>
    cases h
    refine ⟨_, _, rfl, .inr (Same.seqT S.sub h1), fun q n => ?_⟩
    obtain ⟨S4, gn, h0, hF, ap⟩ := S.laidOw (o := .lst _) n
    exact k G _ (Same.refl _) S4 q gn ⟨_, upd_same, ⟨h2, h3⟩⟩ h0 hF ap
  | str _ => cases h
  | non => cases h
  | bl _ => cases h
  | int _ => cases h
  | dct _ _ _ _ => cases h
  | obj _ _ _ _ _ _ => cases h
def gTuple : D → Option Ret
  | .lst l => some (.sh (.tup l))
  | .tup l => some (.sh (.tup l))
  | _ => none
theorem fn_tuple : FnD I W (.type "tuple") (f1 gTuple) := fn_one (r := fun xs H Q => ∃ p ys, xs = [.ref p] ∧ ((SqL I.K H p ys ∧ ∀ l, H l = none → Q (.ref l) (upd H l (.tup ys))) ∨ (SqT I.K H p ys ∧ Q (.ref p) H))) (fun X ok => by have := call_tuple_of (X := X); rw [ok.hK] at this; exact this) fun p G σ H e v d res Q S r h k => by
  cases r with
  | lst h1 h2 h3 =>
    cases h
    refine ⟨_, _, rfl, .inl ⟨LsT.sq (Same.ls S.sub h1), fun q n => ?_⟩⟩
    obtain ⟨s4, S4⟩ := S.laid (o := .tup _) n
    exact k _ _ s4 S4 _ (.mk_tup (.of upd_same) (Reps.mono s4 ⟨h2, h3⟩))
  | tup h1 h2 h3 =>
    cases h
    exact ⟨_, _, rfl, .inr ⟨Same.seqT S.sub h1, k G H (Same.refl _) S _ (.tup h1 h2 h3)⟩⟩
  | str _ => cases h
  | non => cases h
  | bl _ => cases h
  | int _ => cases h
  | dct _ _ _ _ => cases h
  | obj _ _ _ _ _ _ => cases h
/-! ### lists of ints, of bools -/
def gInts (g : List Int → Option Ret) : D → Option Ret
  | .lst l => (asInts l).bind g
  | _ => none
def gBls (g : List Bool → Option Ret) : D → Option Ret
  | .lst l => (asBls l).bind g
  | _ => none
theorem rep_ints {K : PySem.W.Frag} {mg : MG} {G H : Hp} {v : V} {d : D} {g : List Int → Option Ret} {res : Ret} (r : Rep K mg G v d) (s : Same G H) (h : gInts g d = some res) : ∃ q ns, v = .ref q ∧ SqL K H q (ns.map V.int) ∧ g ns = some res := by
  cases r <;> first | cases h | skip
  rename_i q vs l h1 h2 h3
  unfold gInts at h
  dsimp only at h
  cases z : asInts l with
  | none => rw [z] at h; cases h
  | some ns =>
    rw [z] at h
    have := ints_of ⟨h2, h3⟩ z
    subst this
    exact ⟨q, ns, rfl, LsT.sq (Same.ls s h1), h⟩
theorem rep_bls {K : PySem.W.Frag} {mg : MG} {G H : Hp} {v : V} {d : D} {g : List Bool → Option Ret} {res : Ret} (r : Rep K mg G v d) (s : Same G H) (h : gBls g d = some res) : ∃ q ns, v = .ref q ∧ SqL K H q (ns.map V.bl) ∧ g ns = some res := by
  cases r <;> first | cases h | skip
  rename_i q vs l h1 h2 h3
  unfold gBls at h
  dsimp only at h
  cases z : asBls l with
  | none => rw [z] at h; cases h
  | some ns =>
    rw [z] at h
    have := bls_of ⟨h2, h3⟩ z
    subst this
    exact ⟨q, ns, rfl, LsT.sq (Same.ls s h1), h⟩
def gSum := gInts fun ns => some (.sh (.int ns.sum))
def gAll := gBls fun bs => some (.sh (.bl (bs.all id)))
def gAny := gBls fun bs => some (.sh (.bl (bs.any id)))
theorem fn_sum : FnD I W (.builtin "sum") (f1 gSum) := fn_one (r := rSum I.K) (fun X ok => by have := cr_sum ok.calm; rw [ok.hK] at this; exact this) fun p G σ H e v d res Q S r h k => by
  obtain ⟨q, ns, rfl, hs, hg⟩ := rep_ints r S.sub h
  cases hg
  exact ⟨q, ns, rfl, hs, k G H (Same.refl _) S _ (.int _)⟩
theorem fn_all : FnD I W (.builtin "all") (f1 gAll) := fn_one (r := rAll I.K) (fun X ok => by have := cr_all ok.calm; rw [ok.hK] at this; exact this) fun p G σ H e v d res Q S r h k => by
  obtain ⟨q, ns, rfl, hs, hg⟩ := rep_bls r S.sub h
  cases hg
  exact ⟨q, ns, rfl, hs, k G H (Same.refl _) S _ (.bl _)⟩
theorem fn_any : FnD I W (.builtin "any") (f1 gAny) := fn_one (r := rAny I.K) (fun X ok => by have := cr_any ok.calm; rw [ok.hK] at this; exact this) fun p G σ H e v d res Q S r h k => by
  obtain ⟨q, ns, rfl, hs, hg⟩ := rep_bls r S.sub h
  cases hg
  exact ⟨q, ns, rfl, hs, k G H (Same.refl _) S _ (.bl _)⟩
/-- the greatest and the least -/
def maxI : List Int → Option Int
  | [] => none
  | x :: xs => some (xs.foldl (fun a b => if b > a then b else a) x)
def minI : List Int → Option Int
  | [] => none
  | x :: xs => some (xs.foldl (fun a b => if b < a then b else a) x)
theorem maxI_fold : ∀ (xs : List Int) (x : Int), let m := xs.foldl (fun a b => if b > a then b else a) x; (m = x ∨ m ∈ xs) ∧ x ≤ m ∧ ∀ y ∈ xs, y ≤ m
  | [], x => ⟨.inl rfl, Int.le_refl _, fun _ h => by cases h⟩
  | z :: xs, x => by
    obtain ⟨h1, h2, h3⟩ := maxI_fold xs (if z > x then z else x)
    simp only [List.foldl_cons]
    refine ⟨?_, ?_, fun y hy => ?_⟩
    · rcases h1 with h | h
      · rw [h]
        split
        · exact .inr List.mem_cons_self
        · exact .inl rfl
      · exact .inr (List.mem_cons_of_mem _ h)
    · refine Int.le_trans ?_ h2
      split <;> omega
    · rcases List.mem_cons.mp hy with rfl | hy
      · refine Int.le_trans ?_ h2
        split <;> omega
      · exact h3 y hy
theorem minI_fold : ∀ (xs : List Int) (x : Int), let m := xs.foldl (fun a b => if b < a then b else a) x; (m = x ∨ m ∈ xs) ∧ m ≤ x ∧ ∀ y ∈ xs, m ≤ y
  | [], x => ⟨.inl rfl, Int.le_refl _, fun _ h => by cases h⟩
  | z :: xs, x => by
    obtain ⟨h1, h2, h3⟩ := minI_fold xs (if z < x then z else x)
    simp only [List.foldl_cons]
    refine ⟨?_, ?_, fun y hy => ?_⟩
    · rcases h1 with h | h
      · rw [h]
        split
        · exact .inr List.mem_cons_self
        · exact .inl rfl
      · exact .inr (List.mem_cons_of_mem _ h)
    · refine Int.le_trans h2 ?_
      split <;> omega
    · rcases List.mem_cons.mp hy with rfl | hy
      · refine Int.le_trans h2 ?_
        split <;> omega
      · exact h3 y hy
theorem maxI_spec {xs : List Int} {m : Int} (h : maxI xs = some m) : m ∈ xs ∧ ∀ y ∈ xs, y ≤ m := by
  cases xs with
  | nil => cases h
  | cons x xs =>
    cases h
    obtain ⟨h1, h2, h3⟩ := maxI_fold xs x
    refine ⟨?_, fun y hy => ?_⟩
    · rcases h1 with h | h
      · rw [h]; exact List.mem_cons_self
      · exact List.mem_cons_of_mem _ h
    · rcases List.mem_cons.mp hy with rfl | hy
      · exact h2
      · exact h3 y hy
theorem minI_spec {xs : List Int} {m : Int} (h : minI xs = some m) : m ∈ xs ∧ ∀ y ∈ xs, m ≤ y := by
  cases xs with
  | nil => cases h
  | cons x xs =>
    cases h
    obtain ⟨h1, h2, h3⟩ := minI_fold xs x
    refine ⟨?_, fun y hy => ?_⟩
    · rcases h1 with h | h
      · rw [h]; exact List.mem_cons_self
      · exact List.mem_cons_of_mem _ h
    · rcases List.mem_cons.mp hy with rfl | hy
      · exact h2
      · exact h3 y hy
def fMax : List D → Option Ret
  | [.int i, .int j] => some (.sh (.int (if j > i then j else i)))
  | [.lst l] => (asInts l).bind fun ns => (maxI ns).map fun m => .sh (.int m)
  | _ => none
def fMin : List D → Option Ret
  | [.int i, .int j] => some (.sh (.int (if j < i then j else i)))
  | [.lst l] => (asInts l).bind fun ns => (minI ns).map fun m => .sh (.int m)
  | _ => none
theorem fn_max : FnD I W (.builtin "max") fMax := by
  refine ⟨fun xs H Q => (∃ i j, xs = [.int i, .int j] ∧ Q (.int (if j > i then j else i)) H) ∨ rMax I.K xs H Q, fun X ok => (call_max2 ok.calm).or (by have := cr_max ok.calm; rw [ok.hK] at this; exact this), fun p G σ H e vs ds res Q S rs hf k => ?_⟩
  match ds, rs, hf with
  | [.int i, .int j], rs, hf =>
    obtain ⟨v, v', rfl, rv, rv'⟩ := reps2 rs
    rw [rep_int rv, rep_int rv']
    cases hf
    exact .inl ⟨i, j, rfl, k G H (Same.refl _) S _ (.int _)⟩
  | [.lst l], rs, hf =>
    obtain ⟨v, rfl, rv⟩ := reps1 rs
    obtain ⟨q, ns, rfl, hs, hg⟩ := rep_ints (g := fun ns => (maxI ns).map fun m => .sh (.int m)) rv S.sub hf
    cases hm : maxI ns with
    | none => rw [hm] at hg; cases hg
    | some m =>
      rw [hm] at hg; cases hg
      obtain ⟨k1, k2⟩ := maxI_spec hm
      refine .inr ⟨q, ns, rfl, hs, List.length_pos_of_mem k1, fun m' h1 h2 => ?_⟩
      have : m' = m := Int.le_antisymm (k2 m' h1) (h2 m k1)
      subst this
      exact k G H (Same.refl _) S _ (.int _)
theorem fn_min : FnD I W (.builtin "min") fMin := by
  refine ⟨fun xs H Q => (∃ i j, xs = [.int i, .int j] ∧ Q (.int (if j < i then j else i)) H) ∨ rMin I.K xs H Q, fun X ok => (call_min2 ok.calm).or (by have := cr_min ok.calm; rw [ok.hK] at this; exact this), fun p G σ H e vs ds res Q S rs hf k => ?_⟩
  match ds, rs, hf with
  | [.int i, .int j], rs, hf =>
    obtain ⟨v, v', rfl, rv, rv'⟩ := reps2 rs
    rw [rep_int rv, rep_int rv']
    cases hf
    exact .inl ⟨i, j, rfl, k G H (Same.refl _) S _ (.int _)⟩
  | [.lst l], rs, hf =>
    obtain ⟨v, rfl, rv⟩ := reps1 rs
    obtain ⟨q, ns, rfl, hs, hg⟩ := rep_ints (g := fun ns => (minI ns).map fun m => .sh (.int m)) rv S.sub hf
    cases hm : minI ns with
    | none => rw [hm] at hg; cases hg
    | some m =>
      rw [hm] at hg; cases hg
      obtain ⟨k1, k2⟩ := minI_spec hm
      refine .inr ⟨q, ns, rfl, hs, List.length_pos_of_mem k1, fun m' h1 h2 => ?_⟩
      have : m' = m := Int.le_antisymm (h2 m k1) (k2 m' h1)
      subst this
      exact k G H (Same.refl _) S _ (.int _)
/-- sorted, of ints -/
def sortI (ns : List Int) : List Int := ns.mergeSort fun a b => decide (a ≤ b)
theorem sortI_uniq {ns ms : List Int} (h1 : ms.Perm ns) (h2 : ms.Pairwise (· ≤ ·)) : ms = sortI ns := by
  have p1 : (sortI ns).Perm ns := List.mergeSort_perm ns _
  have p2 : (sortI ns).Pairwise (fun a b => decide (a ≤ b) = true) := List.pairwise_mergeSort (fun a b c h1 h2 => by simp at *; omega) (fun a b => by simp; omega) ns
  have p3 : (sortI ns).Pairwise (· ≤ ·) := p2.imp fun h => of_decide_eq_true h
  exact List.Perm.eq_of_pairwise (fun a b _ _ h1 h2 => Int.le_antisymm h1 h2) h2 p3 (h1.trans p1.symm)
def gSorted := gInts fun ns => some (.ow (.l ((sortI ns).map .int)))
theorem fn_sorted : FnD I W (.builtin "sorted") (f1 gSorted) := fn_one (r := rSortedI I.K) (fun X ok => by have := cr_sortedI (X := X); rw [ok.hK] at this; exact this) fun p G σ H e v d res Q S r h k => by
  obtain ⟨q, ns, rfl, hs, hg⟩ := rep_ints r S.sub h
  cases hg
  refine ⟨q, ns, rfl, hs, fun ms b h1 h2 n => ?_⟩
  have := sortI_uniq h1 h2
  subst this
  obtain ⟨S4, gn, h0, hF, ap⟩ := S.laidOw (o := .lst _) n
  exact k G _ (Same.refl _) S4 b gn ⟨_, upd_same, reps_ints _⟩ h0 hF ap
/-! ### isinstance with built-in types -/
def D.ty : D → Option String
  | .non => some "NoneType"
  | .bl _ => some "bool"
  | .int _ => some "int"
  | .str _ => some "str"
  | .tup _ => some "tuple"
  | .lst _ => some "list"
  | .dct _ => some "dict"
  | .obj _ _ => none
theorem tyx_of {K : PySem.W.Frag} {mg : MG} {G H : Hp} {v : V} {d : D} {T : String} (r : Rep K mg G v d) (s : Same G H) (h : d.ty = some T) : TyX K H v (.type T) := by
  cases r with
  | non => cases h; exact .base .non
  | bl b => cases h; exact .base (.bl b)
  | int i => cases h; exact .base (.int i)
  | str z => cases h; exact .base (.str z)
  | lst h1 h2 _ =>
    cases h
    rcases h1 with (h1 | ⟨o, h1⟩) | ⟨us, n, k1, _⟩
    · exact .base (.lst (s _ _ h1))
    · exact .base (.frz (s _ _ h1))
    · exact .kList k1 rfl
  | tup h1 h2 _ =>
    cases h
    rcases h1 with (h1 | ⟨o, h1⟩) | ⟨o, its, n, k1, k2, _⟩
    · exact .base (.tup (s _ _ h1))
    · exact .fTuple (s _ _ h1)
    · exact .kTuple k1 k2
  | dct h1 _ _ _ => cases h; exact .base (.dK (s _ _ h1))
  | obj _ _ _ _ _ _ => cases h
def isiD (T : String) (d : D) : Option Ret := (d.ty.bind fun t => kitB t T).map fun b => .sh (.bl b)
variable {a : Expr} {es : List Expr} {pos p0 p1 : Pos} {x : Str}
def rOne (m : M D) (f : D → Option Ret) : M Ret := M.bnd m fun d => lift (f d)
theorem dr_isi {T : String} {y : Str} {m : M D} (g : I.sc.names.lookup ("isinstance" : Str) = some .globalImplicit) (hm : I.mg ("isinstance" : Str) = none) (g2 : I.sc.names.lookup y = some .globalImplicit) (hm2 : I.mg y = none)
    (hv : bootBuiltins y = some (.type T)) (hn : y ≠ "__name__") (hd : (y == ("__debug__" : Str)) = false) (ha : DE I W a m) (n : nst a = true) : DR I W (.Call (.Name "isinstance" p0) [a, .Name y p1] [] pos) (rOne m (isiD T)) := by
  obtain ⟨t, h1, h2⟩ := ha
  refine ⟨tCB (rIsi I.K) (tCons t (tCons (tC (.ty T)) tNil)), fun X ok => pe_callB (by have := call_isi (X := X); rw [ok.hK] at this; exact this) (gl_of ok.hsc g) (by rw [ok.hmg]; exact hm) boot_isinstance
    (pa_cons (h1 X ok) (pa_cons (pe_bltn (gl_of ok.hsc g2) (by rw [ok.hmg]; exact hm2) hv rfl hn hd) pa_nil) (star_of n _ _)) (by decide) (by decide) (star_of n _ _) rfl, fun p G σ H e Q S w => ?_⟩
  refine h2 p G σ H e _ S (Wp.mono (Wp.bnd w) fun d G1 H1 e1 s1 S1 w1 v r => ?_)
  obtain ⟨res, hf, k⟩ := lift_wp w1
  unfold isiD at hf
  cases z : d.ty with
  | none => rw [z] at hf; cases hf
  | some t0 =>
    rw [z] at hf
    cases zk : kitB t0 T with
    | none => simp only [Option.bind, zk] at hf; cases hf
    | some b =>
      simp only [Option.bind, zk] at hf
      cases hf
      exact ⟨v, .ty T, _, _, b, rfl, .ty T, tyx_of r S1.sub z, kit_ty zk, k G1 H1 (Same.refl _) S1 _ (.bl _)⟩
/-- isinstance(x, (A, B)) -/
def isiD2 (T U : String) (d : D) : Option Ret := d.ty.bind fun t => (kitB t T).bind fun b => if b = true then some (.sh (.bl true)) else (kitB t U).map fun c => .sh (.bl c)
theorem dr_isi2 {T U : String} {y z : Str} {m : M D} {p2 p3 : Pos} {kk} (g : I.sc.names.lookup ("isinstance" : Str) = some .globalImplicit) (hm : I.mg ("isinstance" : Str) = none) (g2 : I.sc.names.lookup y = some .globalImplicit) (hm2 : I.mg y = none)
    (hv : bootBuiltins y = some (.type T)) (hn : y ≠ "__name__") (hd : (y == ("__debug__" : Str)) = false) (g3 : I.sc.names.lookup z = some .globalImplicit) (hm3 : I.mg z = none)
    (hv3 : bootBuiltins z = some (.type U)) (hn3 : z ≠ "__name__") (hd3 : (z == ("__debug__" : Str)) = false) (ha : DE I W a m) (n : nst a = true) :
    DR I W (.Call (.Name "isinstance" p0) [a, .Tuple [.Name y p1, .Name z p2] kk p3] [] pos) (rOne m (isiD2 T U)) := by
  obtain ⟨t, h1, h2⟩ := ha
  refine ⟨tCB (rIsiT I.K) (tCons t (tCons (tTup (tCons (tC (.ty T)) (tCons (tC (.ty U)) tNil))) tNil)), fun X ok => pe_callB (by have := call_isiT (X := X); rw [ok.hK] at this; exact this) (gl_of ok.hsc g) (by rw [ok.hmg]; exact hm) boot_isinstance
    (pa_cons (h1 X ok) (pa_cons (pe_tup (pa_cons (pe_bltn (gl_of ok.hsc g2) (by rw [ok.hmg]; exact hm2) hv rfl hn hd) (pa_cons (pe_bltn (gl_of ok.hsc g3) (by rw [ok.hmg]; exact hm3) hv3 rfl hn3 hd3) pa_nil))) pa_nil) (star_of n _ _)) (by decide) (by decide) (star_of n _ _) rfl, fun p G σ H e Q S w => ?_⟩
  refine h2 p G σ H e _ S (Wp.mono (Wp.bnd w) fun d G1 H1 e1 s1 S1 w1 v r => ?_)
  obtain ⟨res, hf, k⟩ := lift_wp w1
  refine ⟨by show 2 ≤ sizeLine; decide, fun tp nt => ?_⟩
  obtain ⟨s2, S2⟩ := S1.laid (o := .tup [.ty T, .ty U]) nt
  unfold isiD2 at hf
  cases q : d.ty with
  | none => rw [q] at hf; cases hf
  | some t0 =>
    simp only [q, Option.bind] at hf
    cases zk : kitB t0 T with
    | none => simp only [zk] at hf; cases hf
    | some b =>
      simp only [zk] at hf
      have ty := tyx_of (r.mono s2) S2.sub q
      cases b with
      | true =>
        rw [if_pos rfl] at hf
        cases hf
        exact ⟨v, tp, _, _, _, true, rfl, upd_same, .cons (.ty T) (.cons (.ty U) .nil), ty, kitAny_cons (kit_ty zk) (fun z => nomatch z) (fun _ => rfl), k _ _ s2 S2 _ (.bl _)⟩
      | false =>
        rw [if_neg Bool.false_ne_true] at hf
        cases zu : kitB t0 U with
        | none => rw [zu] at hf; cases hf
        | some c =>
          rw [zu] at hf
          cases hf
          exact ⟨v, tp, _, _, _, c, rfl, upd_same, .cons (.ty T) (.cons (.ty U) .nil), ty, kitAny_cons (kit_ty zk) (fun _ => kitAny_cons (kit_ty zu) (fun e => by rw [e]; exact kitAny_nil) fun e => e) (fun z => nomatch z), k _ _ s2 S2 _ (.bl _)⟩
/-! ### x.bit_length() -/
def gBits : D → Option D
  | .int i => some (.int (Builtin.Int.intBits i : Nat))
  | _ => none
def eBits (m : M D) : M D := M.bnd m fun d => lift (gBits d)
theorem de_bits {m : M D} {apos : Pos} (h : DE I W a m) (hb : ∀ env : Env, attributeBase a "bit_length" env (eval a env) = eval a env) (hl : (apos.endLine == pos.line) = true) : DE I W (.Call (.Attribute a "bit_length" apos) [] [] pos) (eBits m) := by
  obtain ⟨t, h1, h2⟩ := h
  refine ⟨_, fun X ok => pe_bits (h1 X ok) (hb X.env) hl, fun p G σ H e Q S w => ?_⟩
  refine h2 p G σ H e _ S (Wp.mono (Wp.bnd w) fun d G1 H1 e1 s1 S1 w1 v r => ?_)
  obtain ⟨y, hy, k⟩ := lift_wp w1
  cases r <;> cases hy
  exact ⟨_, rfl, k G1 H1 (Same.refl _) S1 _ (.int _)⟩
end
end DL
end

section
namespace DL
open PySem PySem.Spec L2
open PyProof.Rows hiding St

/-! ### in, not in -/
def dIn (x : D) (l : List D) : Option Bool := if okD x && okD (.lst l) then some (l.any fun z => PyData.eqv z.py x.py) else none
def fIn : D → D → Option Ret
  | x, .lst l => (dIn x l).map fun b => .sh (.bl b)
  | x, .tup l => (dIn x l).map fun b => .sh (.bl b)
  | .str x, .str y => some (.sh (.bl (!(Builtin.Str.occurrences y x 0 y.length 1).isEmpty)))
  | _, _ => none
def fNotIn : D → D → Option Ret
  | x, .lst l => (dIn x l).map fun b => .sh (.bl (!b))
  | x, .tup l => (dIn x l).map fun b => .sh (.bl (!b))
  | .str x, .str y => some (.sh (.bl (!(!(Builtin.Str.occurrences y x 0 y.length 1).isEmpty))))
  | _, _ => none
def rInS (K : PySem.W.Frag) (neg : Bool) : R2 := fun x y H Q => ∃ d ds, Dp K H x d ∧ (Dp K H y (.list ds) ∨ Dp K H y (.tuple ds)) ∧ SeqAt.shaped d = true ∧ SeqAt.shaped (.list ds) = true ∧ Q (.bl (if neg then !(ds.any fun z => PyData.eqv z d) else ds.any fun z => PyData.eqv z d)) H
theorem op_inS {X : Cx} {k : Nat} (hr : Room k X.A) : OpR X (compareOp .In) (rInS X.K false) := by
  intro pins s σ H x y v u Q J rx ry ⟨d, ds, hd, he, sd, se, q⟩
  have hu : X.A.units + 65 < cLine := by have := hr.un; omega
  obtain ⟨as, r1⟩ := Dp.reads J d x v hd rx
  rcases he with he | he
  · obtain ⟨bs, r2⟩ := Dp.reads J (.list ds) y u he ry
    exact SeqAt.in_list_reads r2 r1 (SeqAt.canLay_of_shaped se) (SeqAt.canLay_of_shaped sd) (room_in_shaped sd hu) ⟨.bl _, H, J, rfl, q⟩
  · obtain ⟨bs, r2⟩ := Dp.reads J (.tuple ds) y u he ry
    exact SeqAt.in_tuple_reads r2 r1 (SeqAt.canLay_of_shaped se) (SeqAt.canLay_of_shaped sd) (room_in_shaped sd hu) ⟨.bl _, H, J, rfl, q⟩
theorem op_notInS {X : Cx} {k : Nat} (hr : Room k X.A) : OpR X (compareOp .NotIn) (rInS X.K true) := by
  intro pins s σ H x y v u Q J rx ry ⟨d, ds, hd, he, sd, se, q⟩
  have hu : X.A.units + 65 < cLine := by have := hr.un; omega
  obtain ⟨as, r1⟩ := Dp.reads J d x v hd rx
  rcases he with he | he
  · obtain ⟨bs, r2⟩ := Dp.reads J (.list ds) y u he ry
    exact SeqAt.notIn_list_reads r2 r1 (SeqAt.canLay_of_shaped se) (SeqAt.canLay_of_shaped sd) (room_in_shaped sd hu) ⟨.bl _, H, J, rfl, q⟩
  · obtain ⟨bs, r2⟩ := Dp.reads J (.tuple ds) y u he ry
    exact SeqAt.notIn_tuple_reads r2 r1 (SeqAt.canLay_of_shaped se) (SeqAt.canLay_of_shaped sd) (room_in_shaped sd hu) ⟨.bl _, H, J, rfl, q⟩
theorem dIn_ok {x : D} {l : List D} {b : Bool} (h : dIn x l = some b) : okD x = true ∧ okD (.lst l) = true ∧ b = (pys l).any fun z => PyData.eqv z x.py := by
  unfold dIn at h
  split at h
  · rename_i c
    simp only [Bool.and_eq_true] at c
    refine ⟨c.1, c.2, ?_⟩
    rw [pys_map, List.any_map]
    exact (Option.some.inj h).symm
  · cases h
section
variable {K : PySem.W.Frag} {mg : MG} {G H : Hp}
theorem okD_lst {l : List D} (h : okD (.lst l) = true) : SeqAt.shaped (.list (pys l)) = true := by
  unfold okD at h
  simp only [D.py] at h
  exact h
theorem dp_lst (s : Same G H) {v : V} {l : List D} (r : Rep K mg G v (.lst l)) (h : okD (.lst l) = true) : Dp K H v (.list (pys l)) := by
  have := r.dp s (canLay_ok h)
  simp only [D.py] at this
  exact this
theorem dp_tup (s : Same G H) {v : V} {l : List D} (r : Rep K mg G v (.tup l)) (h : okD (.lst l) = true) : Dp K H v (.tuple (pys l)) := by
  have c := canLay_ok h
  have := r.dp s (by simp only [D.py, PyData.canLay0] at c ⊢; exact c)
  simp only [D.py] at this
  exact this
end
section
variable {I : CI} {W : WX}
theorem o_in : OpD I W (compareOp .In) fIn := by
  refine ⟨fun x y H Q => rInS I.K false x y H Q ∨ (∃ i j, x = .str i ∧ y = .str j ∧ Q (.bl (!(Builtin.Str.occurrences j i 0 j.length 1).isEmpty)) H), fun X ok => (by have := op_inS ok.room; rw [ok.hK] at this; exact this.or op_in_str), fun p G σ H e x y a b res Q S ra rb hf k => ?_⟩
  have seq : ∀ l, (∃ q, dIn a l = some q ∧ res = .sh (.bl q)) → (okD (.lst l) = true → Dp I.K H y (.list (pys l)) ∨ Dp I.K H y (.tuple (pys l))) → rInS I.K false x y H Q := fun l ⟨q, hq, e⟩ hd => by
    obtain ⟨h1, h2, rfl⟩ := dIn_ok hq
    subst e
    exact ⟨_, _, ra.dp S.sub (canLay_ok h1), hd h2, h1, okD_lst h2, k G H (Same.refl _) S _ (.bl _)⟩
  have mp : ∀ l, fIn a (.lst l) = some res → ∃ q, dIn a l = some q ∧ res = .sh (.bl q) := fun l h => by
    have h' : (dIn a l).map (fun b => Ret.sh (.bl b)) = some res := by cases a <;> exact h
    cases z : dIn a l with
    | none => rw [z] at h'; cases h'
    | some q => rw [z] at h'; exact ⟨q, rfl, (Option.some.inj h').symm⟩
  cases b with
  | lst l => exact .inl (seq l (mp l hf) fun h => .inl (dp_lst S.sub rb h))
  | tup l => exact .inl (seq l (mp l (by cases a <;> exact hf)) fun h => .inr (dp_tup S.sub rb h))
  | str z =>
    cases ra <;> first | cases hf | skip
    cases rb
    exact .inr ⟨_, _, rfl, rfl, k G H (Same.refl _) S _ (.bl _)⟩
  | non => cases a <;> cases hf
  | bl _ => cases a <;> cases hf
  | int _ => cases a <;> cases hf
  | dct _ => cases a <;> cases hf
  | obj _ _ => cases a <;> cases hf
theorem o_notin : OpD I W (compareOp .NotIn) fNotIn := by
  refine ⟨fun x y H Q => rInS I.K true x y H Q ∨ (∃ i j, x = .str i ∧ y = .str j ∧ Q (.bl (!(!(Builtin.Str.occurrences j i 0 j.length 1).isEmpty))) H), fun X ok => (by have := op_notInS ok.room; rw [ok.hK] at this; exact this.or op_notIn_str), fun p G σ H e x y a b res Q S ra rb hf k => ?_⟩
  have seq : ∀ l, (∃ q, dIn a l = some q ∧ res = .sh (.bl (!q))) → (okD (.lst l) = true → Dp I.K H y (.list (pys l)) ∨ Dp I.K H y (.tuple (pys l))) → rInS I.K true x y H Q := fun l ⟨q, hq, e⟩ hd => by
    obtain ⟨h1, h2, rfl⟩ := dIn_ok hq
    subst e
    exact ⟨_, _, ra.dp S.sub (canLay_ok h1), hd h2, h1, okD_lst h2, k G H (Same.refl _) S _ (.bl _)⟩
  have mp : ∀ l, fNotIn a (.lst l) = some res → ∃ q, dIn a l = some q ∧ res = .sh (.bl (!q)) := fun l h => by
    have h' : (dIn a l).map (fun b => Ret.sh (.bl (!b))) = some res := by cases a <;> exact h
    cases z : dIn a l with
    | none => rw [z] at h'; cases h'
    | some q => rw [z] at h'; exact ⟨q, rfl, (Option.some.inj h').symm⟩
  cases b with
  | lst l => exact .inl (seq l (mp l hf) fun h => .inl (dp_lst S.sub rb h))
  | tup l => exact .inl (seq l (mp l (by cases a <;> exact hf)) fun h => .inr (dp_tup S.sub rb h))
  | str z =>
    cases ra <;> first | cases hf | skip
    cases rb
    exact .inr ⟨_, _, rfl, rfl, k G H (Same.refl _) S _ (.bl _)⟩
  | non => cases a <;> cases hf
  | bl _ => cases a <;> cases hf
  | int _ => cases a <;> cases hf
  | dct _ => cases a <;> cases hf
  | obj _ _ => cases a <;> cases hf
/-! ### what a name owns, looked at -/
variable {a b : Expr} {es : List Expr} {pos p0 p1 : Pos} {x : Str}
/-- what a slot holds, read without giving it up -/
theorem slot_dp {p : Pm} {G H : Hp} {σ : L2.St} {e : En} (S : Srp I.K I.mg p G σ H e) {i : Nat} {d : D} (h : e[i]?.bind Sl.look = some d) (hk : okD d = true) : ∃ v, σ[i]? = some (some v) ∧ Dp I.K H v d.py := by
  obtain ⟨v, hv, hc⟩ := slot_any S h
  refine ⟨v, hv, ?_⟩
  rcases hc with ⟨s, _, r⟩ | ⟨s, y, q, _, _, rfl, rfl, c⟩
  · exact r.dp S.sub (canLay_ok hk)
  · cases y with
    | o c fs =>
      have := canLay_ok hk
      simp [Ct.d, D.py, PyData.canLay0] at this
    | l l =>
      obtain ⟨vs, hH, rs⟩ := c
      exact Reps.dpl S.sub (.of hH) rs (canLay_ok hk)
/-- x == b, x != b; x a name -/
def rEqV (i : Nat) (neg : Bool) (mb : M D) : M Ret := fun e => if (e[i]?.bind Sl.look).isSome = true then (M.bnd mb fun y => fun e => match e[i]?.bind Sl.look with
  | some d => lift ((deq d y).map fun k => Ret.sh (.bl (if neg then !k else k))) e
  | none => .no) e else .no
theorem eqV_sim {i : Nat} {neg : Bool} {u : TE} {mb : M D} (h4 : SimE I W u mb) : SimR I W (tOp (if neg then rNeD I.K else rEqD I.K) (tVar i) u) (rEqV i neg mb) := by
  intro p G σ H e Q S w
  unfold rEqV at w
  split at w
  case isFalse => exact w.elim
  rename_i hs0
  cases q : e[i]?.bind Sl.look with
  | none => rw [q] at hs0; cases hs0
  | some d0 =>
    obtain ⟨v, hv, _⟩ := slot_any S q
    refine ⟨v, hv, h4 p G σ H e _ S (Wp.mono (Wp.bnd w) fun db G2 H2 e2 s2 S2 w2 v' r' => ?_)⟩
    cases q2 : e2[i]?.bind Sl.look with
    | none => rw [q2] at w2; exact w2.elim
    | some d =>
      rw [q2] at w2
      dsimp only at w2
      obtain ⟨res, hres, k⟩ := lift_wp w2
      cases hd : deq d db with
      | none => rw [hd] at hres; cases hres
      | some kk =>
        rw [hd] at hres
        obtain ⟨o1, o2, rfl⟩ := deq_ok hd
        obtain ⟨v2, hv2, dp⟩ := slot_dp S2 q2 o1
        rw [hv] at hv2; cases hv2
        cases neg with
        | true =>
          cases hres
          exact ⟨_, _, dp, r'.dp S2.sub (canLay_ok o2), o1, o2, k G2 H2 (Same.refl _) S2 _ (.bl _)⟩
        | false =>
          cases hres
          exact ⟨_, _, dp, r'.dp S2.sub (canLay_ok o2), o1, o2, k G2 H2 (Same.refl _) S2 _ (.bl _)⟩
theorem dr_eqV {i : Nat} {mb : M D} (hx : VarOk I.N I.sc i x) (hb : DE I W b mb) (hm : behindInMarks .Eq b = false) : DR I W (.Compare (.Name x p0) [.Eq] [b] pos) (rEqV i false mb) := by
  obtain ⟨u, h3, h4⟩ := hb
  exact ⟨tOp (rEqD I.K) (tVar i) u, fun X ok => pe_cmpR (by have := op_eqD (X := X) ok.room.units; rw [ok.hK] at this; exact this) (pe_slot hx X ok) (h3 X ok) hm, eqV_sim (neg := false) h4⟩
theorem dr_neV {i : Nat} {mb : M D} (hx : VarOk I.N I.sc i x) (hb : DE I W b mb) (hm : behindInMarks .NotEq b = false) : DR I W (.Compare (.Name x p0) [.NotEq] [b] pos) (rEqV i true mb) := by
  obtain ⟨u, h3, h4⟩ := hb
  exact ⟨tOp (rNeD I.K) (tVar i) u, fun X ok => pe_cmpR (by have := op_neD (X := X) ok.room.units; rw [ok.hK] at this; exact this) (pe_slot hx X ok) (h3 X ok) hm, eqV_sim (neg := true) h4⟩
theorem dt_eqV {i : Nat} {mb : M D} (hx : VarOk I.N I.sc i x) (hb : DE I W b mb) (hm : behindInMarks .Eq b = false) : DT I W (.Compare (.Name x p0) [.Eq] [b] pos) (M.bnd (rEqV i false mb) fun r => lift (blOf r)) := by
  obtain ⟨u, h3, h4⟩ := hb
  exact ⟨tTest (tOp (rEqD I.K) (tVar i) u), fun X ok => pt_cmpR (by have := op_eqD (X := X) ok.room.units; rw [ok.hK] at this; exact this) (pe_slot hx X ok) (h3 X ok) hm, test_sim (eqV_sim (neg := false) h4)⟩
theorem dt_neV {i : Nat} {mb : M D} (hx : VarOk I.N I.sc i x) (hb : DE I W b mb) (hm : behindInMarks .NotEq b = false) : DT I W (.Compare (.Name x p0) [.NotEq] [b] pos) (M.bnd (rEqV i true mb) fun r => lift (blOf r)) := by
  obtain ⟨u, h3, h4⟩ := hb
  exact ⟨tTest (tOp (rNeD I.K) (tVar i) u), fun X ok => pt_cmpR (by have := op_neD (X := X) ok.room.units; rw [ok.hK] at this; exact this) (pe_slot hx X ok) (h3 X ok) hm, test_sim (eqV_sim (neg := true) h4)⟩
/-- a in x, a not in x; x a name -/
def rInV (i : Nat) (neg : Bool) (ma : M D) : M Ret := M.bnd ma fun y => fun e => match e[i]?.bind Sl.look with
  | some (.lst l) => lift ((dIn y l).map fun k => Ret.sh (.bl (if neg then !k else k))) e
  | some (.tup l) => lift ((dIn y l).map fun k => Ret.sh (.bl (if neg then !k else k))) e
  | _ => .no
theorem inV_sim {i : Nat} {neg : Bool} {u : TE} {ma : M D} (h4 : SimE I W u ma) : SimR I W (tOp (rInS I.K neg) u (tVar i)) (rInV i neg ma) := by
  intro p G σ H e Q S w
  refine h4 p G σ H e _ S (Wp.mono (Wp.bnd w) fun d G1 H1 e1 s1 S1 w1 v r => ?_)
  have go : ∀ l dd, e1[i]?.bind Sl.look = some dd → (dd = .lst l ∨ dd = .tup l) → Wp I.K I.mg W p G1 σ (lift ((dIn d l).map fun k => Ret.sh (.bl (if neg then !k else k))) e1) (fun r G' H' e' => RetK I.K I.mg p G' σ H' e' Q r) →
      tVar i σ H1 fun y H2 => rInS I.K neg v y H2 Q := fun l dd q hdd w2 => by
    obtain ⟨res, hres, k⟩ := lift_wp w2
    cases hd : dIn d l with
    | none => rw [hd] at hres; cases hres
    | some kk =>
      rw [hd] at hres
      cases hres
      obtain ⟨o1, o2, rfl⟩ := dIn_ok hd
      have od : okD dd = true := by
        rcases hdd with rfl | rfl
        · exact o2
        · unfold okD at o2 ⊢
          simp only [D.py, SeqAt.shaped, PyData.canLay0, PyData.depth] at o2 ⊢
          exact o2
      obtain ⟨v2, hv2, dp⟩ := slot_dp S1 q od
      refine ⟨v2, hv2, _, _, r.dp S1.sub (canLay_ok o1), ?_, o1, okD_lst o2, k G1 H1 (Same.refl _) S1 _ (.bl _)⟩
      rcases hdd with rfl | rfl
      · simp only [D.py] at dp; exact .inl dp
      · simp only [D.py] at dp; exact .inr dp
  cases q : e1[i]?.bind Sl.look with
  | none => rw [q] at w1; exact w1.elim
  | some dd =>
    rw [q] at w1
    cases dd with
    | lst l => exact go l _ q (.inl rfl) w1
    | tup l => exact go l _ q (.inr rfl) w1
    | non => exact w1.elim
    | bl _ => exact w1.elim
    | int _ => exact w1.elim
    | str _ => exact w1.elim
    | dct _ => exact w1.elim
    | obj _ _ => exact w1.elim
theorem dr_inV {i : Nat} {ma : M D} (hx : VarOk I.N I.sc i x) (ha : DE I W a ma) (hm : behindInMarks .In (.Name x p0) = false) : DR I W (.Compare a [.In] [.Name x p0] pos) (rInV i false ma) := by
  obtain ⟨u, h3, h4⟩ := ha
  exact ⟨tOp (rInS I.K false) u (tVar i), fun X ok => pe_cmpR (by have := op_inS ok.room; rw [ok.hK] at this; exact this) (h3 X ok) (pe_slot hx X ok) hm, inV_sim h4⟩
theorem dr_notinV {i : Nat} {ma : M D} (hx : VarOk I.N I.sc i x) (ha : DE I W a ma) (hm : behindInMarks .NotIn (.Name x p0) = false) : DR I W (.Compare a [.NotIn] [.Name x p0] pos) (rInV i true ma) := by
  obtain ⟨u, h3, h4⟩ := ha
  exact ⟨tOp (rInS I.K true) u (tVar i), fun X ok => pe_cmpR (by have := op_notInS ok.room; rw [ok.hK] at this; exact this) (h3 X ok) (pe_slot hx X ok) hm, inV_sim h4⟩
theorem dt_inV {i : Nat} {ma : M D} (hx : VarOk I.N I.sc i x) (ha : DE I W a ma) (hm : behindInMarks .In (.Name x p0) = false) : DT I W (.Compare a [.In] [.Name x p0] pos) (M.bnd (rInV i false ma) fun r => lift (blOf r)) := by
  obtain ⟨u, h3, h4⟩ := ha
  exact ⟨tTest (tOp (rInS I.K false) u (tVar i)), fun X ok => pt_cmpR (by have := op_inS ok.room; rw [ok.hK] at this; exact this) (h3 X ok) (pe_slot hx X ok) hm, test_sim (inV_sim h4)⟩
theorem dt_notinV {i : Nat} {ma : M D} (hx : VarOk I.N I.sc i x) (ha : DE I W a ma) (hm : behindInMarks .NotIn (.Name x p0) = false) : DT I W (.Compare a [.NotIn] [.Name x p0] pos) (M.bnd (rInV i true ma) fun r => lift (blOf r)) := by
  obtain ⟨u, h3, h4⟩ := ha
  exact ⟨tTest (tOp (rInS I.K true) u (tVar i)), fun X ok => pt_cmpR (by have := op_notInS ok.room; rw [ok.hK] at this; exact this) (h3 X ok) (pe_slot hx X ok) hm, test_sim (inV_sim h4)⟩
/-- len(x), x a name -/
def eLenV (i : Nat) : M Ret := fun e => match e[i]?.bind Sl.look with
  | some d => lift (gLen d) e
  | none => .no
theorem dr_lenV {i : Nat} (g : I.sc.names.lookup ("len" : Str) = some .globalImplicit) (hm : I.mg ("len" : Str) = none) (hx : VarOk I.N I.sc i x) : DR I W (.Call (.Name "len" p0) [.Name x p1] [] pos) (eLenV i) := by
  refine ⟨tCB (fun xs H Q => ∃ x n, xs = [x] ∧ LenV I.K x H n ∧ Q (.int n) H) (tCons (tVar i) tNil), fun X ok => pe_callB (by have := call_len (X := X); rw [ok.hK] at this; exact this) (gl_of ok.hsc g) (by rw [ok.hmg]; exact hm) PySem.boot_len
    (pa_cons (pe_slot hx X ok) pa_nil) (by decide) (by decide) rfl rfl, fun p G σ H e Q S w => ?_⟩
  unfold eLenV at w
  cases q : e[i]?.bind Sl.look with
  | none => rw [q] at w; exact w.elim
  | some d =>
    rw [q] at w
    dsimp only at w
    obtain ⟨res, hf, k⟩ := lift_wp w
    obtain ⟨v, hv, hc⟩ := slot_any S q
    refine ⟨v, hv, ?_⟩
    rcases hc with ⟨s, _, r⟩ | ⟨s, y, b, _, _, rfl, rfl, c⟩
    · obtain ⟨n, h1, rfl⟩ := len_of r S.sub hf
      exact ⟨v, n, rfl, h1, k G H (Same.refl _) S _ (.int _)⟩
    · cases y with
      | o c fs => cases hf
      | l l =>
        obtain ⟨vs, hH, rs⟩ := c
        cases hf
        exact ⟨_, vs.length, rfl, .inl ⟨vs, .of hH, rfl⟩, by rw [rs.1]; exact k G H (Same.refl _) S _ (.int _)⟩
end
end DL
end

section
namespace DL
open PySem PySem.Spec L2
open PyProof.Rows hiding St

/-! ### lists that a name owns, changed -/
/-- a method of a list: what becomes of it, what comes back -/
def OpL (I : CI) (W : WX) (id : String) (f : List D → List D → Option (List D × D)) : Prop :=
  ∃ r : V → List V → Hp → VK → Prop, (∀ X, Okx I W X → MtR X id r) ∧ ∀ (G H : Hp) (q : Addr) (vs xs : List V) (l ds l' : List D) (d : D) (Q : VK), Same G H → H q = some (.lst vs) → Reps I.K I.mg G vs l → Reps I.K I.mg G xs ds → f l ds = some (l', d) →
    (∀ vs' v, Reps I.K I.mg G vs' l' → Rep I.K I.mg G v d → Q v (upd H q (.lst vs'))) → r (.ref q) xs H Q
def putL (i : Nat) (f : List D → Option (List D × D)) : M D := fun e => match e[i]? with
  | some s => match s.own with
    | some (.l l) => match f l with
      | some (l', d) => .ok d (e.set i (s.put (.l l')))
      | none => .no
    | _ => .no
  | none => .no
section
variable {I : CI} {W : WX} {a b : Expr} {es : List Expr} {pos p0 p1 apos : Pos} {x name : Str}
/-- the slot's list is changed -/
theorem putL_sim {p : Pm} {G H : Hp} {σ : L2.St} {e : En} {i : Nat} {f : List D → Option (List D × D)} {k : D → Hp → Hp → En → Prop} (S : Srp I.K I.mg p G σ H e) (w : Wp I.K I.mg W p G σ (putL i f e) k) :
    ∃ q vs l l' d, σ[i]? = some (some (.ref q)) ∧ H q = some (.lst vs) ∧ Reps I.K I.mg G vs l ∧ f l = some (l', d) ∧ ∀ vs', Reps I.K I.mg G vs' l' → ∃ e', Srp I.K I.mg p G σ (upd H q (.lst vs')) e' ∧ k d G (upd H q (.lst vs')) e' := by
  unfold putL at w
  cases q : e[i]? with
  | none => rw [q] at w; exact w.elim
  | some s =>
    rw [q] at w
    dsimp only at w
    cases z : s.own with
    | none => rw [z] at w; exact w.elim
    | some y =>
      rw [z] at w
      cases y with
      | o c fs => exact w.elim
      | l l =>
        dsimp only at w
        cases hf : f l with
        | none => rw [hf] at w; exact w.elim
        | some pr =>
          obtain ⟨l', d⟩ := pr
          rw [hf] at w
          dsimp only at w
          obtain ⟨q0, h1, h2, vs, h3, h4⟩ := S.ow i s _ q z
          refine ⟨q0, vs, l, l', d, h1, h3, h4, hf, fun vs' r' => ?_⟩
          have S' := S.change q z h1 (o := .lst vs') (fun _ z => nomatch z) (y := .l l') ⟨vs', upd_same, r'⟩
          exact ⟨_, S', w G _ (Same.refl _) S'⟩
def eMeth (i : Nat) (f : List D → List D → Option (List D × D)) (m : M (List Ar)) : M D := fun e => if (e[i]?.bind Sl.look).isSome = true then (M.bnd (aVals m) fun ds => putL i fun l => f l ds) e else .no
theorem upd_list {K : PySem.W.Frag} {H : Hp} {q : Addr} {vs : List V} (h : H q = some (.lst vs)) : tyV K "list" (.ref q) H := .inl ⟨rfl, _, .of h⟩
def tBMV (K : PySem.W.Frag) (r : V → List V → Hp → VK → Prop) (i : Nat) (t : TA) : TE := tBM K "list" r (tVar i) t
theorem look_list {p : Pm} {G H : Hp} {σ : L2.St} {e : En} (S : Srp I.K I.mg p G σ H e) {i : Nat} {q : Addr} (hσ : σ[i]? = some (some (.ref q))) {s : Sl} {y : Ct} (h : e[i]? = some s) (ho : s.own = some y) : ∃ b, σ[i]? = some (some (.ref b)) ∧ CtR I.K I.mg G H b y := by
  obtain ⟨b, h1, _, h3⟩ := S.ow i s y h ho
  exact ⟨b, h1, h3⟩
/-- x.m(..), x an own name -/
def ownL (e : En) (i : Nat) : Bool := match e[i]?.bind Sl.own with
  | some (.l _) => true
  | _ => false
def eMt (i : Nat) (f : List D → List D → Option (List D × D)) (m : M (List Ar)) : M D := fun e => if ownL e i = true then (M.bnd (aVals m) fun ds => putL i fun l => f l ds) e else .no
theorem ownL_at {p : Pm} {G H : Hp} {σ : L2.St} {e : En} (S : Srp I.K I.mg p G σ H e) {i : Nat} (h : ownL e i = true) : ∃ q vs, σ[i]? = some (some (V.ref q)) ∧ H q = some (.lst vs) := by
  unfold ownL at h
  cases q : e[i]? with
  | none => rw [q] at h; cases h
  | some s =>
    rw [q] at h
    dsimp only [Option.bind] at h
    cases z : s.own with
    | none => rw [z] at h; cases h
    | some y =>
      rw [z] at h
      cases y with
      | o _ _ => cases h
      | l l =>
        obtain ⟨b, h1, _, vs, h3, _⟩ := S.ow i s _ q z
        exact ⟨b, vs, h1, h3⟩
theorem mt_sim {id : String} {r : V → List V → Hp → VK → Prop} {t : TA} {i : Nat} {f : List D → List D → Option (List D × D)} {m : M (List Ar)}
    (hr : ∀ (G H : Hp) (q : Addr) (vs xs : List V) (l ds l' : List D) (d : D) (Q : VK), Same G H → H q = some (.lst vs) → Reps I.K I.mg G vs l → Reps I.K I.mg G xs ds → f l ds = some (l', d) →
      (∀ vs' v, Reps I.K I.mg G vs' l' → Rep I.K I.mg G v d → Q v (upd H q (.lst vs'))) → r (.ref q) xs H Q) (h : SimP I W t m) : SimE I W (tBM I.K "list" r (tVar i) t) (eMt i f m) := by
  intro p G σ H e Q S w
  unfold eMt at w
  split at w
  case isFalse => exact w.elim
  rename_i ho
  obtain ⟨q, vs0, hσ, hH⟩ := ownL_at S ho
  refine ⟨_, hσ, upd_list hH, simA_of h p G σ H e _ S (Wp.mono (Wp.bnd w) fun ds G1 H1 e1 s1 S1 w1 xs rs => ?_)⟩
  obtain ⟨q', vs, l, l', d, k1, k2, k3, k4, k5⟩ := putL_sim S1 w1
  rw [hσ] at k1; cases k1
  refine hr G1 H1 q vs xs l ds l' d Q S1.sub k2 k3 rs k4 fun vs' v r1 r2 => ?_
  obtain ⟨e', _, k6⟩ := k5 vs' r1
  exact k6 v r2
theorem de_mt {id : String} {f : List D → List D → Option (List D × D)} {i : Nat} {m : M (List Ar)} (F : OpL I W id f) (slot : Slot "list" name id) (hty : typeOf (.builtin id) = pure (.type "method_descriptor")) (hx : VarOk I.N I.sc i x) (ha : DP I W (a :: es) m)
    (hb : ∀ env : Env, attributeBase (.Name x p0) name env (eval (.Name x p0) env) = eval (.Name x p0) env)
    (hfew : ∀ env : Env, ((backTo pos (starEach (a :: es) env)).all (fun x => !x.1) && (backToKw pos (keywordEach [] env)).all (fun x => x.1.isSome) && decide ((a :: es).length + ([] : List Keyword).length + (if ([] : List Keyword).isEmpty then 0 else 1) < 30)) = true)
    (hl : (apos.endLine == pos.line) = true) : DE I W (.Call (.Attribute (.Name x p0) name apos) (a :: es) [] pos) (eMt i f m) := by
  obtain ⟨r, f1, f2⟩ := F
  obtain ⟨n, t, h1, h2⟩ := ha
  have n2 : nst a = true ∧ es.all nst = true := by simpa using n
  exact ⟨tBM I.K "list" r (tVar i) t, fun X ok => (by
    have := pe_bm (cpos := pos) (apos := apos) PySem.F.plainAttrs_list slot hty (f1 X ok) (pe_slot (p0 := p0) hx X ok) (h1 X ok) (hb X.env) (hfew X.env) hl (star_of n2.1 _ _) (by rw [no_back]; exact no_star n2.2 _)
    rw [ok.hK] at this
    exact this), mt_sim (id := id) f2 h2⟩
theorem de_mt0 {id : String} {f : List D → List D → Option (List D × D)} {i : Nat} (F : OpL I W id f) (slot : Slot "list" name id) (hty : typeOf (.builtin id) = pure (.type "method_descriptor")) (hx : VarOk I.N I.sc i x)
    (hb : ∀ env : Env, attributeBase (.Name x p0) name env (eval (.Name x p0) env) = eval (.Name x p0) env) (hl : (apos.endLine == pos.line) = true) : DE I W (.Call (.Attribute (.Name x p0) name apos) [] [] pos) (eMt i f aNil) := by
  obtain ⟨r, f1, f2⟩ := F
  refine ⟨tBM0 I.K "list" r (tVar i), fun X ok => (by
    have := pe_bm0 (cpos := pos) (apos := apos) PySem.F.plainAttrs_list slot hty (f1 X ok) (pe_slot (p0 := p0) hx X ok) (hb X.env) hl
    rw [ok.hK] at this
    exact this), fun p G σ H e Q S w => ?_⟩
  have := mt_sim (W := W) (id := id) (i := i) (t := tNil) (m := aNil) f2 (fun p G σ H e Q S w => w G H (Same.refl _) S [] ⟨rfl, fun _ _ _ h => by simp at h⟩) p G σ H e Q S w
  exact this
/-- append, pop, .. -/
def lAppend (l ds : List D) : Option (List D × D) := match ds with
  | [d] => if l.length < LIM then some (l ++ [d], .non) else none
  | _ => none
theorem ol_append : OpL I W "list.append" lAppend := by
  refine ⟨rAppend, fun X ok => mt_append, fun G H q vs xs l ds l' d Q s h r rs hf k => ?_⟩
  have ll := lim_line
  match ds, rs, hf with
  | [y], rs, hf =>
    obtain ⟨v, rfl, rv⟩ := reps1 rs
    unfold lAppend at hf
    dsimp only at hf
    split at hf
    · cases hf
      exact ⟨q, vs, v, rfl, rfl, h, by rw [r.1]; omega, k _ _ (r.append (Reps.one rv)) .non⟩
    · cases hf
def lPop (l ds : List D) : Option (List D × D) := match ds with
  | [] => (l[l.length - 1]?).map fun d => (l.dropLast, d)
  | [.int i] => if small62 i then (seqIndex? i l.length).bind fun k => (l[k]?).map fun d => (l.eraseIdx k, d) else none
  | _ => none
theorem reps_drop {K : PySem.W.Frag} {mg : MG} {G : Hp} {vs : List V} {l : List D} (r : Reps K mg G vs l) : Reps K mg G vs.dropLast l.dropLast := by
  refine ⟨by simp [r.1], fun i v d h1 h2 => ?_⟩
  rw [List.dropLast_eq_take] at h1 h2
  exact r.2 i v d (take_get h1).1 (take_get h2).1
theorem reps_erase {K : PySem.W.Frag} {mg : MG} {G : Hp} {vs : List V} {l : List D} (r : Reps K mg G vs l) (k : Nat) : Reps K mg G (vs.eraseIdx k) (l.eraseIdx k) := by
  refine ⟨?_, fun i v d h1 h2 => ?_⟩
  · rw [List.length_eraseIdx, List.length_eraseIdx, r.1]
  · rw [List.getElem?_eraseIdx] at h1 h2
    split at h1
    · rename_i hi
      rw [if_pos hi] at h2
      exact r.2 i v d h1 h2
    · rename_i hi
      rw [if_neg hi] at h2
      exact r.2 _ v d h1 h2
theorem ol_pop : OpL I W "list.pop" lPop := by
  refine ⟨fun x xs H Q => rPop x xs H Q ∨ rPopAt x xs H Q, fun X ok => MtR.or mt_pop mt_popAt, fun G H q vs xs l ds l' d Q s h r rs hf k => ?_⟩
  match ds, rs, hf with
  | [], rs, hf =>
    have e : xs = [] := by have := rs.1; simpa using this
    subst e
    unfold lPop at hf
    dsimp only at hf
    cases z : l[l.length - 1]? with
    | none => rw [z] at hf; cases hf
    | some y =>
      rw [z] at hf; cases hf
      obtain ⟨v, hv, rv⟩ := r.get z
      exact .inl ⟨q, vs, v, rfl, rfl, h, by rw [r.1]; exact hv, k _ _ (reps_drop r) rv⟩
  | [.int i], rs, hf =>
    obtain ⟨v, rfl, rv⟩ := reps1 rs
    rw [rep_int rv]
    unfold lPop at hf
    dsimp only at hf
    split at hf
    · rename_i hs
      obtain ⟨z1, z2⟩ := small62_ok hs
      cases z : seqIndex? i l.length with
      | none => rw [z] at hf; cases hf
      | some j =>
        rw [z] at hf
        dsimp only [Option.bind] at hf
        cases zj : l[j]? with
        | none => rw [zj] at hf; cases hf
        | some y =>
          rw [zj] at hf; cases hf
          obtain ⟨v, hv, rv'⟩ := r.get zj
          exact .inr ⟨q, vs, i, j, v, rfl, rfl, h, by omega, by omega, by rw [r.1]; exact z, hv, k _ _ (reps_erase r j) rv'⟩
    · cases hf
def lExtend (l ds : List D) : Option (List D × D) := match ds with
  | [.lst m] => if l.length + m.length ≤ LIM then some (l ++ m, .non) else none
  | _ => none
def rExt3 (K : PySem.W.Frag) : V → List V → Hp → VK → Prop := fun x vs H Q => ∃ l b xs zs, x = .ref l ∧ vs = [.ref b] ∧ H l = some (.lst xs) ∧ LsT K H b zs ∧ xs.length + zs.length ≤ sizeLine ∧ Q .non (upd H l (.lst (xs ++ zs)))
theorem mt_ext3 {X : Cx} : MtM X "list.extend" (rExt3 X.K) := by
  intro pins s σ H x vs v us Q J rx rv ⟨l, b, xs, zs, ex, ev, hH, hB, hz, q⟩
  subst ex; subst ev
  cases rx
  obtain ⟨u, rfl, ru⟩ := rv.one
  cases ru
  obtain ⟨_, is, n, r, hl, e⟩ := J.lstM hH
  obtain ⟨_, js, n2, r2, hl2, e2⟩ := rdL J hB
  have sz : is.toArray.size + js.toArray.size ≤ sizeLine := by simp only [List.size_toArray]; omega
  refine call_meets PySem.F.slot_list_extend ⟨_, e, rfl⟩ PySem.F.entry_list_extend (PySem.F.args_list_extend_2 _ _)
    (AutoSeq1.list_extend_list_list_0 l is.toArray n b js.toArray n2 (by rw [notLongL sz, Bool.and_false]; exact Bool.false_ne_true) (by simp only [List.size_toArray]; omega) (by omega)) ⟨e, e2, ?_⟩
  exact ⟨.non, _, J.lset (its' := is ++ js) hH e (by simp) (r.append r2) (by simp only [List.length_append]; omega), rfl, q⟩
theorem ol_extend : OpL I W "list.extend" lExtend := by
  refine ⟨rExt3 I.K, fun X ok => by have h0 := mt_ext3 (X := X); rw [ok.hK] at h0; exact h0, fun G H q vs xs l ds l' d Q s h r rs hf k => ?_⟩
  have ll := lim_line
  match ds, rs, hf with
  | [.lst m], rs, hf =>
    obtain ⟨v, rfl, rv⟩ := reps1 rs
    obtain ⟨b, ws, rfl, hb, rb⟩ := rv.ref_lst
    unfold lExtend at hf
    dsimp only at hf
    split at hf
    · cases hf
      exact ⟨q, b, vs, ws, rfl, rfl, h, Same.ls s hb, by rw [r.1, rb.1]; omega, k _ _ (r.append rb) .non⟩
    · cases hf
def lReverse (l ds : List D) : Option (List D × D) := match ds with
  | [] => some (l.reverse, .non)
  | _ => none
/-! ### x[i] = v -/
def lSet (l : List D) (i d : D) : Option (List D × D) := match i with
  | .int k => (ixN l.length k).map fun j => (l.set j d, .non)
  | _ => none
def gIx (i : Nat) (mi : M D) (d : D) : M Unit := fun e => if ownL e i = true then (M.bnd mi fun k => M.bnd (putL i fun l => lSet l k d) fun _ => M.ret ()) e else .no
theorem dg_ix {i : Nat} {mi : M D} (hx : VarOk I.N I.sc i x) (hi : DE I W b mi)
    (ha : ∀ (env : Env) v, assign (.Subscript (.Name x p0) b pos) env v = (do
      let ov ← holding [v] (eval (.Name x p0) env)
      let iv ← holding [v, ov] (eval b env)
      standAt pos
      holding [v, ov, iv] (setItem ov iv v)
      release [v, ov, iv] []))
    (hne : ∀ e c fs e', mi e ≠ .ex c fs e') : DG I W (.Subscript (.Name x p0) b pos) (gIx i mi) [] := by
  obtain ⟨t, h1, h2⟩ := hi
  refine ⟨gSub (tVar i) t rSetL, fun X ok => pg_sub (pe_slot hx X ok) (h1 X ok) set_list (ha X.env), fun p G σ H e v d Q S r w => ?_⟩
  unfold gIx at w
  split at w
  case isFalse => exact w.elim
  rename_i ho
  obtain ⟨q, vs0, hσ, hH⟩ := ownL_at S ho
  refine ⟨_, hσ, ?_⟩
  unfold M.bnd at w
  refine h2 p G σ H e _ S ?_
  cases z : mi e with
  | no => rw [z] at w; exact w.elim
  | ex c fs e' => exact absurd z (hne e c fs e')
  | ok k e1 =>
    rw [z] at w
    dsimp only at w
    intro G1 H1 s1 S1 kv rk
    have w1 : Wp I.K I.mg W p G1 σ (putL i (fun l => lSet l k d) e1) fun _ G' H' _ => Q σ H' := by
      cases z1 : putL i (fun l => lSet l k d) e1 with
      | no => rw [z1] at w; exact w.elim
      | ex c fs e' =>
        exfalso
        unfold putL at z1
        split at z1
        · split at z1
          · split at z1 <;> cases z1
          · cases z1
        · cases z1
      | ok u e2 =>
        rw [z1] at w
        exact fun G2 H2 s2 S2 => w G2 σ H2 (s1.trans s2) S2 ⟨rfl, fun _ _ => rfl⟩
    obtain ⟨q', vs, l, l', d', k1, k2, k3, k4, k5⟩ := putL_sim S1 w1
    rw [hσ] at k1; cases k1
    unfold lSet at k4
    cases rk <;> first | cases k4 | skip
    rename_i n
    dsimp only at k4
    cases zj : ixN l.length n with
    | none => rw [zj] at k4; cases k4
    | some j =>
      rw [zj] at k4
      have k4' : (l.set j d, D.non) = (l', d') := Option.some.inj k4
      cases k4'
      refine ⟨q, vs, n, j, rfl, rfl, k2, by rw [k3.1]; exact zj, ?_⟩
      obtain ⟨e', _, k6⟩ := k5 _ (k3.set (r.mono s1) j)
      exact k6
theorem gIx_ne {i : Nat} {mi : M D} (hne : ∀ e c fs e', mi e ≠ .ex c fs e') : ∀ d e c fs e', gIx i mi d e ≠ .ex c fs e' := by
  intro d e c fs e' h
  unfold gIx at h
  split at h
  · unfold M.bnd at h
    cases z : mi e with
    | no => rw [z] at h; cases h
    | ex c' fs' e2 => exact hne _ _ _ _ z
    | ok k e1 =>
      rw [z] at h
      dsimp only at h
      cases z1 : putL i (fun l => lSet l k d) e1 with
      | no => rw [z1] at h; cases h
      | ok _ _ => rw [z1] at h; cases h
      | ex _ _ _ =>
        unfold putL at z1
        split at z1
        · split at z1
          · split at z1 <;> cases z1
          · cases z1
        · cases z1
  · cases h
end
end DL
end

section
namespace DL
open PySem PySem.Spec L2
open PyProof.Rows hiding St
open RZ

section
variable {I : CI} {W : WX} {a b tg : Expr} {es : List Expr} {pos p0 p1 tpos : Pos} {x y : Str}
/-! ### a list or a tuple, walked -/
def seqL : D → Option (List D)
  | .lst l => some l
  | .tup l => some l
  | _ => none
def iSeq (m : M D) : M (List D) := M.bnd m fun d => lift (seqL d)
theorem pi_or {X : Cx} {iter : Expr} {w1 w2 : TI} (h1 : PI X tg iter w1) (h2 : PI X tg iter w2) : PI X tg iter (fun σ H R => w1 σ H R ∨ w2 σ H R) := by
  refine ⟨fun pins s σ H R J h => ?_⟩
  rcases h with h | h
  · exact h1.run pins s σ H R J h
  · exact h2.run pins s σ H R J h
theorem di_seq {m : M D} (h : DE I W a m) : DI I W tg a (iSeq m) := by
  obtain ⟨w1, i1, i2⟩ := di_lst (tg := tg) h
  obtain ⟨w2, j1, j2⟩ := di_tup (tg := tg) h
  refine ⟨_, fun X ok => pi_or (i1 X ok) (j1 X ok), fun p G σ H e R S w => ?_⟩
  have pick : ∀ r, m e = r → w1 σ H R ∨ w2 σ H R := fun r q => by
    unfold iSeq M.bnd at w
    rw [q] at w
    cases r with
    | no => exact w.elim
    | ex c fs e' =>
      refine .inl (i2 p G σ H e R S ?_)
      unfold iLst M.bnd
      rw [q]; exact w
    | ok d e' =>
      dsimp only at w
      cases d with
      | lst l =>
        refine .inl (i2 p G σ H e R S ?_)
        unfold iLst M.bnd
        rw [q]; exact w
      | tup l =>
        refine .inr (j2 p G σ H e R S ?_)
        unfold iTupM M.bnd
        rw [q]; exact w
      | non => exact w.elim
      | bl _ => exact w.elim
      | int _ => exact w.elim
      | str _ => exact w.elim
      | dct _ => exact w.elim
      | obj _ _ => exact w.elim
  exact pick _ rfl
/-! ### zip, enumerate -/
def zipL (l m : List D) : List D := (l.zip m).map fun z => .tup [z.1, z.2]
theorem zipL_len (l m : List D) : (zipL l m).length = min l.length m.length := by simp [zipL]
theorem zipL_get {l m : List D} {i : Nat} {d : D} (h : (zipL l m)[i]? = some d) : ∃ u v, l[i]? = some u ∧ m[i]? = some v ∧ d = .tup [u, v] := by
  unfold zipL at h
  rw [List.getElem?_map] at h
  cases q : (l.zip m)[i]? with
  | none => rw [q] at h; cases h
  | some z =>
    rw [q] at h
    obtain ⟨u, v⟩ := z
    obtain ⟨h1, h2⟩ := List.getElem?_zip_eq_some.mp q
    exact ⟨u, v, h1, h2, (Option.some.inj h).symm⟩
theorem rd_sq {K : PySem.W.Frag} {G H : Hp} {q : Addr} {vs : List V} (s : Same G H) (h : LsT K G q vs) : SqL K H q vs := LsT.sq (Same.ls s h)
theorem pair_new {K : PySem.W.Frag} {mg : MG} {p : Pm} {G H : Hp} {σ : L2.St} {e : En} {T : Addr} {v w : V} {c d : D} (S : Srp K mg p G σ H e) (n : H T = none) (r : Rep K mg G v c) (r' : Rep K mg G w d) :
    ∃ G2, Same G G2 ∧ Srp K mg p G2 σ (upd H T (.tup [v, w])) e ∧ Rep K mg G2 (.ref T) (.tup [c, d]) ∧ ∀ a o, H a = some o → upd H T (.tup [v, w]) a = some o := by
  obtain ⟨s2, S2⟩ := S.laid (o := .tup [v, w]) n
  exact ⟨_, s2, S2, .mk_tup (.of upd_same) (.cons (r.mono s2) (.cons (r'.mono s2) .nil)), fun a o h => by rw [upd_ne (fun z => by rw [z, n] at h; cases h)]; exact h⟩
theorem iter_zip {K : PySem.W.Frag} {mg : MG} {G : Hp} {q q' : Addr} {vs ws : List V} {l m : List D} (h : LsT K G q vs) (r : Reps K mg G vs l) (h' : LsT K G q' ws) (r' : Reps K mg G ws m) : IterOk K mg (Itz K q q') G (zipL l m) := by
  intro p G' σ H e s S i
  have h1 : SqL K H q vs := rd_sq S.sub (Same.ls s h)
  have h2 : SqL K H q' ws := rd_sq S.sub (Same.ls s h')
  refine ⟨fun ei => ⟨vs, ws, h1, h2, ?_⟩, fun d hd => ?_⟩
  · rw [zipL_len] at ei
    rw [r.1, r'.1]; omega
  · obtain ⟨u, v, e1, e2, rfl⟩ := zipL_get hd
    obtain ⟨x1, f1, g1⟩ := r.get e1
    obtain ⟨x2, f2, g2⟩ := r'.get e2
    refine ⟨⟨vs, ws, x1, x2, h1, h2, f1, f2⟩, fun z H2 y => ?_⟩
    obtain ⟨T, y1, y2, rfl, nT, rfl, k1, k2⟩ := y
    have := k1 vs h1; rw [f1] at this; cases this
    have := k2 ws h2; rw [f2] at this; cases this
    exact pair_new S nT (g1.mono s) (g2.mono s)
theorem iter_zipT {K : PySem.W.Frag} {mg : MG} {G : Hp} {q q' : Addr} {vs ws : List V} {l m : List D} (h : SqT K G q vs) (r : Reps K mg G vs l) (h' : SqT K G q' ws) (r' : Reps K mg G ws m) : IterOk K mg (ItzT K q q') G (zipL l m) := by
  intro p G' σ H e s S i
  have h1 : SqT K H q vs := Same.seqT S.sub (Same.seqT s h)
  have h2 : SqT K H q' ws := Same.seqT S.sub (Same.seqT s h')
  refine ⟨fun ei => ⟨vs, ws, h1, h2, ?_⟩, fun d hd => ?_⟩
  · rw [zipL_len] at ei
    rw [r.1, r'.1]; omega
  · obtain ⟨u, v, e1, e2, rfl⟩ := zipL_get hd
    obtain ⟨x1, f1, g1⟩ := r.get e1
    obtain ⟨x2, f2, g2⟩ := r'.get e2
    refine ⟨⟨vs, ws, x1, x2, h1, h2, f1, f2⟩, fun z H2 y => ?_⟩
    obtain ⟨T, y1, y2, rfl, nT, rfl, k1, k2⟩ := y
    have := k1 vs h1; rw [f1] at this; cases this
    have := k2 ws h2; rw [f2] at this; cases this
    exact pair_new S nT (g1.mono s) (g2.mono s)
def zipD : List D → Option (List D)
  | [.lst l, .lst m] => some (zipL l m)
  | [.tup l, .tup m] => some (zipL l m)
  | _ => none
def iZipM (m : M (List Ar)) : M (List D) := M.bnd (aVals m) fun ds => lift (zipD ds)
theorem di_zip {m : M (List Ar)} {elts : List Expr} {kk} (g : I.sc.names.lookup ("zip" : Str) = some .globalImplicit) (hm : I.mg ("zip" : Str) = none) (h : DP I W [a, b] m) : DI I W (.Tuple elts kk tpos) (.Call (.Name "zip" p0) [a, b] [] pos) (iZipM m) := by
  obtain ⟨n, t, h1, h2⟩ := h
  have n2 : nst a = true ∧ nst b = true := by simpa using n
  refine ⟨iZipA I.K t, fun X ok => (by
    have := pi_zipA (tpos := tpos) (elts := elts) (kk := kk) (pos := pos) (p := p0) (gl_of ok.hsc g) (by rw [ok.hmg]; exact hm) (h1 X ok) (star_of n2.1 _ _) (by rw [no_back]; exact no_star (by simp [n2.2]) _)
    rw [ok.hK] at this; exact this), fun p G σ H e R S w => ?_⟩
  refine simA_of h2 p G σ H e _ S (Wp.mono (Wp.bnd w) fun ds G1 H1 e1 s1 S1 w1 vs r => ?_)
  obtain ⟨l, hl, k⟩ := lift_wp w1
  match ds, r, hl with
  | [.lst l, .lst m], r, hl =>
    obtain ⟨v, v', rfl, r1, r2⟩ := reps2 r
    obtain ⟨q, vs, rfl, g1, g2⟩ := r1.ref_lst
    obtain ⟨q', ws, rfl, g3, g4⟩ := r2.ref_lst
    cases hl
    exact ⟨q, q', vs, ws, rfl, .inl ⟨rd_sq S1.sub g1, rd_sq S1.sub g3, k G1 H1 (Same.refl _) S1 _ (iter_zip g1 g2 g3 g4)⟩⟩
  | [.tup l, .tup m], r, hl =>
    obtain ⟨v, v', rfl, r1, r2⟩ := reps2 r
    obtain ⟨q, vs, rfl, g1, g2⟩ := r1.ref_tup
    obtain ⟨q', ws, rfl, g3, g4⟩ := r2.ref_tup
    cases hl
    exact ⟨q, q', vs, ws, rfl, .inr ⟨Same.seqT S1.sub g1, Same.seqT S1.sub g3, k G1 H1 (Same.refl _) S1 _ (iter_zipT g1 g2 g3 g4)⟩⟩
def enumL (l : List D) : List D := (l.zipIdx).map fun z => .tup [.int (z.2 : Nat), z.1]
theorem enumL_get {l : List D} {i : Nat} {d : D} (h : (enumL l)[i]? = some d) : ∃ u, l[i]? = some u ∧ d = .tup [.int (i : Nat), u] := by
  unfold enumL at h
  rw [List.getElem?_map] at h
  cases q : l.zipIdx[i]? with
  | none => rw [q] at h; cases h
  | some z =>
    rw [q] at h
    obtain ⟨u, j⟩ := z
    rw [List.getElem?_zipIdx] at q
    cases q2 : l[i]? with
    | none => rw [q2] at q; cases q
    | some w =>
      rw [q2] at q
      have q' : (w, 0 + i) = (u, j) := Option.some.inj q
      injection q' with e1 e2
      subst e1
      refine ⟨w, rfl, ?_⟩
      have h' : D.tup [.int (j : Nat), w] = d := Option.some.inj h
      rw [← h', ← e2, Nat.zero_add]
def enumD : List D → Option (List D)
  | [.lst l] => some (enumL l)
  | _ => none
def iEnumM (m : M (List Ar)) : M (List D) := M.bnd (aVals m) fun ds => lift (enumD ds)
theorem iter_enum {K : PySem.W.Frag} {mg : MG} {G : Hp} {q : Addr} {vs : List V} {l : List D} (h : LsT K G q vs) (r : Reps K mg G vs l) : IterOk K mg (Ite K q) G (enumL l) := by
  intro p G' σ H e s S i
  have h1 : SqL K H q vs := rd_sq S.sub (Same.ls s h)
  refine ⟨fun ei => ⟨vs, h1, by rw [r.1, ei]; simp [enumL]⟩, fun d hd => ?_⟩
  obtain ⟨u, e1, rfl⟩ := enumL_get hd
  obtain ⟨x1, f1, g1⟩ := r.get e1
  refine ⟨⟨vs, x1, h1, f1⟩, fun z H2 y => ?_⟩
  obtain ⟨T, y1, rfl, nT, rfl, k1⟩ := y
  have := k1 vs h1; rw [f1] at this; cases this
  exact pair_new S nT (.int _) (g1.mono s)
theorem di_enum {m : M (List Ar)} {elts : List Expr} {kk} (g : I.sc.names.lookup ("enumerate" : Str) = some .globalImplicit) (hm : I.mg ("enumerate" : Str) = none) (h : DP I W [a] m) : DI I W (.Tuple elts kk tpos) (.Call (.Name "enumerate" p0) [a] [] pos) (iEnumM m) := by
  obtain ⟨n, t, h1, h2⟩ := h
  have n2 : nst a = true := by simpa using n
  refine ⟨iEnum I.K t, fun X ok => (by
    have := pi_enum (tpos := tpos) (elts := elts) (kk := kk) (pos := pos) (p := p0) (gl_of ok.hsc g) (by rw [ok.hmg]; exact hm) (h1 X ok) (star_of n2 _ _)
    rw [ok.hK] at this; exact this), fun p G σ H e R S w => ?_⟩
  refine simA_of h2 p G σ H e _ S (Wp.mono (Wp.bnd w) fun ds G1 H1 e1 s1 S1 w1 vs r => ?_)
  obtain ⟨l, hl, k⟩ := lift_wp w1
  match ds, r, hl with
  | [.lst l], r, hl =>
    obtain ⟨v, rfl, r1⟩ := reps1 r
    obtain ⟨q, vs, rfl, g1, g2⟩ := r1.ref_lst
    cases hl
    exact ⟨q, vs, rfl, rd_sq S1.sub g1, k G1 H1 (Same.refl _) S1 _ (iter_enum g1 g2)⟩
/-! ### a tuple or a list into names -/
theorem pg_or {X : Cx} {t1 t2 : TG} (h1 : PG X tg t1) (h2 : PG X tg t2) : PG X tg (fun v σ H Q => t1 v σ H Q ∨ t2 v σ H Q) := by
  refine ⟨fun pins s σ H v u Q J r h => ?_⟩
  rcases h with h | h
  · exact h1.run pins s σ H v u Q J r h
  · exact h2.run pins s σ H v u Q J r h
def gSeqM (n : Nat) (h : List D → M Unit) (d : D) : M Unit := match seqL d with
  | some ds => if ds.length = n then h ds else fun _ => .no
  | none => fun _ => .no
theorem dg_seq {as : List Expr} {k} {h : List D → M Unit} {gs : List Nat} (hh : DGs I W as h gs) : DG I W (.Tuple as k pos) (gSeqM as.length h) gs := by
  obtain ⟨t1, i1, i2⟩ := dg_tup (pos := pos) (k := k) hh
  obtain ⟨t2, j1, j2⟩ := dg_lst (pos := pos) (k := k) hh
  refine ⟨_, fun X ok => pg_or (i1 X ok) (j1 X ok), fun p G σ H e v d Q S r w => ?_⟩
  cases d with
  | lst l => exact .inr (j2 p G σ H e v _ Q S r w)
  | tup l => exact .inl (i2 p G σ H e v _ Q S r w)
  | non => exact w.elim
  | bl _ => exact w.elim
  | int _ => exact w.elim
  | str _ => exact w.elim
  | dct _ => exact w.elim
  | obj _ _ => exact w.elim
/-! ### no error comes of these -/
def nox {α : Type} (m : M α) : M α := fun e => match m e with
  | .ex _ _ _ => .no
  | r => r
theorem nox_ne {α : Type} {m : M α} : ∀ e c fs e', nox m e ≠ .ex c fs e' := by
  intro e c fs e' h
  unfold nox at h
  cases z : m e <;> rw [z] at h <;> cases h
theorem de_nox {m : M D} (h : DE I W a m) : DE I W a (nox m) := by
  obtain ⟨t, h1, h2⟩ := h
  refine ⟨t, h1, fun p G σ H e Q S w => h2 p G σ H e Q S ?_⟩
  unfold nox at w
  cases z : m e with
  | no => rw [z] at w; exact w
  | ex c fs e' => rw [z] at w; exact w.elim
  | ok d e' => rw [z] at w; exact w
theorem gSet_ne {i : Nat} : ∀ d e c fs e', gSet i d e ≠ .ex c fs e' := by
  intro d e c fs e' z
  unfold gSet at z
  split at z <;> cases z
theorem gCons_ne {g : D → M Unit} {h : List D → M Unit} (h1 : ∀ d e c fs e', g d e ≠ .ex c fs e') (h2 : ∀ d e c fs e', h d e ≠ .ex c fs e') : ∀ ds e c fs e', gConsM g h ds e ≠ .ex c fs e' := by
  intro ds e c fs e' z
  unfold gConsM at z
  cases ds with
  | nil => cases z
  | cons d ds =>
    unfold M.bnd at z
    dsimp only at z
    cases q : g d e with
    | no => rw [q] at z; cases z
    | ex _ _ _ => exact h1 _ _ _ _ _ q
    | ok u e2 => rw [q] at z; exact h2 _ _ _ _ _ z
theorem gNil_ne : ∀ ds e c fs e', gNilM ds e ≠ .ex c fs e' := by
  intro ds e c fs e' z
  unfold gNilM at z
  cases ds <;> cases z
theorem gSeq_ne {n : Nat} {h : List D → M Unit} (h2 : ∀ d e c fs e', h d e ≠ .ex c fs e') : ∀ d e c fs e', gSeqM n h d e ≠ .ex c fs e' := by
  intro d e c fs e' z
  unfold gSeqM at z
  cases q : seqL d with
  | none => rw [q] at z; cases z
  | some ds =>
    rw [q] at z
    by_cases hl : ds.length = n
    · dsimp only at z; rw [if_pos hl] at z; exact h2 _ _ _ _ _ z
    · dsimp only at z; rw [if_neg hl] at z; cases z
/-! ### name op= e -/
def sAug (i : Nat) (f : D → D → Option Ret) (m : M D) : M Fl := fun e => match e[i]? with
  | some (.sh d) => M.bnd m (fun y => M.bnd (lift (f d y)) (gOwn i)) e
  | _ => .no
theorem ds_aug {i : Nat} {op : Operator} {f : D → D → Option Ret} {m : M D} (ho : OpD I W (inplaceOp op) f) (hx : SetOk I.N I.sc I.fn i x) (h : DE I W a m) : DS I W (.AugAssign (.Name x p0) op a pos) (sAug i f m) := by
  obtain ⟨r, r1, r2⟩ := ho
  obtain ⟨t, h1, h2⟩ := h
  refine ⟨tAug i t r, fun X ok => ps_aug (by rw [ok.hN]; exact ok.nd) (by rw [ok.hN]; exact hx.hN) (by rw [ok.hsc]; exact hx.hv) (h1 X ok) (fun pins s σ H x y v u Q J rx ry q => r1 X ok pins s σ H x y v u Q J rx ry q) (by rw [ok.hfn, ok.hsc]; exact hx.hf), fun p G σ H e E S w => ?_⟩
  unfold sAug at w
  cases q : e[i]? with
  | none => rw [q] at w; exact w.elim
  | some s =>
    rw [q] at w
    cases s with
    | no => exact w.elim
    | ow _ => exact w.elim
    | io _ => exact w.elim
    | sh d =>
      obtain ⟨v, hv, rv⟩ := S.sh i d q
      refine ⟨v, hv, h2 p G σ H e _ S (Wp.mono (Ws.bnd w) fun dy G1 H1 e1 s1 S1 w1 vy ry => ?_)⟩
      have w2 := Ws.bnd (σ := σ) w1
      obtain ⟨res, hf, k⟩ := lift_wp w2
      refine r2 p G1 σ H1 e1 v vy d dy res _ S1 (rv.mono s1) ry hf fun G2 H2 s2 S2 => ?_
      have w3 := k G2 H2 s2 S2
      unfold gOwn at w3
      cases q1 : e1[i]? with
      | none => rw [q1] at w3; exact w3.elim
      | some s0 =>
        have hi := (List.getElem?_eq_some_iff.mp q1).1
        rw [q1] at w3
        have nio : (∀ y, s0 ≠ .io y) → ∀ y, e1[i]? ≠ some (.io y) := fun h y z => by rw [q1] at z; cases z; exact h y rfl
        cases res with
        | sh dd =>
          intro u ru
          cases s0 with
          | io _ => exact w3.elim
          | no => exact w3 G2 _ H2 (Same.refl _) (S2.setSh ru hi (nio fun _ z => nomatch z))
          | sh _ => exact w3 G2 _ H2 (Same.refl _) (S2.setSh ru hi (nio fun _ z => nomatch z))
          | ow _ => exact w3 G2 _ H2 (Same.refl _) (S2.setSh ru hi (nio fun _ z => nomatch z))
        | ow y =>
          intro c gc cc h0 hF ap
          cases s0 with
          | io _ => exact w3.elim
          | no => exact w3 G2 _ H2 (Same.refl _) (S2.setOw gc cc h0 hF ap hi (nio fun _ z => nomatch z))
          | sh _ => exact w3 G2 _ H2 (Same.refl _) (S2.setOw gc cc h0 hF ap hi (nio fun _ z => nomatch z))
          | ow _ => exact w3 G2 _ H2 (Same.refl _) (S2.setOw gc cc h0 hF ap hi (nio fun _ z => nomatch z))
theorem io_add : OpD I W (inplaceOp .Add) (fInt0 fun i j => i + j) := opd_int0 fun _ => iop_add
theorem io_sub : OpD I W (inplaceOp .Sub) fSub := opd_int0 fun _ => iop_sub
theorem io_or : OpD I W (inplaceOp .BitOr) fOr := opd_int0 fun _ => iop_or
theorem io_and : OpD I W (inplaceOp .BitAnd) fAnd := opd_int0 fun _ => iop_and
theorem io_xor : OpD I W (inplaceOp .BitXor) fXor := opd_int0 fun _ => iop_xor
end
end DL
end

section
namespace DL
open PySem PySem.Spec L2
open PyProof.Rows hiding St

section
variable {I : CI} {W : WX} {a b tg iter elt : Expr} {es ifs : List Expr} {scope : Scope} {pos p0 p1 tpos spos py : Pos} {x y : Str}
/-! ### x, y = a, b with plain local names -/
def sPar (m : M (List Ar)) (i j : Nat) : M Fl := M.bnd (aVals m) fun ds => match ds with
  | [u, v] => M.bnd (gSet i u) fun _ => M.bnd (gSet j v) fun _ => M.ret .nx
  | _ => fun _ => .no
theorem set_sim {p : Pm} {G H : Hp} {σ : L2.St} {e : En} {i : Nat} {v : V} {d : D} {E : Ends} {k : M Fl} (S : Srp I.K I.mg p G σ H e) (r : Rep I.K I.mg G v d) (w : Ws I.K I.mg W p G (M.bnd (gSet i d) (fun _ => k) e) E) :
    Srp I.K I.mg p G (σ.set i (some v)) H (e.set i (.sh d)) ∧ Ws I.K I.mg W p G (k (e.set i (.sh d))) E := by
  unfold M.bnd gSet at w
  cases q : e[i]? with
  | none => rw [q] at w; exact w.elim
  | some s0 =>
    have hi := (List.getElem?_eq_some_iff.mp q).1
    rw [q] at w
    have nio : (∀ y, s0 ≠ .io y) → ∀ y, e[i]? ≠ some (.io y) := fun h y z => by rw [q] at z; cases z; exact h y rfl
    cases s0 with
    | io _ => exact w.elim
    | no => exact ⟨S.setSh r hi (nio fun _ z => nomatch z), w⟩
    | sh _ => exact ⟨S.setSh r hi (nio fun _ z => nomatch z), w⟩
    | ow _ => exact ⟨S.setSh r hi (nio fun _ z => nomatch z), w⟩
theorem ds_par {i j : Nat} {m : M (List Ar)} {k k2} {pt pt2 : Pos} (hi : I.N[i]? = some x) (hj : I.N[j]? = some y) (hij : i ≠ j) (hx : I.sc.names.lookup x = some .local) (hy : I.sc.names.lookup y = some .local) (ha : DP I W [a, b] m)
    (hw : ∀ env : Env, env.scope = I.sc → swappedStores [.Tuple [.Name x p0, .Name y p1] k pt] (.Tuple [a, b] k2 pt2) env = pure (some [x, y]))
    (hs : ∀ env : Env, swapsWithSole [.Tuple [.Name x p0, .Name y p1] k pt] (.Tuple [a, b] k2 pt2) pos.line env = pure false) :
    DS I W (.Assign [.Tuple [.Name x p0, .Name y p1] k pt] (.Tuple [a, b] k2 pt2) pos) (sPar m i j) := by
  obtain ⟨n, t, h1, h2⟩ := ha
  refine ⟨tPar i j t, fun X ok => ps_par ok.calm (by rw [ok.hN]; exact ok.nd) (by rw [ok.hN]; exact hi) (by rw [ok.hN]; exact hj) hij (by rw [ok.hsc]; exact hx) (by rw [ok.hsc]; exact hy) (h1 X ok) (hw X.env ok.hsc) (hs X.env), fun p G σ H e E S w => ?_⟩
  refine simA_of h2 p G σ H e _ S (Wp.mono (Ws.bnd w) fun ds G1 H1 e1 s1 S1 w1 vs r => ?_)
  match ds, vs, r, w1 with
  | [u, v], [u', v'], r, w1 =>
    have r1 := r.2 0 u' u rfl rfl
    have r2 := r.2 1 v' v rfl rfl
    obtain ⟨S2, w2⟩ := set_sim S1 r1 w1
    obtain ⟨S3, w3⟩ := set_sim S2 r2 w2
    exact ⟨u', v', rfl, w3 G1 _ H1 (Same.refl _) S3⟩
  | [u, v], [], r, w1 => exact absurd r.1 (by simp)
  | [u, v], [_], r, w1 => exact absurd r.1 (by simp)
  | [u, v], _ :: _ :: _ :: _, r, w1 => exact absurd r.1 (by simp)
  | [], _, _, w1 => exact w1.elim
  | [_], _, _, w1 => exact w1.elim
  | _ :: _ :: _ :: _, _, _, w1 => exact w1.elim
/-! ### name = [..] on one line -/
theorem own_sim {i : Nat} {t : TE} {m : M Ret} (h2 : SimR I W t m) : SimS I W (tAsg t (gName i)) (sOwn m i) := by
  intro p G σ H e E S w
  refine h2 p G σ H e _ S (Wp.mono (Ws.bnd w) fun r G1 H1 e1 s1 S1 w1 => ?_)
  unfold gOwn at w1
  cases q : e1[i]? with
  | none => rw [q] at w1; exact w1.elim
  | some s =>
    have hi := (List.getElem?_eq_some_iff.mp q).1
    rw [q] at w1
    have nio : (∀ y, s ≠ .io y) → ∀ y, e1[i]? ≠ some (.io y) := fun h y z => by rw [q] at z; cases z; exact h y rfl
    cases r with
    | sh d =>
      intro v rv
      cases s with
      | io _ => exact w1.elim
      | no => exact w1 G1 _ H1 (Same.refl _) (S1.setSh rv hi (nio fun _ z => nomatch z))
      | sh _ => exact w1 G1 _ H1 (Same.refl _) (S1.setSh rv hi (nio fun _ z => nomatch z))
      | ow _ => exact w1 G1 _ H1 (Same.refl _) (S1.setSh rv hi (nio fun _ z => nomatch z))
    | ow y =>
      intro b gb c h0 hF ap
      cases s with
      | io _ => exact w1.elim
      | no => exact w1 G1 _ H1 (Same.refl _) (S1.setOw gb c h0 hF ap hi (nio fun _ z => nomatch z))
      | sh _ => exact w1 G1 _ H1 (Same.refl _) (S1.setOw gb c h0 hF ap hi (nio fun _ z => nomatch z))
      | ow _ => exact w1 G1 _ H1 (Same.refl _) (S1.setOw gb c h0 hF ap hi (nio fun _ z => nomatch z))
theorem ds_setLc {i : Nat} {own : List (Str × Nat)} {mi : M (List D)} {g : D → M Unit} {gs : List Nat} {t : M Bool} {m : M D} (hy : I.N[i]? = some y) (hyl : I.sc.names.lookup y = some .local) (hk : I.sc.kind = .function) (hl : (py.line == pos.line) = true)
    (hn : (scope.names.any fun (n, k) => n == y && (k == .local || k == .cell)) = false)
    (hi : DI I W tg iter mi) (ok : BlkOk I.N I.sc scope own) (hg : DG (I.blk scope) W0 tg g gs) (hgs : ∀ i ∈ gs, i ∈ own.map (·.2))
    (ht : DTs (I.blk scope) W0 ifs t) (he : DE (I.blk scope) W0 elt m) (hs : ∀ (env : Env) x, foldedSetIterable iter env x = pure x) :
    DS I W (.Assign [.Name y py] (.ListComp elt [⟨tg, iter, ifs, 0⟩] scope pos) spos) (sOwn (rComp mi g t m (own.map (·.2))) i) := by
  obtain ⟨w, i1, i2⟩ := hi
  obtain ⟨u, g1, g2⟩ := hg
  obtain ⟨tt, t1, t2⟩ := ht
  obtain ⟨te, e1, e2⟩ := he
  exact ⟨tAsg (tLc w u tt te (own.map (·.2))) (gName i), fun X kx => ps_setLc kx.calm (by rw [kx.hN]; exact kx.nd) (by rw [kx.hN]; exact hy) (by rw [kx.hsc]; exact hyl) (sw_true (by rw [kx.hsc]; exact hk) (by rw [kx.hsc]; exact hyl) hl hn) (i1 X kx) (by rw [kx.hN, kx.hsc]; exact ok) (fun s H C cl fp => g1 _ (okx_blk kx scope s H C cl fp)) (fun s H C cl fp => t1 _ (okx_blk kx scope s H C cl fp)) (fun s H C cl fp => e1 _ (okx_blk kx scope s H C cl fp)) (hs X.env),
    own_sim (comp_sim i2 g2 hgs t2 e2)⟩
theorem set_simS {i : Nat} {x : Str} {t : TE} {m : M D} (hx : I.N[i]? = some x) (h2 : SimE I W t m) : SimS I W (tAsg t (gName i)) (sAsg m (gSet i)) := by
  intro p G σ H e E S w
  refine h2 p G σ H e _ S (Wp.mono (Ws.bnd w) fun d G1 H1 e1 s1 S1 w1 v r => ?_)
  obtain ⟨S2, w2⟩ := set_sim S1 r w1
  exact w2 G1 _ H1 (Same.refl _) S2
/-- the same, its value for all -/
theorem ds_setLcF {i : Nat} {own : List (Str × Nat)} {mi : M (List D)} {g : D → M Unit} {gs : List Nat} {t : M Bool} {m : M D} (hy : I.N[i]? = some y) (hyl : I.sc.names.lookup y = some .local) (hk : I.sc.kind = .function) (hl : (py.line == pos.line) = true)
    (hn : (scope.names.any fun (n, k) => n == y && (k == .local || k == .cell)) = false)
    (hi : DI I W tg iter mi) (ok : BlkOk I.N I.sc scope own) (hg : DG (I.blk scope) W0 tg g gs) (hgs : ∀ i ∈ gs, i ∈ own.map (·.2))
    (ht : DTs (I.blk scope) W0 ifs t) (he : DE (I.blk scope) W0 elt m) (hs : ∀ (env : Env) x, foldedSetIterable iter env x = pure x) :
    DS I W (.Assign [.Name y py] (.ListComp elt [⟨tg, iter, ifs, 0⟩] scope pos) spos) (sAsg (mD (rComp mi g t m (own.map (·.2)))) (gSet i)) := by
  obtain ⟨w, i1, i2⟩ := hi
  obtain ⟨u, g1, g2⟩ := hg
  obtain ⟨tt, t1, t2⟩ := ht
  obtain ⟨te, e1, e2⟩ := he
  exact ⟨tAsg (tLc w u tt te (own.map (·.2))) (gName i), fun X kx => ps_setLc kx.calm (by rw [kx.hN]; exact kx.nd) (by rw [kx.hN]; exact hy) (by rw [kx.hsc]; exact hyl) (sw_true (by rw [kx.hsc]; exact hk) (by rw [kx.hsc]; exact hyl) hl hn) (i1 X kx) (by rw [kx.hN, kx.hsc]; exact ok) (fun s H C cl fp => g1 _ (okx_blk kx scope s H C cl fp)) (fun s H C cl fp => t1 _ (okx_blk kx scope s H C cl fp)) (fun s H C cl fp => e1 _ (okx_blk kx scope s H C cl fp)) (hs X.env),
    set_simS hy (.of_r (comp_sim i2 g2 hgs t2 e2))⟩
/-! ### products -/
def mulI (i j : Int) : Bool := (decide (-(2 ^ 64) < i) && decide (i < 2 ^ 64)) || (decide (-(2 ^ 64) < j) && decide (j < 2 ^ 64))
def fMulI : D → D → Option Ret := fInt2 mulI fun i j => i * j
theorem o_mulI : OpD I W (binaryOp .Mult) fMulI := opd_int (fun _ => op_mul) fun i j c => by
  unfold mulI at c
  simp only [Bool.or_eq_true, Bool.and_eq_true, decide_eq_true_eq] at c
  exact c
theorem op_rep2 {X : Cx} : OpR X (binaryOp .Mult) (rRep2 X.K) := by
  intro pins s σ H x y v u Q I rx ry ⟨l, k, xs, ex, ey, hH, h1, h2, hz, q⟩
  subst ex; subst ey
  cases rx
  obtain ⟨t, rfl⟩ := ry
  obtain ⟨z, cs, n, r, hl, e⟩ := rdL I hH
  have many : cs.toArray.size * k.toNat ≤ sizeLine := by rw [List.size_toArray, ← hl]; exact hz
  have noc : ¬ cs.toArray.size * k.toNat > (2 ^ 63 - 1) / 8 := by
    have : (sizeLine : Nat) ≤ (2 ^ 63 - 1) / 8 := by decide
    omega
  have fits : ¬ (!Builtin.List.listFitsIndex k) = true := by
    rw [fitsIndex_both h1 h2]
    exact Bool.false_ne_true
  have short : ¬ Builtin.List.listTooLong (cs.toArray.size * k.toNat) = true := by
    rw [notLongL many]
    exact Bool.false_ne_true
  have fresh_ : List.foldl (fun x1 x2 => x1 ++ x2) #[] (List.replicate (if cs.toArray.isEmpty = true then 0 else k.toNat) cs.toArray) = (List.replicate k.toNat cs).flatten.toArray := by
    rw [size_rep]
    cases cs with
    | nil => simp
    | cons a r' => rw [if_neg (by simp)]
  refine wpAny_binaryOp_repeat_ref (T := "list") (U := "int") (by decide) ⟨_, e, rfl⟩ (fun s' => typeIs_int s' k t) noFill_list_mul F.fills_int_mul F.slot_int_rmul repeat_list F.slot_int_index.lookup
    (call_meets F.slot_int_rmul (typeIs_int s k t) F.entry_int_rmul (F.args_int_rmul_2 _ _) (int___rmul___int_list k t l cs.toArray n)
      ⟨e, rfl, ⟨_, e, rfl⟩, call_meets F.slot_list_mul ⟨_, e, rfl⟩ F.entry_list_mul (F.args_list_mul_2 _ _) (AutoListH.list___mul___list_int_3 l cs.toArray n k t fits noc short) ⟨e, ?_⟩⟩)
  rw [fresh_]
  exact ⟨.ref _, _, I.lnew (t' := s.toks) (r.rep k.toNat) (by rw [PyProof.Rows.lm_len_rep_flat, Nat.mul_comm]; exact hz), rfl, q _ I.fresh⟩
/-- a * b: ints; a list or a tuple times an int -/
def fMul : D → D → Option Ret
  | .int i, .int j => if mulI i j then some (.sh (.int (i * j))) else none
  | .lst l, .int k => if -(2 ^ 63) ≤ k ∧ k < 2 ^ 63 ∧ l.length * k.toNat ≤ LIM then some (.ow (.l (List.replicate k.toNat l).flatten)) else none
  | .tup l, .int k => if l ≠ [] ∧ 2 ≤ k ∧ k ≤ 1000 ∧ l.length ≤ 1000 then some (.sh (.tup (List.replicate k.toNat l).flatten)) else none
  | _, _ => none
theorem Reps.rep {K : PySem.W.Frag} {mg : MG} {G : Hp} {vs : List V} {l : List D} (r : Reps K mg G vs l) : ∀ n : Nat, Reps K mg G (List.replicate n vs).flatten (List.replicate n l).flatten
  | 0 => Reps.nil
  | n + 1 => by
    rw [List.replicate_succ, List.replicate_succ, List.flatten_cons, List.flatten_cons]
    exact Reps.append r (Reps.rep r n)
theorem o_mul : OpD I W (binaryOp .Mult) fMul := by
  refine ⟨fun x y H Q => rI CMul (fun i j => .int (i * j)) x y H Q ∨ rRep2 I.K x y H Q ∨ rRepT I.K x y H Q, fun X ok => by have h1 := op_rep2 (X := X); have h2 := op_repT (X := X); rw [ok.hK] at h1 h2; exact op_mul.or (h1.or h2), fun p G σ H e x y a b res Q S ra rb hf k => ?_⟩
  have ll := lim_line
  cases ra with
  | int i =>
    cases rb <;> first | cases hf | skip
    rename_i j
    unfold fMul at hf
    dsimp only at hf
    split at hf
    · rename_i c
      cases hf
      unfold mulI at c
      simp only [Bool.or_eq_true, Bool.and_eq_true, decide_eq_true_eq] at c
      exact .inl ⟨i, j, rfl, rfl, c, k G H (Same.refl _) S _ (.int _)⟩
    · cases hf
  | @lst a2 vs l h1 h2 h3 =>
    cases rb <;> first | cases hf | skip
    rename_i j
    unfold fMul at hf
    dsimp only at hf
    split at hf
    · rename_i hz
      cases hf
      refine .inr (.inl ⟨a2, j, vs, rfl, rfl, Same.ls S.sub h1, hz.1, hz.2.1, by rw [h2]; omega, fun q n => ?_⟩)
      obtain ⟨S1, gn, h0, hF, ap⟩ := S.laidOw (o := .lst (List.replicate j.toNat vs).flatten) n
      exact k _ _ (Same.refl _) S1 q gn ⟨_, upd_same, Reps.rep ⟨h2, h3⟩ _⟩ h0 hF ap
    · cases hf
  | @tup a2 vs l h1 h2 h3 =>
    cases rb <;> first | cases hf | skip
    rename_i j
    unfold fMul at hf
    dsimp only at hf
    split at hf
    · rename_i hz
      cases hf
      refine .inr (.inr ⟨a2, j, vs, rfl, rfl, Same.seqT S.sub h1, ?_, hz.2.1, hz.2.2.1, by rw [h2]; exact hz.2.2.2, fun q n => ?_⟩)
      · intro z
        subst z
        have : l = [] := by cases l with | nil => rfl | cons _ _ => simp at h2
        exact hz.1 this
      · obtain ⟨s1, S1⟩ := S.laid (o := .tup (List.replicate j.toNat vs).flatten) n
        exact k _ _ s1 S1 _ (.mk_tup (.of upd_same) (Reps.mono s1 (Reps.rep ⟨h2, h3⟩ _)))
    · cases hf
  | non => cases hf
  | bl _ => cases hf
  | str _ => cases hf
  | dct _ _ _ _ => cases hf
  | obj _ _ _ _ _ _ => cases hf
/-! ### {k: v} -/
theorem de_dict1 {z : Str} {i : Int} {j1 j2} : DE I W (.Dict [some (.Constant (.str z) j1 p0)] [.Constant (.int i) j2 p1] pos) (eC (.dct [(.inr z, .int i)])) := by
  refine ⟨tDisp [(tC (.str z), tC (.int i))], fun X ok => pe_disp (pps_cons pe_str pe_int pps_nil) rfl rfl (by simp) (by simp), fun p G σ H e Q S w => fun q n => ?_⟩
  refine ⟨upd_same, [(.inr z, .int i)], rfl, by simp, ?_⟩
  have hu : upd (upd H q (.dK [])) q (.dK (mergeK [] [((.inr z : Key), V.int i)])) = upd H q (.dK [((.inr z : Key), V.int i)]) := by
    funext b
    by_cases hb : b = q
    · subst hb; rw [upd_same, upd_same]; rfl
    · rw [upd_ne hb, upd_ne hb, upd_ne hb]
  rw [hu]
  obtain ⟨s2, S2⟩ := S.laid (o := .dK [((.inr z : Key), V.int i)]) n
  refine w _ _ s2 S2 _ (.dct upd_same rfl (fun i kv kd h1 h2 => ?_) (fun i kv kd h1 h2 => ?_))
  · cases i with
    | zero => simp at h1 h2; subst h1 h2; rfl
    | succ i => simp at h1
  · cases i with
    | zero => simp at h1 h2; subst h1 h2; exact .int _
    | succ i => simp at h1
end

/-! ### calls with keywords, and with nothing -/
def permL {α : Type} (z : α) (perm : List Nat) (l : List α) : List α := perm.map fun j => l.getD j z
theorem permL_vals {vs : List V} {us : List Value} (r : Vals vs us) (perm : List Nat) : Vals (permL .non perm vs) (permL .none perm us) := by
  induction perm with
  | nil => exact .nil
  | cons j perm ih =>
    refine .cons ?_ ih
    show RelV (vs.getD j .non) (us.getD j .none)
    rw [List.getD_eq_getElem?_getD, List.getD_eq_getElem?_getD]
    cases q : vs[j]? with
    | none =>
      have : us[j]? = none := by
        rw [List.getElem?_eq_none_iff] at q ⊢
        rw [← r.length]; exact q
      rw [this]; rfl
    | some v =>
      obtain ⟨u, h1, h2⟩ := r.get q
      rw [h1]; exact h2
theorem permL_ars {K : PySem.W.Frag} {mg : MG} {G : Hp} {σ : L2.St} {vs : List V} {as : List Ar} (r : ArsOk K mg G σ vs as) (perm : List Nat) : ArsOk K mg G σ (permL .non perm vs) (permL (.d .non) perm as) := by
  refine ⟨by simp [permL], fun j v a h1 h2 => ?_⟩
  unfold permL at h1 h2
  rw [List.getElem?_map] at h1 h2
  cases q : perm[j]? with
  | none => rw [q] at h1; cases h1
  | some n =>
    rw [q] at h1 h2
    simp only [Option.map_some, Option.some.injEq] at h1 h2
    subst h1 h2
    rw [List.getD_eq_getElem?_getD, List.getD_eq_getElem?_getD]
    cases qv : vs[n]? with
    | none =>
      have : as[n]? = none := by
        rw [List.getElem?_eq_none_iff] at qv ⊢
        rw [← r.1]; exact qv
      rw [this]; exact Rep.non
    | some v =>
      have hn : n < as.length := by rw [← r.1]; exact (List.getElem?_eq_some_iff.mp qv).1
      rw [List.getElem?_eq_getElem hn]
      exact r.2 n v _ qv (List.getElem?_eq_getElem hn)
theorem ArsOk.app {K : PySem.W.Frag} {mg : MG} {G : Hp} {σ : L2.St} {vs ws : List V} {as bs : List Ar} (r : ArsOk K mg G σ vs as) (r' : ArsOk K mg G σ ws bs) : ArsOk K mg G σ (vs ++ ws) (as ++ bs) := by
  refine ⟨by simp [r.1, r'.1], fun j v a h1 h2 => ?_⟩
  by_cases hj : j < vs.length
  · rw [List.getElem?_append_left hj] at h1
    rw [List.getElem?_append_left (by rw [← r.1]; exact hj)] at h2
    exact r.2 j v a h1 h2
  · rw [List.getElem?_append_right (by omega)] at h1
    rw [List.getElem?_append_right (by rw [← r.1]; omega), ← r.1] at h2
    exact r'.2 _ v a h1 h2
theorem ArsOk.up {K : PySem.W.Frag} {mg : MG} {G G' : Hp} {σ : L2.St} {vs : List V} {as : List Ar} (r : ArsOk K mg G σ vs as) (s : Same G G') : ArsOk K mg G' σ vs as := ⟨r.1, fun j v a h1 h2 => (r.2 j v a h1 h2).mono s⟩
def DK (I : CI) (W : WX) (kws : List Keyword) (m : M (List Ar)) : Prop := ∃ t, (∀ X, Okx I W X → PK X kws t) ∧ SimP I W t m
section
variable {I : CI} {W : WX} {a : Expr} {es : List Expr} {pos p0 kpos : Pos} {x : Str} {nm : Option Str} {kws : List Keyword}
theorem dk_nil : DK I W [] aNil := ⟨tNil, fun _ _ => pk_nil, fun p G σ H e Q S w => w G H (Same.refl _) S [] ⟨rfl, fun _ _ _ h => by simp at h⟩⟩
theorem dk_cons {ma : M Ar} {mr : M (List Ar)} (ha : DO I W a ma) (hr : DK I W kws mr) : DK I W (⟨nm, a, kpos⟩ :: kws) (aCons ma mr) := by
  obtain ⟨n, t, h1, h2⟩ := ha
  obtain ⟨u, h3, h4⟩ := hr
  refine ⟨tCons t u, fun X ok => pk_cons (h1 X ok) (h3 X ok), fun p G σ H e Q S w => ?_⟩
  refine h2 p G σ H e _ S (Wp.mono (Wp.bnd w) fun d G1 H1 e1 s1 S1 w1 v r => ?_)
  refine h4 p G1 σ H1 e1 _ S1 (Wp.mono (Wp.bnd w1) fun as G2 H2 e2 s2 S2 w2 vs rs => ?_)
  refine w2 G2 H2 (Same.refl _) S2 (v :: vs) ⟨by simp [rs.1], fun j v' a' q1 q2 => ?_⟩
  cases j with
  | zero => simp at q1 q2; subst q1 q2; exact r.mono s2
  | succ j => exact rs.2 j v' a' (by simpa using q1) (by simpa using q2)
def rCallK (sem : FS) (n nk : Nat) (perm : List Nat) (ma mk : M (List Ar)) : M Ret := M.bnd ma fun as => M.bnd mk fun ks => if as.length = n ∧ ks.length = nk then callS sem (permL (.d .non) perm (as ++ ks)) else fun _ => .no
/-- how keywords are put into the parameters' order -/
def KwOk (x : Str) (st : Stmt) (ps ks : List Str) (n : Nat) (perm : List Nat) : Prop := perm.length = ps.length ∧ ∀ (kV doc pm : Value) (an : Option Addr) (cdv ct : Value) (us ws : List Value), us.length = n → ws.length = ks.length →
    bindArgs (PySem.W.fnOf x x (defArgs st) (defBody st) (defScope st) .none kV doc pm an cdv ct) ⟨us, ks.zip ws⟩ = pure (ps.zip (permL .none perm (us ++ ws)))
def tCallK0 (sp : Sp) (n nk : Nat) (perm : List Nat) (E : L2.St → XK) (t tk : TA) : TE := fun σ H Q => t σ H fun vs H1 => tk σ H1 fun zs H2 => vs.length = n ∧ zs.length = nk ∧ sp (permL .non perm (vs ++ zs)) H2 Q (E σ)
theorem run_kw {X : Cx} {CX : CXT} {k n : Nat} {f : Addr} {fd : FuncData} {st : Stmt} {ps ks : List Str} {perm : List Nat} {sp : Sp} {E : L2.St → XK} {pins : List (Addr × Obj)} {σ : L2.St} {H : Hp} {s : Shared} {Q : VK} {us ws : List Value} {vs zs : List V} (F : FnOk X.prog X.w X.K X.mg X.base CX k f fd ps sp) (hr : Room k X.A)
    (D : FunD X.K x x (defArgs st) (defBody st) (defScope st) [] [] f fd) (hb : KwOk x st ps ks n perm) (hx : PassesAt CX X σ (E σ)) (I : Inv X pins σ H s) (r : Vals vs us) (rz : Vals zs ws) (hn : vs.length = n) (hz : zs.length = ks.length) (h : sp (permL .non perm (vs ++ zs)) H Q (E σ)) :
    wpAny (model X.prog X.w) X.A (call (.ref f) us (ks.zip ws)) (EP X pins σ Q) X.xe s := by
  have r2 := permL_vals (r.append rz) perm
  have b : BindsTo s fd ⟨us, ks.zip ws⟩ (ps.zip (permL .none perm (us ++ ws))) := by
    obtain ⟨oc, od, dV, kV, doc, pm, an, cdv, ct, osl, rfl, lk, hcd, hD, hK⟩ := D.ex
    rcases hD with ⟨_, rfl⟩ | ⟨e, _⟩
    · exact .of_eq (hb.2 kV doc pm an cdv ct us ws (by rw [← r.length]; exact hn) (by rw [← rz.length]; exact hz))
    · exact absurd rfl e
  refine wpAny_call (codeAny_mono (F.run X.A X.stack s H ⟨us, ks.zip ws⟩ (permL .none perm (us ++ ws)) _ Q (E σ) hr I.env0 b r2 h) fun r s' hq => ?_)
  cases r with
  | error e => exact hx pins H s e s' I hq
  | ok fl =>
    cases fl with
    | ret u => exact I.after hq
    | next => exact False.elim hq
    | brk => exact False.elim hq
    | cont => exact False.elim hq
theorem kw_sim {sem : FS} {n nk : Nat} {perm : List Nat} {t tk : TA} {ma mk : M (List Ar)} (h2 : SimP I W t ma) (k2 : SimP I W tk mk) : SimR I W (tCallK0 (spF I.K I.mg sem) n nk perm (WE W) t tk) (rCallK sem n nk perm ma mk) := by
  intro p G σ H e Q S w
  refine h2 p G σ H e _ S (Wp.mono (Wp.bnd w) fun as G1 H1 e1 s1 S1 w1 vs rs => ?_)
  refine k2 p G1 σ H1 e1 _ S1 (Wp.mono (Wp.bnd w1) fun ks G2 H2 e2 s2 S2 w2 zs rz => ?_)
  by_cases hl : as.length = n ∧ ks.length = nk
  · rw [if_pos hl] at w2
    exact ⟨rs.1.trans hl.1, rz.1.trans hl.2, call_sim S2 (permL_ars ((rs.up s2).app rz) perm) w2⟩
  · rw [if_neg hl] at w2; exact w2.elim
theorem dr_callK {st : Stmt} {ps ks : List Str} {sem : FS} {k n : Nat} {perm : List Nat} {ma mk : M (List Ar)} (F : DF I.P I.w I.K I.mg I.base k x st ps sem) (hk : k ≤ I.k) (g : I.sc.names.lookup x = some .globalImplicit) (hd : (x == ("__debug__" : Str)) = false)
    (ha : DP I W (a :: es) ma) (hkw : DK I W kws mk) (hb : KwOk x st ps ks n perm) (hall : ∀ env : Env, (backToKw pos (keywordEach kws env)).all (·.1.isSome) = true) (hks : ∀ env : Env, (backToKw pos (keywordEach kws env)).filterMap (·.1) = ks)
    (hno : ∀ env : Env, (backToKw pos (keywordEach kws env)).any (·.1.isNone) = false) : DR I W (.Call (.Name x p0) (a :: es) kws pos) (rCallK sem n ks.length perm ma mk) := by
  obtain ⟨f, fd, F1, F2, F3, F4⟩ := F.ex
  obtain ⟨nn, t, h1, h2⟩ := ha
  obtain ⟨tk, k1, k2⟩ := hkw
  have n2 : nst a = true ∧ es.all nst = true := by simpa using nn
  refine ⟨tCallK0 (spF I.K I.mg sem) n ks.length perm (WE W) t tk, fun X ok => ?_, kw_sim h2 k2⟩
  obtain ⟨P, ww, K, mg, base, N, sc, fn, kk⟩ := I
  obtain ⟨e1, e2, e3, e4, e5, e6, e7, e8, nd, calm, room, takes, passes⟩ := id ok
  dsimp only at *
  subst e1 e2 e3 e4 e5
  refine ⟨fun pins s σ H Q I h => ?_⟩
  refine wpAny_Call_Name_kw (ld_glob I (gl_of e7 g) F2 ?_ hd)
  refine PySem.W.callWith_KW (h₀ := X.base) I.ok.mod.kin F3.kp (hall _) (thn ((h1 X ok).run pos pins s σ H _ I h) fun us s1 ⟨vs, H1, I1, r, q⟩ => ?_) (by rw [no_back, no_star nn, hno]; rfl) (star_of n2.1 _ _)
  refine thn ((k1 X ok).run pos pins s1 σ H1 _ I1 q) fun ws s2 ⟨zs, H2, I2, rz, q1, q2, q3⟩ => ⟨I2.kIn, ?_⟩
  rw [hks]
  exact run_kw F1 (room.mono hk) F3 hb (passAt takes σ) I2 r rz q1 q2 q3
theorem dr_callK0 {st : Stmt} {ps ks : List Str} {sem : FS} {k : Nat} {perm : List Nat} {mk : M (List Ar)} (F : DF I.P I.w I.K I.mg I.base k x st ps sem) (hk : k ≤ I.k) (g : I.sc.names.lookup x = some .globalImplicit) (hd : (x == ("__debug__" : Str)) = false)
    (hkw : DK I W kws mk) (hb : KwOk x st ps ks 0 perm) (hall : ∀ env : Env, (backToKw pos (keywordEach kws env)).all (·.1.isSome) = true) (hks : ∀ env : Env, (backToKw pos (keywordEach kws env)).filterMap (·.1) = ks)
    (hno : ∀ env : Env, (backToKw pos (keywordEach kws env)).any (·.1.isNone) = false) : DR I W (.Call (.Name x p0) [] kws pos) (rCallK sem 0 ks.length perm aNil mk) := by
  obtain ⟨f, fd, F1, F2, F3, F4⟩ := F.ex
  obtain ⟨nn, t, h1, h2⟩ := (dp_nil : DP I W [] aNil)
  obtain ⟨tk, k1, k2⟩ := hkw
  refine ⟨tCallK0 (spF I.K I.mg sem) 0 ks.length perm (WE W) tNil tk, fun X ok => ?_, kw_sim (fun p G σ H e Q S w => w G H (Same.refl _) S [] ⟨rfl, fun _ _ _ h => by simp at h⟩) k2⟩
  obtain ⟨P, ww, K, mg, base, N, sc, fn, kk⟩ := I
  obtain ⟨e1, e2, e3, e4, e5, e6, e7, e8, nd, calm, room, takes, passes⟩ := id ok
  dsimp only at *
  subst e1 e2 e3 e4 e5
  refine ⟨fun pins s σ H Q I h => ?_⟩
  refine wpAny_Call_Name_kw (ld_glob I (gl_of e7 g) F2 ?_ hd)
  refine PySem.W.callWith_KW0 (h₀ := X.base) I.ok.mod.kin F3.kp (hall _) ?_ (by rw [hno]; rfl)
  refine thn ((k1 X ok).run pos pins s σ H _ I h) fun ws s2 ⟨zs, H2, I2, rz, q1, q2, q3⟩ => ⟨I2.kIn, ?_⟩
  rw [hks]
  exact run_kw (us := []) (vs := []) F1 (room.mono hk) F3 hb (passAt takes σ) I2 .nil rz rfl q2 q3
/-- f() -/
theorem dr_call0 {st : Stmt} {ps : List Str} {sem : FS} {k : Nat} (F : DF I.P I.w I.K I.mg I.base k x st ps sem) (hk : k ≤ I.k) (g : I.sc.names.lookup x = some .globalImplicit) (hd : (x == ("__debug__" : Str)) = false) :
    DR I W (.Call (.Name x p0) [] [] pos) (callS sem []) := by
  obtain ⟨f, fd, F1, F2, F3, F4⟩ := F.ex
  refine ⟨tCallS0 (spF I.K I.mg sem) (WE W), fun X ok => ?_, fun p G σ H e Q S w => ?_⟩
  · obtain ⟨P, ww, K, mg, base, N, sc, fn, kk⟩ := I
    obtain ⟨e1, e2, e3, e4, e5, e6, e7, e8, nd, calm, room, takes, passes⟩ := id ok
    dsimp only at *
    subst e1 e2 e3 e4 e5
    refine ⟨fun pins s σ H Q I h => ?_⟩
    refine wpAny_Call_Name_kw (ld_glob I (gl_of e7 g) F2 ?_ hd)
    exact PySem.W.callWith_K0 I.kIn F3.kp (run_fnS F1 (room.mono hk) F4 (passAt takes σ) I .nil h)
  · exact call_sim (as := []) (vs := []) S ⟨rfl, fun _ _ _ h => by simp at h⟩ w
end
end DL
end

section
namespace DL
open PySem PySem.Spec L2
open PyProof.Rows hiding St
open HT

/-! ### t[::-1] of tuples -/
section
variable {prog : Program} {w : World} {A : Around} {E : Value → Shared → Prop} {s : Shared}
theorem fm_congr {α β : Type} {f g : α → Option β} : ∀ {l : List α}, (∀ x ∈ l, f x = g x) → l.filterMap f = l.filterMap g
  | [], _ => rfl
  | a :: l, h => by
    rw [List.filterMap_cons, List.filterMap_cons, h a List.mem_cons_self, fm_congr fun x hx => h x (List.mem_cons_of_mem _ hx)]
theorem rev_adjust (n : Nat) : Builtin.Slice.sliceAdjust none none (-1) (n : Int) = ((n : Int) - 1, -1) := by
  unfold Builtin.Slice.sliceAdjust
  simp
theorem rev_places (n : Nat) : Builtin.Slice.slicePlaces ((n : Int) - 1) (-1) (-1) = n := by
  unfold Builtin.Slice.slicePlaces
  have h1 : ¬ (-1 : Int) > 0 := by omega
  simp only [h1, if_false]
  by_cases h : (n : Int) - 1 > -1
  · rw [if_pos h, show (- -1 : Int) = 1 by decide, Int.ediv_one]
    omega
  · rw [if_neg h]
    omega
theorem rev_list : ∀ l : List Value, (List.range l.length).filterMap (fun m => l[l.length - 1 - m]?) = l.reverse
  | l => by
    refine List.ext_getElem? fun i => ?_
    have h1 : (List.range l.length).filterMap (fun m => l[l.length - 1 - m]?) = (List.range l.length).map fun m => l.getD (l.length - 1 - m) .none := by
      rw [← List.filterMap_eq_map]
      refine fm_congr fun m hm => ?_
      have := List.mem_range.mp hm
      rw [List.getElem?_eq_getElem (by omega)]
      simp [List.getD_eq_getElem?_getD, List.getElem?_eq_getElem (show l.length - 1 - m < l.length by omega)]
    rw [h1, List.getElem?_map]
    by_cases hi : i < l.length
    · rw [List.getElem?_range hi, List.getElem?_reverse hi]
      simp [List.getD_eq_getElem?_getD, List.getElem?_eq_getElem (show l.length - 1 - i < l.length by omega)]
    · rw [List.getElem?_eq_none (by simpa using hi), List.getElem?_eq_none (by simpa using hi)]
      rfl
theorem rev_pick (xs : Array Value) : ((List.range xs.size).filterMap fun (m : Nat) => xs[((xs.size : Int) - 1 + (m : Int) * -1).toNat]?).toArray = xs.toList.reverse.toArray := by
  have e : (List.range xs.size).filterMap (fun (m : Nat) => xs[((xs.size : Int) - 1 + (m : Int) * -1).toNat]?) = (List.range xs.toList.length).filterMap (fun m => xs.toList[xs.toList.length - 1 - m]?) := by
    rw [Array.length_toList]
    refine fm_congr fun m hm => ?_
    have := List.mem_range.mp hm
    have e2 : ((xs.size : Int) - 1 + (m : Int) * -1).toNat = xs.size - 1 - m := by omega
    rw [e2]
    simp
  rw [e, rev_list]
theorem sliceApplied_rev {sl : Addr} {vs : Value} {n : Nat} {Q : Int × Int × Nat → Shared → Prop} (hs : s.heap.IsSliceOf sl .none .none vs) (ps : IsPart vs (some (-1)))
    (h : Q ((n : Int) - 1, -1, n) s) : wpAny (model prog w) A (Builtin.Slice.sliceApplied (.ref sl) (pure (n : Int))) Q E s := by
  obtain ⟨ob, g1, g2, g3⟩ := id hs
  unfold Builtin.Slice.sliceApplied Builtin.Slice.sliceFields
  refine wpAny_bind (wpAny_bind (wpAny_field g1 g3 (x := .none) rfl (wpAny_bind (wpAny_field g1 g3 (x := .none) rfl (wpAny_bind (wpAny_field g1 g3 (x := vs) rfl (wpAny_pure ?_)))))))
  refine wpAny_bind (slicePart_ ps ?_)
  show wpAny _ _ (if ((-1 : Int) == 0) = true then _ else _) _ _ s
  rw [if_neg (by decide)]
  refine wpAny_bind (slicePart_none (wpAny_bind (slicePart_none (wpAny_bind (wpAny_pure ?_)))))
  show wpAny _ _ (match Builtin.Slice.sliceAdjust none none (-1) (n : Int) with | (lo, hi) => pure (lo, (-1 : Int), Builtin.Slice.slicePlaces lo hi (-1))) _ _ s
  rw [rev_adjust]
  show wpAny _ _ (pure (((n : Int) - 1), (-1 : Int), Builtin.Slice.slicePlaces ((n : Int) - 1) (-1) (-1))) _ _ s
  rw [rev_places]
  exact wpAny_pure h
theorem getItem_tuple_rev {t sl : Addr} {items : Array Value} {vs : Value} {Q : Value → Shared → Prop} (ht : IsTup s.heap t items) (hs : s.heap.IsSliceOf sl .none .none vs) (ps : IsPart vs (some (-1)))
    (h : Q (.ref s.heap.objs.size) { s with heap := s.heap.push { cls := .type "tuple", data := .seq items.toList.reverse.toArray } })
    (hsz : items.size ≤ sizeLine) : wpAny (model prog w) A (getItem (.ref t) (.ref sl)) Q E s := by
  have room : sizeOk (.seq items.toList.reverse.toArray) := by
    show items.toList.reverse.toArray.size ≤ sizeLine
    simpa using hsz
  obtain ⟨ob, g1, g2, g3⟩ := id hs
  have tyS : s.TypeIs (.ref sl) "slice" := ⟨ob, g1, g2⟩
  unfold getItem
  try with_reducible refine wpAny_holding ?_
  first | refine wpAny_bind (wpAny_pure ?_) | skip
  refine wpAny_bind (wpAny_sequenceKey ht.typeIs (by decide) ?_)
  refine wpAny_bind (wpAny_callSpecial?_slot (name := Str.ofString "__getitem__") ht.typeIs PyProof.Rows.slot_tuple_getitem (wpAny_call_entry PyProof.Rows.slot_tuple_getitem ht.typeIs entry_tuple_getitem ?_ (args_tuple_getitem _ _)))
  show wpAny _ _ (Builtin.Tuple.tupleItemsOf (.ref t) >>= _) _ _ s
  refine wpAny_bind (tupleItemsOf_ ht ?_)
  refine wpAny_bind (wpAny_typeOf tyS ?_)
  rw [if_pos (by decide)]
  refine wpAny_bind (sliceApplied_rev hs ps ?_)
  have no1 : ¬ ((((items.size : Int) - 1 == 0) && ((-1 : Int) == 1) && (items.size == items.size)) = true) := by simp
  show wpAny _ _ (if ((((items.size : Int) - 1 == 0) && ((-1 : Int) == 1) && (items.size == items.size)) = true) then _ else _) _ _ s
  rw [if_neg no1, rev_pick]
  first
    | exact wpAny_bind (m := Builtin.Tuple.tupleExact _) (wpAny_newObj_type (wpAny_pure ⟨_, rfl, wpAny_pure h⟩) room)
    | exact wpAny_bind (m := Builtin.Tuple.tupleExact _) (wpAny_newObj_type (wpAny_bind (wpAny_pure (wpAny_pure ⟨_, rfl, wpAny_pure h⟩))) room)
    | exact wpAny_bind (wpAny_bind (m := Builtin.Tuple.tupleExact _) (wpAny_newObj_type (wpAny_pure (wpAny_pure ⟨_, rfl, wpAny_pure h⟩)) room))
    | exact wpAny_bind (wpAny_bind (m := Builtin.Tuple.tupleExact _) (wpAny_newObj_type (wpAny_pure ⟨_, rfl, wpAny_pure h⟩) room))
end
def tRevT (K : PySem.W.Frag) (te : TE) : TE := fun σ H Q => te σ H fun x H1 => ∃ a xs, x = .ref a ∧ ((SqL K H1 a xs ∧ ∀ p, H1 p = none → Q (.ref p) (upd H1 p (.lst xs.reverse))) ∨ (SqT K H1 a xs ∧ ∀ p, H1 p = none → Q (.ref p) (upd H1 p (.tup xs.reverse))))
section
variable {X : Cx}
theorem pe_revT {e : Expr} {te : TE} {k : Nat} {p1 p2 p3 pos : Pos} (he : PE X e te) : PE X (.Subscript e (.Slice none none (some (.UnaryOp .USub (.Constant (.int 1) k p1) p2)) p3) pos) (tRevT X.K te) := by
  refine ⟨fun pins s σ H Q I h => ?_⟩
  refine Subscript_ (thn (he.run pins s σ H _ I h) fun v s1 ⟨x, H1, I1, r1, q1⟩ => ?_)
  obtain ⟨a, xs, ex, q⟩ := q1
  subst ex
  cases r1
  have part : PO X (some (.UnaryOp .USub (.Constant (.int 1) k p1) p2)) (tPart (tUn (rU fun i => .int (-i)) (tC (.int 1)))) := po_some (pe_un un_neg pe_int)
  refine wpAny_Slice (thn (po_none.run pins s1 σ H1 (fun o H2 => o = none ∧ H2 = H1) I1 ⟨rfl, rfl⟩) fun vl s2 ⟨l, H2, I2, pl, el, e2⟩ => ?_)
  subst el e2
  refine thn (po_none.run pins s2 σ H2 (fun o H3 => o = none ∧ H3 = H2) I2 ⟨rfl, rfl⟩) fun vu s3 ⟨u, H3, I3, pu, eu, e3⟩ => ?_
  subst eu e3
  refine thn (part.run pins s3 σ H3 (fun o H4 => o = some (-1) ∧ H4 = H3) I3 ⟨1, rfl, -1, rfl, rfl, rfl⟩) fun vs s4 ⟨o, H4, I4, ps, eo, e4⟩ => ?_
  subst eo e4
  cases pl
  cases pu
  have I5 : Inv X pins σ H4 { s4 with heap := s4.heap.push { cls := .type "slice", data := .fields #[.none, .none, vs] } } := I4.kept (t' := s4.toks) fun b ob q => Heap.get?_push_of_some _ q
  show wpAny (model X.prog X.w) X.A (subscriptTail e (.Slice none none (some (.UnaryOp .USub (.Constant (.int 1) k p1) p2)) p3) (.ref a) (.ref s4.heap.objs.size)) (EP X pins σ Q) X.xe { s4 with heap := s4.heap.push { cls := .type "slice", data := .fields #[.none, .none, vs] } }
  rcases q with ⟨hx, q⟩ | ⟨hx, q⟩
  · obtain ⟨us, r, ht, hz⟩ := I5.list hx
    refine tail_any (ops := [.ref a, .ref s4.heap.objs.size]) ht.isList.typeIs (PySem.slot_list_getitem.lookup) ?_ (by with_unfolding_all rfl)
    refine wpAny_getItem_list_slice ht.isList (Heap.IsSliceOf.new _ _ _ vs) .none .none ps (by decide) ?_ (by rw [List.size_toArray, ← r.length]; exact hz)
    rw [PySem.W.krv_pick]
    refine ⟨.ref _, _, I5.laid (t' := s4.toks) (o := .lst xs.reverse) (fun b ob q => Heap.get?_push_of_some _ q) (Nat.le_refl _) ?_, rfl, q _ (I5.hok.fresh (Nat.le_refl _))⟩
    exact ⟨by rw [List.length_reverse]; exact hz, _, 0, r.reverse, Heap.get?_push_size _ rfl⟩
  · obtain ⟨us, r, ht, hz⟩ := I5.tuple hx
    refine tail_any (ops := [.ref a, .ref s4.heap.objs.size]) ht.typeIs (PyProof.Rows.slot_tuple_getitem.lookup) ?_ (by with_unfolding_all rfl)
    refine getItem_tuple_rev ht (Heap.IsSliceOf.new _ _ _ vs) ps ?_ (by rw [List.size_toArray, ← r.length]; exact hz)
    refine ⟨.ref _, _, I5.laid (t' := s4.toks) (o := .tup xs.reverse) (fun b ob q => Heap.get?_push_of_some _ q) (Nat.le_refl _) ?_, rfl, q _ (I5.hok.fresh (Nat.le_refl _))⟩
    exact ⟨by rw [List.length_reverse]; exact hz, _, r.reverse, IsTup.new _ _⟩
end
def fRev : D → Option Ret
  | .lst l => some (.ow (.l l.reverse))
  | .tup l => some (.sh (.tup l.reverse))
  | _ => none
def rRev (m : M D) : M Ret := M.bnd m fun d => lift (fRev d)
theorem Reps.reverse {K : PySem.W.Frag} {mg : MG} {G : Hp} {vs : List V} {l : List D} (r : Reps K mg G vs l) : Reps K mg G vs.reverse l.reverse := by
  refine ⟨by simp [r.1], fun i v d h1 h2 => ?_⟩
  have hi : i < vs.length := by simpa using (List.getElem?_eq_some_iff.mp h1).1
  rw [List.getElem?_reverse hi] at h1
  rw [List.getElem?_reverse (by rw [← r.1]; exact hi), ← r.1] at h2
  exact r.2 _ v d h1 h2
theorem dr_rev {I : CI} {W : WX} {a : Expr} {m : M D} {k : Nat} {p1 p2 p3 pos : Pos} (h : DE I W a m) : DR I W (.Subscript a (.Slice none none (some (.UnaryOp .USub (.Constant (.int 1) k p1) p2)) p3) pos) (rRev m) := by
  obtain ⟨t, h1, h2⟩ := h
  refine ⟨tRevT I.K t, fun X ok => by have := pe_revT (k := k) (p1 := p1) (p2 := p2) (p3 := p3) (pos := pos) (h1 X ok); rw [ok.hK] at this; exact this, fun p G σ H e Q S w => ?_⟩
  refine h2 p G σ H e _ S (Wp.mono (Wp.bnd w) fun d G1 H1 e1 s1 S1 w1 v r => ?_)
  obtain ⟨res, hf, k⟩ := lift_wp w1
  cases r <;> first | cases hf | skip
  · rename_i b vs l g1 g2 g3
    exact ⟨b, vs, rfl, .inr ⟨Same.seqT S1.sub g1, fun q n => by
      obtain ⟨s2, S2⟩ := S1.laid (o := .tup vs.reverse) n
      exact k _ _ s2 S2 _ (.mk_tup (.of upd_same) (Reps.mono s2 (Reps.reverse ⟨g2, g3⟩)))⟩⟩
  · rename_i b vs l g1 g2 g3
    exact ⟨b, vs, rfl, .inl ⟨LsT.sq (Same.ls S1.sub g1), fun q n => by
      obtain ⟨S2, gn, h0, hF, ap⟩ := S1.laidOw (o := .lst vs.reverse) n
      exact k G1 _ (Same.refl _) S2 q gn ⟨_, upd_same, Reps.reverse ⟨g2, g3⟩⟩ h0 hF ap⟩⟩
end DL
end

section
namespace DL
open PySem PySem.Spec L2
open PyProof.Rows hiding St

/-! ### the checks that a text's names ask for -/
def visK : Option NameKind → Bool
  | some .local => true
  | some .cell => true
  | some .free => true
  | _ => false
def locK : Option NameKind → Bool
  | some .local => true
  | some .cell => true
  | _ => false
def isL : Option NameKind → Bool
  | some .local => true
  | _ => false
def isG : Option NameKind → Bool
  | some .globalImplicit => true
  | _ => false
def atN (N : List Str) (i : Nat) (x : Str) : Bool := match N[i]? with
  | some y => decide (y = x)
  | none => false
theorem atN_ok {N : List Str} {i : Nat} {x : Str} (h : atN N i x = true) : N[i]? = some x := by
  unfold atN at h
  cases q : N[i]? with
  | none => rw [q] at h; cases h
  | some y => rw [q] at h; rw [of_decide_eq_true h]
theorem isL_ok {o : Option NameKind} (h : isL o = true) : o = some .local := by
  cases o with
  | none => cases h
  | some k => cases k <;> first | rfl | cases h
theorem isG_ok {o : Option NameKind} (h : isG o = true) : o = some .globalImplicit := by
  cases o with
  | none => cases h
  | some k => cases k <;> first | rfl | cases h
def varB (N : List Str) (sc : Scope) (i : Nat) (x : Str) : Bool := atN N i x && visK (sc.names.lookup x) && !(x == ("__debug__" : Str)) && !(x == ("__classdict__" : Str))
theorem vk {N : List Str} {sc : Scope} {i : Nat} {x : Str} (h : varB N sc i x = true) : VarOk N sc i x := by
  unfold varB at h
  simp only [Bool.and_eq_true, Bool.not_eq_true'] at h
  obtain ⟨⟨⟨h1, h2⟩, h3⟩, h4⟩ := h
  refine ⟨atN_ok h1, ?_, h3, h4⟩
  unfold L2.Vis
  cases q : sc.names.lookup x with
  | none => rw [q] at h2; cases h2
  | some k => rw [q] at h2; cases k <;> first | exact .inl rfl | exact .inr (.inl rfl) | exact .inr (.inr rfl) | cases h2
def setB (N : List Str) (sc : Scope) (fn : Str → Bool) (i : Nat) (x : Str) : Bool := atN N i x && locK (sc.names.lookup x) && (fn x || isL (sc.names.lookup x))
theorem sk {N : List Str} {sc : Scope} {fn : Str → Bool} {i : Nat} {x : Str} (h : setB N sc fn i x = true) : SetOk N sc fn i x := by
  unfold setB at h
  simp only [Bool.and_eq_true, Bool.or_eq_true] at h
  obtain ⟨⟨h1, h2⟩, h3⟩ := h
  refine ⟨atN_ok h1, ?_, h3.imp id isL_ok⟩
  unfold L2.Loc
  cases q : sc.names.lookup x with
  | none => rw [q] at h2; cases h2
  | some k => rw [q] at h2; cases k <;> first | exact .inl rfl | exact .inr rfl | cases h2
def fsB (N ps : List Str) (sc : Scope) : Bool := decide (sc.kind = .function) && !sc.isCoroutine && !sc.isGenerator && decide N.Nodup && decide (N.take ps.length = ps) && (ps.all fun x => locK (sc.names.lookup x)) && sc.names.all fun y => decide (y.2 ≠ .free)
theorem fsk {N ps : List Str} {sc : Scope} (h : fsB N ps sc = true) : FnScope N ps sc := by
  unfold fsB at h
  simp only [Bool.and_eq_true, Bool.not_eq_true', decide_eq_true_eq, List.all_eq_true] at h
  obtain ⟨⟨⟨⟨⟨⟨h1, h2⟩, h3⟩, h4⟩, h5⟩, h6⟩, h7⟩ := h
  refine ⟨h1, h2, h3, h4, h5, fun x hx => ?_, h7⟩
  have := h6 x hx
  cases q : sc.names.lookup x with
  | none => rw [q] at this; cases this
  | some k => rw [q] at this; cases k <;> first | exact .inl rfl | exact .inr rfl | cases this
def glB (sc : Scope) (x : Str) : Bool := isG (sc.names.lookup x)
/-! ### the built-ins that a text may name -/
def bnames : List Str := ["len", "abs", "sum", "all", "any", "max", "min", "sorted", "int", "str", "list", "tuple", "bool", "isinstance", "range", "zip", "enumerate", "set", "dict"]
def Bs (mg : MG) : Prop := ∀ x ∈ bnames, mg x = none
section
variable {I : CI} {W : WX} {a b tg : Expr} {es : List Expr} {pos p0 p1 p2 p3 tpos apos : Pos} {m : M D} {mp : M (List Ar)} {kk : Nat} {elts : List Expr}
theorem c_len (B : Bs I.mg) (g : glB I.sc "len" = true) (h : DP I W (a :: es) mp) : DR I W (.Call (.Name "len" p0) (a :: es) [] pos) (rFn (f1 gLen) mp) := dr_fnB fn_len (isG_ok g) (B _ (by simp [bnames])) boot_len h (by decide) (by decide)
theorem c_abs (B : Bs I.mg) (g : glB I.sc "abs" = true) (h : DP I W (a :: es) mp) : DR I W (.Call (.Name "abs" p0) (a :: es) [] pos) (rFn (f1 gAbs) mp) := dr_fnB fn_abs (isG_ok g) (B _ (by simp [bnames])) (by decide +kernel) h (by decide) (by decide)
theorem c_sum (B : Bs I.mg) (g : glB I.sc "sum" = true) (h : DP I W (a :: es) mp) : DR I W (.Call (.Name "sum" p0) (a :: es) [] pos) (rFn (f1 gSum) mp) := dr_fnB fn_sum (isG_ok g) (B _ (by simp [bnames])) (by decide +kernel) h (by decide) (by decide)
theorem c_all (B : Bs I.mg) (g : glB I.sc "all" = true) (h : DP I W (a :: es) mp) : DR I W (.Call (.Name "all" p0) (a :: es) [] pos) (rFn (f1 gAll) mp) := dr_fnB fn_all (isG_ok g) (B _ (by simp [bnames])) (by decide +kernel) h (by decide) (by decide)
theorem c_any (B : Bs I.mg) (g : glB I.sc "any" = true) (h : DP I W (a :: es) mp) : DR I W (.Call (.Name "any" p0) (a :: es) [] pos) (rFn (f1 gAny) mp) := dr_fnB fn_any (isG_ok g) (B _ (by simp [bnames])) (by decide +kernel) h (by decide) (by decide)
theorem c_max (B : Bs I.mg) (g : glB I.sc "max" = true) (h : DP I W (a :: es) mp) : DR I W (.Call (.Name "max" p0) (a :: es) [] pos) (rFn fMax mp) := dr_fnB fn_max (isG_ok g) (B _ (by simp [bnames])) (by decide +kernel) h (by decide) (by decide)
theorem c_min (B : Bs I.mg) (g : glB I.sc "min" = true) (h : DP I W (a :: es) mp) : DR I W (.Call (.Name "min" p0) (a :: es) [] pos) (rFn fMin mp) := dr_fnB fn_min (isG_ok g) (B _ (by simp [bnames])) (by decide +kernel) h (by decide) (by decide)
theorem c_sorted (B : Bs I.mg) (g : glB I.sc "sorted" = true) (h : DP I W (a :: es) mp) : DR I W (.Call (.Name "sorted" p0) (a :: es) [] pos) (rFn (f1 gSorted) mp) := dr_fnB fn_sorted (isG_ok g) (B _ (by simp [bnames])) (by decide +kernel) h (by decide) (by decide)
theorem c_int (B : Bs I.mg) (g : glB I.sc "int" = true) (h : DP I W (a :: es) mp) : DR I W (.Call (.Name "int" p0) (a :: es) [] pos) (rFn (f1 gInt) mp) := dr_fnT fn_int (isG_ok g) (B _ (by simp [bnames])) (by decide +kernel) h (by decide) (by decide)
theorem c_str (B : Bs I.mg) (g : glB I.sc "str" = true) (h : DP I W (a :: es) mp) : DR I W (.Call (.Name "str" p0) (a :: es) [] pos) (rFn (f1 gStr) mp) := dr_fnT fn_str (isG_ok g) (B _ (by simp [bnames])) (by decide +kernel) h (by decide) (by decide)
theorem c_list (B : Bs I.mg) (g : glB I.sc "list" = true) (h : DP I W (a :: es) mp) : DR I W (.Call (.Name "list" p0) (a :: es) [] pos) (rFn (f1 gList) mp) := dr_fnT fn_list (isG_ok g) (B _ (by simp [bnames])) (by decide +kernel) h (by decide) (by decide)
theorem c_tuple (B : Bs I.mg) (g : glB I.sc "tuple" = true) (h : DP I W (a :: es) mp) : DR I W (.Call (.Name "tuple" p0) (a :: es) [] pos) (rFn (f1 gTuple) mp) := dr_fnT fn_tuple (isG_ok g) (B _ (by simp [bnames])) (by decide +kernel) h (by decide) (by decide)
theorem c_lenV {x : Str} {i : Nat} (B : Bs I.mg) (g : glB I.sc "len" = true) (h : varB I.N I.sc i x = true) : DR I W (.Call (.Name "len" p0) [.Name x p1] [] pos) (eLenV i) := dr_lenV (isG_ok g) (B _ (by simp [bnames])) (vk h)
/-- isinstance by a type's name -/
theorem c_isi {T : String} (T' : Str) (B : Bs I.mg) (g : glB I.sc "isinstance" = true) (g' : glB I.sc T' = true) (hb : T' ∈ bnames) (hv : bootBuiltins T' = some (.type T)) (n1 : T' ≠ "__name__") (n2 : (T' == ("__debug__" : Str)) = false) (h : DE I W a m) (n : nst a = true) :
    DR I W (.Call (.Name "isinstance" p0) [a, .Name T' p1] [] pos) (rOne m (isiD T)) := dr_isi (isG_ok g) (B _ (by simp [bnames])) (isG_ok g') (B _ hb) hv n1 n2 h n
theorem c_isi_int (B : Bs I.mg) (g : glB I.sc "isinstance" = true) (g' : glB I.sc "int" = true) (h : DE I W a m) (n : nst a = true) : DR I W (.Call (.Name "isinstance" p0) [a, .Name "int" p1] [] pos) (rOne m (isiD "int")) := c_isi "int" B g g' (by simp [bnames]) (by decide +kernel) (by decide) (by decide) h n
theorem c_isi_bool (B : Bs I.mg) (g : glB I.sc "isinstance" = true) (g' : glB I.sc "bool" = true) (h : DE I W a m) (n : nst a = true) : DR I W (.Call (.Name "isinstance" p0) [a, .Name "bool" p1] [] pos) (rOne m (isiD "bool")) := c_isi "bool" B g g' (by simp [bnames]) (by decide +kernel) (by decide) (by decide) h n
theorem c_isi_str (B : Bs I.mg) (g : glB I.sc "isinstance" = true) (g' : glB I.sc "str" = true) (h : DE I W a m) (n : nst a = true) : DR I W (.Call (.Name "isinstance" p0) [a, .Name "str" p1] [] pos) (rOne m (isiD "str")) := c_isi "str" B g g' (by simp [bnames]) (by decide +kernel) (by decide) (by decide) h n
theorem c_isi_list (B : Bs I.mg) (g : glB I.sc "isinstance" = true) (g' : glB I.sc "list" = true) (h : DE I W a m) (n : nst a = true) : DR I W (.Call (.Name "isinstance" p0) [a, .Name "list" p1] [] pos) (rOne m (isiD "list")) := c_isi "list" B g g' (by simp [bnames]) (by decide +kernel) (by decide) (by decide) h n
theorem c_isi_tuple (B : Bs I.mg) (g : glB I.sc "isinstance" = true) (g' : glB I.sc "tuple" = true) (h : DE I W a m) (n : nst a = true) : DR I W (.Call (.Name "isinstance" p0) [a, .Name "tuple" p1] [] pos) (rOne m (isiD "tuple")) := c_isi "tuple" B g g' (by simp [bnames]) (by decide +kernel) (by decide) (by decide) h n
theorem c_isi_dict (B : Bs I.mg) (g : glB I.sc "isinstance" = true) (g' : glB I.sc "dict" = true) (h : DE I W a m) (n : nst a = true) : DR I W (.Call (.Name "isinstance" p0) [a, .Name "dict" p1] [] pos) (rOne m (isiD "dict")) := c_isi "dict" B g g' (by simp [bnames]) (by decide +kernel) (by decide) (by decide) h n
theorem c_isi_lt (B : Bs I.mg) (g : glB I.sc "isinstance" = true) (g' : glB I.sc "list" = true) (g2 : glB I.sc "tuple" = true) (h : DE I W a m) (n : nst a = true) : DR I W (.Call (.Name "isinstance" p0) [a, .Tuple [.Name "list" p1, .Name "tuple" p2] kk p3] [] pos) (rOne m (isiD2 "list" "tuple")) :=
  dr_isi2 (isG_ok g) (B _ (by simp [bnames])) (isG_ok g') (B _ (by simp [bnames])) (by decide +kernel) (by decide) (by decide) (isG_ok g2) (B _ (by simp [bnames])) (by decide +kernel) (by decide) (by decide) h n
theorem c_isi_tl (B : Bs I.mg) (g : glB I.sc "isinstance" = true) (g' : glB I.sc "tuple" = true) (g2 : glB I.sc "list" = true) (h : DE I W a m) (n : nst a = true) : DR I W (.Call (.Name "isinstance" p0) [a, .Tuple [.Name "tuple" p1, .Name "list" p2] kk p3] [] pos) (rOne m (isiD2 "tuple" "list")) :=
  dr_isi2 (isG_ok g) (B _ (by simp [bnames])) (isG_ok g') (B _ (by simp [bnames])) (by decide +kernel) (by decide) (by decide) (isG_ok g2) (B _ (by simp [bnames])) (by decide +kernel) (by decide) (by decide) h n
theorem c_rng1 (B : Bs I.mg) (g : glB I.sc "range" = true) (h : DP I W [a] mp) : DI I W tg (.Call (.Name "range" p0) [a] [] pos) (iRng1M mp) := di_rng1 (isG_ok g) (B _ (by simp [bnames])) h
theorem c_rng2 (B : Bs I.mg) (g : glB I.sc "range" = true) (h : DP I W [a, b] mp) : DI I W tg (.Call (.Name "range" p0) [a, b] [] pos) (iRng2M mp) := di_rng2 (isG_ok g) (B _ (by simp [bnames])) h
theorem c_zip (B : Bs I.mg) (g : glB I.sc "zip" = true) (h : DP I W [a, b] mp) : DI I W (.Tuple elts kk tpos) (.Call (.Name "zip" p0) [a, b] [] pos) (iZipM mp) := di_zip (isG_ok g) (B _ (by simp [bnames])) h
theorem c_enum (B : Bs I.mg) (g : glB I.sc "enumerate" = true) (h : DP I W [a] mp) : DI I W (.Tuple elts kk tpos) (.Call (.Name "enumerate" p0) [a] [] pos) (iEnumM mp) := di_enum (isG_ok g) (B _ (by simp [bnames])) h
def nodbg (x : Str) : Bool := !(x == ("__debug__" : Str))
theorem c_call {x : Str} {st : Stmt} {ps : List Str} {sem : FS} {k : Nat} (F : DF I.P I.w I.K I.mg I.base k x st ps sem) (hk : Nat.ble k I.k = true) (g : (glB I.sc x && nodbg x) = true) (h : DP I W (a :: es) mp) : DR I W (.Call (.Name x p0) (a :: es) [] pos) (rCall sem mp) := by
  simp only [Bool.and_eq_true] at g
  exact dr_call F (Nat.le_of_ble_eq_true hk) (isG_ok g.1) (by have := g.2; unfold nodbg at this; simpa using this) h
theorem c_call0 {x : Str} {st : Stmt} {ps : List Str} {sem : FS} {k : Nat} (F : DF I.P I.w I.K I.mg I.base k x st ps sem) (hk : Nat.ble k I.k = true) (g : (glB I.sc x && nodbg x) = true) : DR I W (.Call (.Name x p0) [] [] pos) (callS sem []) := by
  simp only [Bool.and_eq_true] at g
  exact dr_call0 F (Nat.le_of_ble_eq_true hk) (isG_ok g.1) (by have := g.2; unfold nodbg at this; simpa using this)
theorem c_callK {x : Str} {st : Stmt} {ps ks : List Str} {sem : FS} {k n : Nat} {perm : List Nat} {mk : M (List Ar)} {kws : List Keyword} (F : DF I.P I.w I.K I.mg I.base k x st ps sem) (hk : Nat.ble k I.k = true) (g : (glB I.sc x && nodbg x) = true)
    (ha : DP I W (a :: es) mp) (hkw : DK I W kws mk) (hb : KwOk x st ps ks n perm) (hall : ∀ env : Env, (backToKw pos (keywordEach kws env)).all (·.1.isSome) = true) (hks : ∀ env : Env, (backToKw pos (keywordEach kws env)).filterMap (·.1) = ks)
    (hno : ∀ env : Env, (backToKw pos (keywordEach kws env)).any (·.1.isNone) = false) : DR I W (.Call (.Name x p0) (a :: es) kws pos) (rCallK sem n ks.length perm mp mk) := by
  simp only [Bool.and_eq_true] at g
  exact dr_callK F (Nat.le_of_ble_eq_true hk) (isG_ok g.1) (by have := g.2; unfold nodbg at this; simpa using this) ha hkw hb hall hks hno
theorem c_callK0 {x : Str} {st : Stmt} {ps ks : List Str} {sem : FS} {k : Nat} {perm : List Nat} {mk : M (List Ar)} {kws : List Keyword} (F : DF I.P I.w I.K I.mg I.base k x st ps sem) (hk : Nat.ble k I.k = true) (g : (glB I.sc x && nodbg x) = true)
    (hkw : DK I W kws mk) (hb : KwOk x st ps ks 0 perm) (hall : ∀ env : Env, (backToKw pos (keywordEach kws env)).all (·.1.isSome) = true) (hks : ∀ env : Env, (backToKw pos (keywordEach kws env)).filterMap (·.1) = ks)
    (hno : ∀ env : Env, (backToKw pos (keywordEach kws env)).any (·.1.isNone) = false) : DR I W (.Call (.Name x p0) [] kws pos) (rCallK sem 0 ks.length perm aNil mk) := by
  simp only [Bool.and_eq_true] at g
  exact dr_callK0 F (Nat.le_of_ble_eq_true hk) (isG_ok g.1) (by have := g.2; unfold nodbg at this; simpa using this) hkw hb hall hks hno
end
/-- what the module's head says of a def -/
def FD (K : PySem.W.Frag) (mg : MG) (x : Str) (st : Stmt) : Prop := ∃ f fd, FunD K x x (defArgs st) (defBody st) (defScope st) [] [] f fd ∧ mg x = some (.ref f)
theorem df_of {P : Program} {w : World} {K : PySem.W.Frag} {mg : MG} {base : Heap} {k : Nat} {x : Str} {st : Stmt} {N ps : List Str} {m : M Fl} (F : FD K mg x st) (S : fsB N ps (defScope st) = true) (hp : Nat.ble ps.length N.length = true)
    (hb : ∀ (kV doc pm : Value) (an : Option Addr) (cdv ct : Value) (us : List Value), us.length = ps.length → bindArgs (PySem.W.fnOf x x (defArgs st) (defBody st) (defScope st) .none kV doc pm an cdv ct) ⟨us, []⟩ = pure (ps.zip us))
    (body : ∀ W : WX, DSs ⟨P, w, K, mg, base, N, defScope st, fun _ => true, k⟩ W (defBody st) m) : DF P w K mg base (k + 1) x st ps (sFun N.length ps.length m) := by
  obtain ⟨f, fd, F1, F2⟩ := F
  exact df_mk F1 F2 (fsk S) (Nat.le_of_ble_eq_true hp) hb body
theorem dss_no {I : CI} {W : WX} {sts : List Stmt} : DSs I W sts sNever := by
  cases sts with
  | nil => exact ⟨tNext, fun _ _ => pss_nil, fun p G σ H e E S w => w.elim⟩
  | cons s r =>
    obtain ⟨t, h1, h2⟩ := (ds_never : DS I W s sNever)
    obtain ⟨u, h3, h4⟩ := (dss_no : DSs I W r sNever)
    exact ⟨_, fun X ok => pss_cons (h1 X ok) (h3 X ok), fun p G σ H e E S w => w.elim⟩
termination_by sts.length
/-- the fuel of a while -/
def FUEL : Nat := 100000
/-- a body's meaning, by itself -/
abbrev CIof (P : Program) (w : World) (K : PySem.W.Frag) (mg : MG) (base : Heap) (N : List Str) (st : Stmt) (k : Nat) : CI := ⟨P, w, K, mg, base, N, defScope st, fun _ => true, k⟩
end DL
namespace DL
theorem eC_nx {d : D} : ∀ e c fs e', eC d e ≠ .ex c fs e' := fun _ _ _ _ z => by cases z
theorem eVar_nx {i : Nat} : ∀ e c fs e', eVar i e ≠ .ex c fs e' := fun e _ _ _ z => by
  unfold eVar at z
  cases q : e[i]? with
  | none => rw [q] at z; cases z
  | some s => rw [q] at z; cases s <;> cases z
end DL
namespace DL
theorem ble_lv {a b n : Nat} (h : Nat.ble a b = true) : Nat.ble a (b + n + 1) = true := Nat.ble_eq_true_of_le (by have := Nat.le_of_ble_eq_true h; omega)
theorem ble_self (a : Nat) : Nat.ble a a = true := Nat.ble_eq_true_of_le (Nat.le_refl a)
end DL
end

section
namespace DL
open PySem PySem.Spec L2
open PyProof.Rows hiding St

/-! ### the head's facts -/
section
variable {K : PySem.W.Frag} {h : Heap} {mg : MG} {fa : List He.Fa} {fn : List He.DefD}
theorem says_fact (c : He.SaysD fa fn K) {f : He.Fa} (hf : f ∈ fa) : f.ok K = true := by
  obtain ⟨i, hi, e⟩ := List.mem_iff_getElem.mp hf
  exact c.fact i (f := f) (by rw [List.getElem?_eq_getElem hi, e])
theorem bs_of (X : K.In h) (G : h.Ns mainGlobals mg) (c : He.SaysD (bnames.map He.Fa.free ++ fa) fn K) : Bs mg := fun x hx =>
  He.free_ok X G (says_fact c (List.mem_append_left _ (List.mem_map_of_mem hx)))
/-- a def without defaults, as a datum -/
def dd (x : Str) (st : Stmt) : He.DefD := ⟨(x, none), x, x, defArgs st, defBody st, defScope st, [], []⟩
theorem fd_of (X : K.In h) (G : h.Ns mainGlobals mg) (c : He.SaysD fa fn K) {x : Str} {st : Stmt} (i : Nat) (hi : fn[i]? = some (dd x st)) (hf : He.Fa.glo x ∈ fa) : FD K mg x st := by
  obtain ⟨fd, F⟩ := c.def_ i (d := dd x st) hi
  exact ⟨_, fd, F, He.glo_ok X G (says_fact c hf)⟩
end
/-! ### the law's end -/
theorem cx_end {P : Program} {w : World} {H : Hp} {s : Shared} {u : Value} {s' : Shared} (h : L2.CX P w [] H s (fun _ _ _ => False) u s') : False := by
  obtain ⟨_, _, _, _, _, _, _, _, _, _, _, _, z⟩ := h
  exact z
/-- the script, as the law's def gets it -/
theorem script_rep {K : PySem.W.Frag} {mg : MG} {H : Hp} {h : Heap} {a : Addr} {vs : List Value} {ns : List Int} (KX : K.In h) (ho : h.get? a = some { cls := .type "list", data := .seq vs.toArray }) (hS : SqL K H a (ns.map V.int)) : Rep K mg H (.ref a) (.lst (ns.map .int)) := by
  refine .mk_lst ?_ (reps_ints ns)
  rcases hS with h1 | ⟨o, its, n, k1, k2, k3, k4, k5, k6⟩
  · exact .inl h1
  · have e := KX _ _ k1
    rw [ho] at e
    cases e
    cases k4
    exact .inr ⟨vs, _, k1, by simpa using k5, by simpa using k6⟩
theorem walk_D {l : PySem.W.OpenLaw} {n k : Nat} {q : Program} {loose : List Str} {XP : (Str → Option Value) → Heap → Prop} {YP : World → Heap → Prop} {d : DefRec} {x nm : Str} {st : Stmt} {sem : FS}
    (hn : l.most = some n) (hn2 : n ≤ sizeLine) (hdf : d.params.defaults = []) (hr : Room k callerA) (hnm : d.name = nm)
    (hb : ∀ (kV doc pm : Value) (an : Option Addr) (cdv ct : Value) (us : List Value), us.length = [x].length → bindArgs (PySem.W.fnOf nm nm (defArgs st) (defBody st) (defScope st) .none kV doc pm an cdv ct) ⟨us, []⟩ = pure ([x].zip us))
    (F : ∀ (w : World) (mg : MG) (h : Heap), YP w h → h.Ns mainGlobals mg → ∃ K : PySem.W.Frag, K.In h ∧ ∀ base : Heap, DF l.prog w K mg base k nm st [x] sem)
    (hsem : ∀ ns : List Int, ns.length ≤ n → ∃ o, sem [.sh (.lst (ns.map .int))] = .ok (.sh (.bl true)) o) :
    PySem.W.WalkO q loose XP YP l.row.toRowW d [] (fun f vs => PySem.call f vs) := by
  refine Att.attach_call hn hdf fun w s₀ s₁ mg mb fa o pm cd doc a vs ns G Y ho hd hcd hmg hobj hints hlen hg => ?_
  obtain ⟨K, KX, D⟩ := F w mg _ Y G.T.g
  rw [hnm] at hmg
  obtain ⟨f, fd, _, F2, F3, _⟩ := (D s₁.heap).ex
  rw [hmg] at F2
  cases F2
  have F1 : ∀ base : Heap, FnOk l.prog w K mg base (L2.CX l.prog w) k fa fd [x] (spF K mg sem) := fun base => by
    obtain ⟨f', fd', g0, g2, g3, _⟩ := (D base).ex
    rw [hmg] at g2
    cases g2
    obtain ⟨_, _, _, _, _, _, _, _, _, _, _, lk, _⟩ := F3.ex
    obtain ⟨_, _, _, _, _, _, _, _, _, _, _, lk', _⟩ := g3.ex
    rw [lk] at lk'
    cases lk'
    exact g0
  have b := FunD.bindsA (ps := [x]) F3 hb
  refine law_call KX G.T.g G.T.b G.T.builtins G.T.nolimit hg hobj hints (Nat.le_trans hlen hn2) hr (fun base _ _ => F1 base) (fun s u => b s [u] rfl) (fun H _ hS => ?_) fun H e s' z => cx_end z
  obtain ⟨out, hout⟩ := hsem ns hlen
  have R : Rep K mg H (.ref a) (.lst (ns.map .int)) := script_rep KX hobj hS
  refine ⟨fun _ => 0, H, [.sh (.lst (ns.map .int))], ⟨Same.refl _, rfl, fun j d' q => ?_, fun j x q => ?_, fun i j x y q => ?_, fun j x q => ?_⟩, ?_⟩
  · cases j with
    | zero => simp at q; subst q; exact ⟨_, rfl, R⟩
    | succ j => simp at q
  · cases j with
    | zero => simp at q
    | succ j => simp at q
  · cases i with
    | zero => simp at q
    | succ i => simp at q
  · cases j with
    | zero => simp at q
    | succ j => simp at q
  · rw [hout]
    intro G' H' _ v rv
    cases rv
    rfl
end DL
end

section
namespace DL
open PySem PySem.Spec L2
open PyProof.Rows hiding St

/-! ### meanings, evaluated -/
section
variable {α β : Type} {e e1 e2 e3 : En} {x y z d : D} {r r' : Ret} {k k' : Bool}
theorem ev_bnd {m : M α} {f : α → M β} {a : α} (h : m e = .ok a e1) : M.bnd m f e = f a e1 := by unfold M.bnd; rw [h]
theorem ev_mD {m : M Ret} (h : m e = .ok (.sh d) e1) : mD m e = .ok d e1 := ev_bnd h
theorem ev_mDo {m : M Ret} {c : Ct} (h : m e = .ok (.ow c) e1) : mD m e = .ok c.d e1 := ev_bnd h
theorem ev_mDl {m : M Ret} {l : List D} (h : m e = .ok (.ow (.l l)) e1) : mD m e = .ok (.lst l) e1 := ev_bnd h
theorem ev_mR {m : M D} (h : m e = .ok d e1) : mR m e = .ok (.sh d) e1 := ev_bnd h
theorem ev_bin {f : D → D → Option Ret} {ma mb : M D} (ha : ma e = .ok x e1) (hb : mb e1 = .ok y e2) (hf : f x y = some r) : rBin f ma mb e = .ok r e2 := by
  unfold rBin; rw [ev_bnd ha, ev_bnd hb, hf]; rfl
theorem ev_cmp {f : D → D → Option Ret} {ma mb : M D} (ha : ma e = .ok x e1) (hb : mb e1 = .ok y e2) (hf : f x y = some (.sh (.bl k))) : tCmp f ma mb e = .ok k e2 := by
  unfold tCmp; rw [ev_bnd (ev_bin ha hb hf)]; rfl
theorem ev_chain1 {f g : D → D → Option Ret} {ma mb mc : M D} (ha : ma e = .ok x e1) (hb : mb e1 = .ok y e2) (hf : f x y = some (.sh (.bl true))) (hc : mc e2 = .ok z e3) (hg : g y z = some r) : rChain f g ma mb mc e = .ok r e3 := by
  unfold rChain; rw [ev_bnd ha, ev_bnd hb, hf]
  show M.bnd mc (fun z => lift (g y z)) e2 = _
  rw [ev_bnd hc, hg]; rfl
theorem ev_chain0 {f g : D → D → Option Ret} {ma mb mc : M D} (ha : ma e = .ok x e1) (hb : mb e1 = .ok y e2) (hf : f x y = some (.sh (.bl false))) : rChain f g ma mb mc e = .ok (.sh (.bl false)) e2 := by
  unfold rChain; rw [ev_bnd ha, ev_bnd hb, hf]; rfl
theorem ev_tchain1 {f g : D → D → Option Ret} {ma mb mc : M D} (ha : ma e = .ok x e1) (hb : mb e1 = .ok y e2) (hf : f x y = some (.sh (.bl true))) (hc : mc e2 = .ok z e3) (hg : g y z = some (.sh (.bl k))) : M.bnd (rChain f g ma mb mc) (fun r => lift (blOf r)) e = .ok k e3 := by
  rw [ev_bnd (ev_chain1 ha hb hf hc hg)]; rfl
theorem ev_tru {m : M D} (h : m e = .ok d e1) (hd : dTru d = some k) : tTru m e = .ok k e1 := by unfold tTru; rw [ev_bnd h, hd]; rfl
theorem ev_and1 {m n : M Bool} (h : m e = .ok true e1) (h' : n e1 = .ok k e2) : tAndM m n e = .ok k e2 := by unfold tAndM; rw [ev_bnd h]; exact h'
theorem ev_and0 {m n : M Bool} (h : m e = .ok false e1) : tAndM m n e = .ok false e1 := by unfold tAndM; rw [ev_bnd h]; rfl
theorem ev_or1 {m n : M Bool} (h : m e = .ok true e1) : tOrM m n e = .ok true e1 := by unfold tOrM; rw [ev_bnd h]; rfl
theorem ev_or0 {m n : M Bool} (h : m e = .ok false e1) (h' : n e1 = .ok k e2) : tOrM m n e = .ok k e2 := by unfold tOrM; rw [ev_bnd h]; exact h'
theorem ev_not {m : M Bool} (h : m e = .ok k e1) : tNotM m e = .ok (!k) e1 := by unfold tNotM; rw [ev_bnd h]; rfl
theorem ev_eAnd1 {m n : M D} (h : m e = .ok x e1) (hx : dTru x = some true) (h' : n e1 = .ok y e2) : eAnd m n e = .ok y e2 := by unfold eAnd; rw [ev_bnd h, hx]; exact h'
theorem ev_eAnd0 {m n : M D} (h : m e = .ok x e1) (hx : dTru x = some false) : eAnd m n e = .ok x e1 := by unfold eAnd; rw [ev_bnd h, hx]; rfl
theorem ev_eOr1 {m n : M D} (h : m e = .ok x e1) (hx : dTru x = some true) : eOr m n e = .ok x e1 := by unfold eOr; rw [ev_bnd h, hx]; rfl
theorem ev_eOr0 {m n : M D} (h : m e = .ok x e1) (hx : dTru x = some false) (h' : n e1 = .ok y e2) : eOr m n e = .ok y e2 := by unfold eOr; rw [ev_bnd h, hx]; exact h'
theorem ev_eNot {m : M D} (h : m e = .ok x e1) (hx : dTru x = some k) : eNot m e = .ok (.bl (!k)) e1 := by unfold eNot; rw [ev_bnd h, hx]; rfl
theorem ev_rIf {c : M Bool} {m n : M Ret} (h : c e = .ok k e1) : rIf c m n e = (if k = true then m else n) e1 := by unfold rIf; rw [ev_bnd h]
theorem ev_rIf1 {c : M Bool} {m n : M Ret} (h : c e = .ok true e1) : rIf c m n e = m e1 := by rw [ev_rIf h]; rfl
theorem ev_rIf0 {c : M Bool} {m n : M Ret} (h : c e = .ok false e1) : rIf c m n e = n e1 := by rw [ev_rIf h]; rfl
theorem ev_un {g : Int → Int} {m : M D} {i : Int} (h : m e = .ok (.int i) e1) : eUn g m e = .ok (.int (g i)) e1 := by unfold eUn; rw [ev_bnd h]; rfl
/-! arguments -/
theorem ev_aD {m : M D} (h : m e = .ok d e1) : aD m e = .ok (.d d) e1 := by unfold aD; rw [ev_bnd h]; rfl
theorem ev_cons {ma : M Ar} {mr : M (List Ar)} {a : Ar} {as : List Ar} (h : ma e = .ok a e1) (h' : mr e1 = .ok as e2) : aCons ma mr e = .ok (a :: as) e2 := by unfold aCons; rw [ev_bnd h, ev_bnd h']; rfl
theorem ev_d1 {m : M D} (h : m e = .ok x e1) : aCons (aD m) aNil e = .ok [.d x] e1 := ev_cons (ev_aD h) rfl
theorem ev_d2 {m n : M D} (h : m e = .ok x e1) (h' : n e1 = .ok y e2) : aCons (aD m) (aCons (aD n) aNil) e = .ok [.d x, .d y] e2 := ev_cons (ev_aD h) (ev_d1 h')
theorem ev_d3 {m n o : M D} (h : m e = .ok x e1) (h' : n e1 = .ok y e2) (h'' : o e2 = .ok z e3) : aCons (aD m) (aCons (aD n) (aCons (aD o) aNil)) e = .ok [.d x, .d y, .d z] e3 := ev_cons (ev_aD h) (ev_d2 h' h'')
theorem ev_vals {m : M (List Ar)} {as : List Ar} {ds : List D} (h : m e = .ok as e1) (hd : dVals as = some ds) : aVals m e = .ok ds e1 := by unfold aVals; rw [ev_bnd h, hd]; rfl
theorem ev_tup {m : M (List Ar)} {as : List Ar} {ds : List D} (h : m e = .ok as e1) (hd : dVals as = some ds) (hl : ds.length ≤ LIM) : eTup m e = .ok (.tup ds) e1 := by unfold eTup; rw [ev_bnd (ev_vals h hd), if_pos hl]; rfl
theorem ev_lst {m : M (List Ar)} {as : List Ar} {ds : List D} (h : m e = .ok as e1) (hd : dVals as = some ds) (hl : ds.length ≤ LIM) : rLst m e = .ok (.ow (.l ds)) e1 := by unfold rLst; rw [ev_bnd (ev_vals h hd), if_pos hl]; rfl
theorem ev_fn {f : List D → Option Ret} {m : M (List Ar)} {as : List Ar} {ds : List D} (h : m e = .ok as e1) (hd : dVals as = some ds) (hf : f ds = some r) : rFn f m e = .ok r e1 := by unfold rFn; rw [ev_bnd (ev_vals h hd), hf]; rfl
theorem ev_fn1 {f : List D → Option Ret} {m : M D} (h : m e = .ok x e1) (hf : f [x] = some r) : rFn f (aCons (aD m) aNil) e = .ok r e1 := ev_fn (ev_d1 h) rfl hf
theorem ev_one {f : D → Option Ret} {m : M D} (h : m e = .ok x e1) (hf : f x = some r) : rOne m f e = .ok r e1 := by unfold rOne; rw [ev_bnd h, hf]; rfl
/-! calls -/
theorem ev_call {sem : FS} {ma : M (List Ar)} {as : List Ar} {args outs : List Sl} (h : ma e = .ok as e1) (ha : argsOf e1 as = some args) (hn : (ixs as).Nodup) (hs : sem args = .ok r outs) : rCall sem ma e = .ok r (putBack as outs e1) := by
  unfold rCall; rw [ev_bnd h]; unfold callS; rw [ha]; dsimp only; rw [if_pos hn, hs]
theorem ev_callP {sem : FS} {ma : M (List Ar)} {as : List Ar} {args outs : List Sl} (h : ma e = .ok as e1) (ha : argsOf e1 as = some args) (hn : (ixs as).Nodup) (hs : sem args = .ok r outs) (hp : putBack as outs e1 = e2) : rCall sem ma e = .ok r e2 := by
  rw [ev_call h ha hn hs, hp]
theorem ev_call1 {sem : FS} {m : M D} {outs : List Sl} (h : m e = .ok x e1) (hs : sem [.sh x] = .ok r outs) : rCall sem (aCons (aD m) aNil) e = .ok r e1 := ev_call (ev_d1 h) rfl List.nodup_nil hs
theorem ev_call2 {sem : FS} {m n : M D} {outs : List Sl} (h : m e = .ok x e1) (h' : n e1 = .ok y e2) (hs : sem [.sh x, .sh y] = .ok r outs) : rCall sem (aCons (aD m) (aCons (aD n) aNil)) e = .ok r e2 := ev_call (ev_d2 h h') rfl List.nodup_nil hs
theorem ev_call3 {sem : FS} {m n o : M D} {outs : List Sl} (h : m e = .ok x e1) (h' : n e1 = .ok y e2) (h'' : o e2 = .ok z e3) (hs : sem [.sh x, .sh y, .sh z] = .ok r outs) : rCall sem (aCons (aD m) (aCons (aD n) (aCons (aD o) aNil))) e = .ok r e3 := ev_call (ev_d3 h h' h'') rfl List.nodup_nil hs
theorem ev_kw {sem : FS} {n nk : Nat} {perm : List Nat} {ma mk : M (List Ar)} {as ks : List Ar} {args outs : List Sl} (h : ma e = .ok as e1) (h' : mk e1 = .ok ks e2) (hl : as.length = n ∧ ks.length = nk) (ha : argsOf e2 (permL (.d .non) perm (as ++ ks)) = some args)
    (hn : (ixs (permL (.d .non) perm (as ++ ks))).Nodup) (hs : sem args = .ok r outs) : rCallK sem n nk perm ma mk e = .ok r (putBack (permL (.d .non) perm (as ++ ks)) outs e2) := by
  unfold rCallK; rw [ev_bnd h, ev_bnd h', if_pos hl]; unfold callS; rw [ha]; dsimp only; rw [if_pos hn, hs]
/-! subscripts -/
theorem ev_ix {ma mb : M D} (ha : ma e = .ok x e1) (hb : mb e1 = .ok y e2) (hf : fIx x y = some z) : eIx ma mb e = .ok z e2 := by unfold eIx; rw [ev_bnd ha, ev_bnd hb, hf]; rfl
theorem ev_ixV {i : Nat} {mb : M D} (h0 : (e[i]?.bind Sl.look).isSome = true) (hb : mb e = .ok y e1) (h : e1[i]?.bind Sl.look = some x) (hf : fIx x y = some z) : eIxV i mb e = .ok z e1 := by
  unfold eIxV has; rw [if_pos h0, ev_bnd hb]; unfold peek; rw [h]; dsimp only; rw [hf]; rfl
/-! statements -/
theorem ev_ret {m : M Ret} (h : m e = .ok r e1) : sRet m e = .ok (.rt r) e1 := by unfold sRet; rw [ev_bnd h]; rfl
theorem ev_seq {m n : M Fl} (h : m e = .ok .nx e1) : sSeq m n e = n e1 := by unfold sSeq; rw [ev_bnd h]
theorem ev_seqR {m n : M Fl} (h : m e = .ok (.rt r) e1) : sSeq m n e = .ok (.rt r) e1 := by unfold sSeq; rw [ev_bnd h]; rfl
theorem ev_if {c : M Bool} {m n : M Fl} (h : c e = .ok k e1) : sIf c m n e = (if k = true then m else n) e1 := by unfold sIf; rw [ev_bnd h]
theorem ev_if1 {c : M Bool} {m n : M Fl} (h : c e = .ok true e1) : sIf c m n e = m e1 := by rw [ev_if h]; rfl
theorem ev_if0 {c : M Bool} {m n : M Fl} (h : c e = .ok false e1) : sIf c m n e = n e1 := by rw [ev_if h]; rfl
theorem ev_asg {m : M D} {g : D → M Unit} (h : m e = .ok d e1) (h' : g d e1 = .ok () e2) : sAsg m g e = .ok .nx e2 := by unfold sAsg; rw [ev_bnd h, ev_bnd h']; rfl
theorem ev_own {m : M Ret} {i : Nat} (h : m e = .ok r e1) : sOwn m i e = gOwn i r e1 := by unfold sOwn; rw [ev_bnd h]
theorem ev_seq' {m n : M Fl} {z : R Fl} (h : m e = .ok .nx e1) (h' : n e1 = z) : sSeq m n e = z := (ev_seq h).trans h'
theorem ev_if1' {c : M Bool} {m n : M Fl} {z : R Fl} (h : c e = .ok true e1) (h' : m e1 = z) : sIf c m n e = z := (ev_if1 h).trans h'
theorem ev_if0' {c : M Bool} {m n : M Fl} {z : R Fl} (h : c e = .ok false e1) (h' : n e1 = z) : sIf c m n e = z := (ev_if0 h).trans h'
theorem ev_rIf1' {c : M Bool} {m n : M Ret} {z : R Ret} (h : c e = .ok true e1) (h' : m e1 = z) : rIf c m n e = z := (ev_rIf1 h).trans h'
theorem ev_rIf0' {c : M Bool} {m n : M Ret} {z : R Ret} (h : c e = .ok false e1) (h' : n e1 = z) : rIf c m n e = z := (ev_rIf0 h).trans h'
theorem ev_own' {m : M Ret} {i : Nat} {z : R Fl} (h : m e = .ok r e1) (h' : gOwn i r e1 = z) : sOwn m i e = z := (ev_own h).trans h'
/-! loops -/
theorem ev_for {mi : M (List D)} {g : D → M Unit} {b : M Fl} {ds : List D} (h : mi e = .ok ds e1) : sFor mi g b e = loopF g b ds e1 := by unfold sFor; rw [ev_bnd h]
theorem ev_for' {mi : M (List D)} {g : D → M Unit} {b : M Fl} {ds : List D} {z : R Fl} (h : mi e = .ok ds e1) (h' : loopF g b ds e1 = z) : sFor mi g b e = z := (ev_for h).trans h'
theorem loop_inv {g : D → M Unit} {b : M Fl} (Inv : Nat → En → Prop) : ∀ (ds : List D) (n : Nat) (e : En), Inv n e → (∀ i d e, ds[i]? = some d → Inv (n + i) e → ∃ e1, g d e = .ok () e1 ∧ ∃ fl e2, b e1 = .ok fl e2 ∧ (fl = .nx ∨ fl = .ct) ∧ Inv (n + i + 1) e2) →
    ∃ e', loopF g b ds e = .ok .nx e' ∧ Inv (n + ds.length) e'
  | [], n, e, h, _ => ⟨e, rfl, h⟩
  | d :: ds, n, e, h, st => by
    obtain ⟨e1, h1, fl, e2, h2, h3, h4⟩ := st 0 d e rfl h
    obtain ⟨e', q1, q2⟩ := loop_inv Inv ds (n + 1) e2 h4 (fun i d' e' q k => by
      have := st (i + 1) d' e' (by simpa using q) (by rw [show n + (i + 1) = n + 1 + i by omega]; exact k)
      rw [show n + 1 + i + 1 = n + (i + 1) + 1 by omega]
      exact this)
    refine ⟨e', ?_, by rw [List.length_cons, show n + (ds.length + 1) = n + 1 + ds.length by omega]; exact q2⟩
    unfold loopF
    rw [ev_bnd h1, ev_bnd h2]
    rcases h3 with rfl | rfl <;> exact q1
/-! blocks -/
theorem ev_turn {g : D → M Unit} {t : M Bool} {m : M D} (h1 : g d e = .ok () e1) (h2 : t e1 = .ok true e2) (h3 : m e2 = .ok y e3) : turnC g t m d e = .ok (some y) e3 := by
  unfold turnC; rw [ev_bnd h1, ev_bnd h2, if_pos rfl, ev_bnd h3]; rfl
theorem ev_turn0 {g : D → M Unit} {t : M Bool} {m : M D} (h1 : g d e = .ok () e1) (h2 : t e1 = .ok false e2) : turnC g t m d e = .ok none e2 := by
  unfold turnC; rw [ev_bnd h1, ev_bnd h2, if_neg Bool.false_ne_true]; rfl
theorem comp_run {g : D → M Unit} {t : M Bool} {m : M D} {vs : List Nat} (Inv : Nat → List D → En → Prop) : ∀ (ds acc : List D) (n : Nat) (e : En), Inv n acc e →
    (∀ i d acc e, ds[i]? = some d → Inv (n + i) acc e → noOwn e vs = true ∧ ∃ o e1, turnC g t m d (wipeE e vs) = .ok o e1 ∧ Inv (n + i + 1) (acc ++ o.toList) (backE e1 e vs)) →
    ∃ acc' e', compF g t m vs ds acc e = .ok acc' e' ∧ Inv (n + ds.length) acc' e'
  | [], acc, n, e, h, _ => ⟨acc, e, rfl, h⟩
  | d :: ds, acc, n, e, h, st => by
    obtain ⟨h0, o, e1, h1, h2⟩ := st 0 d acc e rfl h
    obtain ⟨acc', e', q1, q2⟩ := comp_run Inv ds (acc ++ o.toList) (n + 1) _ h2 (fun i d' a' e' q k => by
      have := st (i + 1) d' a' e' (by simpa using q) (by rw [show n + (i + 1) = n + 1 + i by omega]; exact k)
      rw [show n + 1 + i + 1 = n + (i + 1) + 1 by omega]
      exact this)
    refine ⟨acc', e', ?_, by rw [List.length_cons, show n + (ds.length + 1) = n + 1 + ds.length by omega]; exact q2⟩
    unfold compF
    rw [if_pos h0, h1]
    cases o with
    | none => simpa using q1
    | some y => exact q1
theorem comp_pure {g : D → M Unit} {t : M Bool} {m : M D} {vs : List Nat} {ds : List D} {F : D → Option D} (h0 : noOwn e vs = true) (st : ∀ d ∈ ds, ∃ e1, turnC g t m d (wipeE e vs) = .ok (F d) e1 ∧ backE e1 e vs = e) : ∀ acc, compF g t m vs ds acc e = .ok (acc ++ ds.filterMap F) e := by
  induction ds with
  | nil => intro acc; simp [compF]; rfl
  | cons d ds ih =>
    intro acc
    obtain ⟨e1, h1, h2⟩ := st d List.mem_cons_self
    unfold compF
    rw [if_pos h0, h1]
    cases q : F d with
    | none =>
      dsimp only
      rw [h2, ih (fun d' hd => st d' (List.mem_cons_of_mem _ hd)), List.filterMap_cons, q]
    | some y =>
      dsimp only
      rw [h2, ih (fun d' hd => st d' (List.mem_cons_of_mem _ hd)), List.filterMap_cons, q]
      simp
theorem ev_comp {mi : M (List D)} {g : D → M Unit} {t : M Bool} {m : M D} {vs : List Nat} {ds l : List D} (h : mi e = .ok ds e1) (hl : ds.length ≤ LIM) (hc : compF g t m vs ds [] e1 = .ok l e2) : rComp mi g t m vs e = .ok (.ow (.l l)) e2 := by
  unfold rComp; rw [ev_bnd h, if_pos hl, ev_bnd hc]; rfl
theorem ev_compP {mi : M (List D)} {g : D → M Unit} {t : M Bool} {m : M D} {vs : List Nat} {ds : List D} {F : D → Option D} (h : mi e = .ok ds e1) (hl : ds.length ≤ LIM) (h0 : noOwn e1 vs = true) (st : ∀ d ∈ ds, ∃ e2, turnC g t m d (wipeE e1 vs) = .ok (F d) e2 ∧ backE e2 e1 vs = e1) :
    rComp mi g t m vs e = .ok (.ow (.l (ds.filterMap F))) e1 := ev_comp h hl (by rw [comp_pure h0 st]; rfl)
theorem ev_compP' {mi : M (List D)} {g : D → M Unit} {t : M Bool} {m : M D} {vs : List Nat} {ds l : List D} {F : D → Option D} (h : mi e = .ok ds e1) (hl : ds.length ≤ LIM) (h0 : noOwn e1 vs = true) (st : ∀ d ∈ ds, ∃ e2, turnC g t m d (wipeE e1 vs) = .ok (F d) e2 ∧ backE e2 e1 vs = e1) (hF : ds.filterMap F = l) :
    rComp mi g t m vs e = .ok (.ow (.l l)) e1 := by rw [ev_compP h hl h0 st, hF]
theorem comp_inv {g : D → M Unit} {t : M Bool} {m : M D} {vs : List Nat} (Inv : Nat → List D → En → Prop) (ds : List D) (h : Inv 0 [] e)
    (st : ∀ i d acc e, ds[i]? = some d → Inv i acc e → noOwn e vs = true ∧ ∃ o e1, turnC g t m d (wipeE e vs) = .ok o e1 ∧ Inv (i + 1) (acc ++ o.toList) (backE e1 e vs)) : ∃ acc' e', compF g t m vs ds [] e = .ok acc' e' ∧ Inv ds.length acc' e' := by
  have := comp_run (g := g) (t := t) (m := m) (vs := vs) Inv ds [] 0 e h fun i d acc e q k => by
    rw [Nat.zero_add] at k ⊢
    exact st i d acc e q k
  rwa [Nat.zero_add] at this
theorem loop_inv0 {g : D → M Unit} {b : M Fl} (Inv : Nat → En → Prop) (ds : List D) (h : Inv 0 e) (st : ∀ i d e, ds[i]? = some d → Inv i e → ∃ e1, g d e = .ok () e1 ∧ ∃ fl e2, b e1 = .ok fl e2 ∧ (fl = .nx ∨ fl = .ct) ∧ Inv (i + 1) e2) :
    ∃ e', loopF g b ds e = .ok .nx e' ∧ Inv ds.length e' := by
  have := loop_inv (g := g) (b := b) Inv ds 0 e h fun i d e q k => by
    rw [Nat.zero_add] at k ⊢
    exact st i d e q k
  rwa [Nat.zero_add] at this
theorem ev_seqL {m : M D} {l : List D} (h : m e = .ok d e1) (hd : seqL d = some l) : iSeq m e = .ok l e1 := by unfold iSeq; rw [ev_bnd h, hd]; rfl
/-! defs -/
theorem ev_fun {n k : Nat} {b : M Fl} {args : List Sl} {e' : En} (hl : args.length = k) (h : b (args ++ List.replicate (n - k) .no) = .ok (.rt r) e') : sFun n k b args = .ok r (e'.take k) := by
  unfold sFun; rw [if_pos hl, h]; rfl
theorem ev_funN {n k : Nat} {b : M Fl} {args : List Sl} {e' : En} (hl : args.length = k) (h : b (args ++ List.replicate (n - k) .no) = .ok .nx e') : sFun n k b args = .ok (.sh .non) (e'.take k) := by
  unfold sFun; rw [if_pos hl, h]; rfl
end
/-! ### data, compared by computing -/
mutual
def D.same : D → D → Bool
  | .non, .non => true
  | .bl a, .bl b => a == b
  | .int a, .int b => decide (a = b)
  | .str a, .str b => decide (a = b)
  | .tup a, .tup b => D.sameL a b
  | .lst a, .lst b => D.sameL a b
  | _, _ => false
def D.sameL : List D → List D → Bool
  | [], [] => true
  | a :: as, b :: bs => D.same a b && D.sameL as bs
  | _, _ => false
end
mutual
theorem same_ok : ∀ {a b : D}, D.same a b = true → a = b
  | .non, b, h => by cases b <;> first | rfl | (simp [D.same] at h)
  | .bl a, b, h => by cases b <;> simp [D.same] at h; rw [h]
  | .int a, b, h => by cases b <;> simp [D.same] at h; rw [h]
  | .str a, b, h => by cases b <;> simp [D.same] at h; rw [h]
  | .tup a, b, h => by cases b <;> simp [D.same] at h; rw [sameL_ok h]
  | .lst a, b, h => by cases b <;> simp [D.same] at h; rw [sameL_ok h]
  | .dct a, b, h => by cases b <;> simp [D.same] at h
  | .obj _ _, b, h => by cases b <;> simp [D.same] at h
theorem sameL_ok : ∀ {a b : List D}, D.sameL a b = true → a = b
  | [], [], _ => rfl
  | a :: as, b :: bs, h => by
    simp [D.sameL] at h
    rw [same_ok h.1, sameL_ok h.2]
  | [], _ :: _, h => by simp [D.sameL] at h
  | _ :: _, [], h => by simp [D.sameL] at h
end
/-- a result that is a value -/
def R.isD : R Ret → D → Bool
  | .ok (.sh x) _, d => D.same x d
  | _, _ => false
theorem isD_ok {r : R Ret} {d : D} (h : r.isD d = true) : ∃ o, r = .ok (.sh d) o := by
  cases r with
  | ok a e =>
    cases a with
    | sh x => exact ⟨e, by rw [same_ok h]⟩
    | ow _ => cases h
  | ex _ _ _ => cases h
  | no => cases h
/-! ### == on plain data -/
theorem eqvAll_nil : ∀ l : List D, PyData.eqvAll (pys l) [] = l.isEmpty
  | [] => rfl
  | _ :: _ => rfl
def intsD (ns : List Int) : List D := ns.map .int
theorem eqvAll_ints : ∀ ns ms : List Int, PyData.eqvAll (pys (intsD ns)) (pys (intsD ms)) = decide (ns = ms)
  | [], [] => rfl
  | [], _ :: _ => rfl
  | _ :: _, [] => rfl
  | n :: ns, m :: ms => by
    show (PyData.eqv (.int n) (.int m) && PyData.eqvAll (pys (intsD ns)) (pys (intsD ms))) = _
    rw [eqvAll_ints ns ms]
    show ((n == m) && _) = _
    by_cases h : n = m
    · subst h; simp
    · simp [h]
theorem lay_ints : ∀ ns : List Int, PyData.canLayAll0 (pys (intsD ns)) = true
  | [] => rfl
  | n :: ns => by
    show (PyData.canLay0 (.int n) && PyData.canLayAll0 (pys (intsD ns))) = true
    rw [lay_ints ns]; rfl
theorem depth_ints : ∀ ns : List Int, PyData.depthAll (pys (intsD ns)) = 0
  | [] => rfl
  | n :: ns => by
    show max (PyData.depth (.int n)) (PyData.depthAll (pys (intsD ns))) = 0
    rw [depth_ints ns]; rfl
theorem ok_tupI (ns : List Int) : okD (.tup (intsD ns)) = true := by
  unfold okD SeqAt.shaped
  show (PyData.canLayAll0 (pys (intsD ns)) && decide (PyData.depthAll (pys (intsD ns)) + 1 ≤ 64)) = true
  rw [lay_ints, depth_ints]; rfl
theorem ok_lstI (ns : List Int) : okD (.lst (intsD ns)) = true := by
  unfold okD SeqAt.shaped
  show (PyData.canLayAll0 (pys (intsD ns)) && decide (PyData.depthAll (pys (intsD ns)) + 1 ≤ 64)) = true
  rw [lay_ints, depth_ints]; rfl
theorem deq_int (i j : Int) : deq (.int i) (.int j) = some (i == j) := rfl
theorem deq_bl (i j : Bool) : deq (.bl i) (.bl j) = some (i == j) := rfl
theorem deq_tupI (ns ms : List Int) : deq (.tup (intsD ns)) (.tup (intsD ms)) = some (decide (ns = ms)) := by
  unfold deq; rw [ok_tupI, ok_tupI]
  show some (PyData.eqvAll (pys (intsD ns)) (pys (intsD ms))) = _
  rw [eqvAll_ints]
theorem deq_lstI (ns ms : List Int) : deq (.lst (intsD ns)) (.lst (intsD ms)) = some (decide (ns = ms)) := by
  unfold deq; rw [ok_lstI, ok_lstI]
  show some (PyData.eqvAll (pys (intsD ns)) (pys (intsD ms))) = _
  rw [eqvAll_ints]
theorem deq_nil {l : List D} (h : okD (.lst l) = true) : deq (.lst l) (.lst []) = some l.isEmpty := by
  unfold deq; rw [h, show okD (.lst []) = true from rfl]
  show some (PyData.eqvAll (pys l) []) = _
  rw [eqvAll_nil]
theorem dIn_int (i : Int) (ns : List Int) : dIn (.int i) (intsD ns) = some (decide (i ∈ ns)) := by
  unfold dIn
  rw [show okD (.int i) = true from rfl, ok_lstI]
  show some ((intsD ns).any fun z => PyData.eqv z.py (.int i)) = _
  congr 1
  induction ns with
  | nil => rfl
  | cons n ns ih =>
    show ((n == i) || (intsD ns).any fun z => PyData.eqv z.py (.int i)) = _
    rw [ih]
    by_cases h : n = i
    · subst h; simp
    · have h' : ¬ i = n := fun z => h z.symm
      simp [h, h']
end DL
end

section
namespace DL
open PySem PySem.Spec L2
open PyProof.Rows hiding St

/-! ### isinstance, by kinds -/
theorem kit_same (a : String) : kitB a a = some true := by
  unfold kitB
  rw [if_pos (by simp)]
def tyNames : List String := ["NoneType", "bool", "int", "str", "tuple", "list", "dict"]
def tyTab (t T : String) : Option Bool := some (t == T || (t == "bool" && T == "int"))
theorem kit_tab : ∀ t ∈ tyNames, ∀ T ∈ ["bool", "int", "str", "tuple", "list", "dict"], kitB t T = tyTab t T := by decide +kernel
def D.plain : D → Bool
  | .obj _ _ => false
  | _ => true
def D.isInt : D → Bool
  | .int _ => true
  | .bl _ => true
  | _ => false
def D.isBl : D → Bool
  | .bl _ => true
  | _ => false
def D.isStr : D → Bool
  | .str _ => true
  | _ => false
def D.isTup : D → Bool
  | .tup _ => true
  | _ => false
def D.isLst : D → Bool
  | .lst _ => true
  | _ => false
theorem isi_int {d : D} (h : d.plain = true) : isiD "int" d = some (.sh (.bl d.isInt)) := by
  unfold isiD
  cases d <;> first | (cases h; done) | (simp only [D.ty, Option.bind_some]; rw [kit_tab _ (by decide) _ (by decide)]; rfl)
theorem isi_bool {d : D} (h : d.plain = true) : isiD "bool" d = some (.sh (.bl d.isBl)) := by
  unfold isiD
  cases d <;> first | (cases h; done) | (simp only [D.ty, Option.bind_some]; rw [kit_tab _ (by decide) _ (by decide)]; rfl)
theorem isi_str {d : D} (h : d.plain = true) : isiD "str" d = some (.sh (.bl d.isStr)) := by
  unfold isiD
  cases d <;> first | (cases h; done) | (simp only [D.ty, Option.bind_some]; rw [kit_tab _ (by decide) _ (by decide)]; rfl)
theorem isi_tup {d : D} (h : d.plain = true) : isiD "tuple" d = some (.sh (.bl d.isTup)) := by
  unfold isiD
  cases d <;> first | (cases h; done) | (simp only [D.ty, Option.bind_some]; rw [kit_tab _ (by decide) _ (by decide)]; rfl)
theorem isi_lst {d : D} (h : d.plain = true) : isiD "list" d = some (.sh (.bl d.isLst)) := by
  unfold isiD
  cases d <;> first | (cases h; done) | (simp only [D.ty, Option.bind_some]; rw [kit_tab _ (by decide) _ (by decide)]; rfl)

/-! ### sets of places as numbers -/
def elems (n m : Nat) : List Nat := (List.range n).filter fun p => m.testBit p
def natsD (ns : List Nat) : List D := ns.map fun p : Nat => .int (p : Int)
/-- the places below n that stand in m -/
def setD (n m : Nat) : D := .tup (natsD (elems n m))
theorem natsD_ints (ns : List Nat) : natsD ns = intsD (ns.map fun p : Nat => (p : Int)) := by simp [natsD, intsD]
theorem elems_succ (n m : Nat) : elems (n + 1) m = elems n m ++ (if m.testBit n then [n] else []) := by
  unfold elems
  rw [List.range_succ, List.filter_append]
  simp [List.filter_cons]
theorem elems_lt {n m p : Nat} (h : p ∈ elems n m) : p < n ∧ m.testBit p = true := by
  unfold elems at h
  simpa using h
theorem elems_mem {n m p : Nat} : p ∈ elems n m ↔ p < n ∧ m.testBit p = true := by
  unfold elems; simp
theorem elems_filter (n m : Nat) (f : Nat → Bool) (m' : Nat) (h : ∀ p < n, m'.testBit p = (m.testBit p && f p)) : (elems n m).filter f = elems n m' := by
  unfold elems
  rw [List.filter_filter]
  refine List.filter_congr fun p hp => ?_
  have := List.mem_range.mp hp
  rw [h p this]
  cases f p <;> cases m.testBit p <;> rfl
theorem elems_range (n m' : Nat) (f : Nat → Bool) (h : ∀ p < n, m'.testBit p = f p) : (List.range n).filter f = elems n m' := by
  unfold elems
  refine List.filter_congr fun p hp => ?_
  rw [h p (List.mem_range.mp hp)]
theorem testBit_big {m a p : Nat} (h : m < 2 ^ a) (hp : a ≤ p) : m.testBit p = false := Nat.testBit_lt_two_pow (Nat.lt_of_lt_of_le h (Nat.pow_le_pow_right (by omega) hp))
theorem elems_grow {m a : Nat} (h : m < 2 ^ a) : ∀ k : Nat, elems (a + k) m = elems a m
  | 0 => rfl
  | k + 1 => by
    rw [← Nat.add_assoc, elems_succ, elems_grow h k, testBit_big h (by omega)]
    simp
theorem elems_to {m a n : Nat} (h : m < 2 ^ a) (hn : a ≤ n) : elems n m = elems a m := by
  obtain ⟨k, rfl⟩ : ∃ k, n = a + k := ⟨n - a, by omega⟩
  exact elems_grow h k
theorem mask_sum : ∀ n m : Nat, ((elems n m).map fun p => 2 ^ p).sum = m % 2 ^ n
  | 0, m => by simp [elems, Nat.mod_one]
  | n + 1, m => by
    rw [elems_succ, List.map_append, List.sum_append, mask_sum n m, Nat.mod_pow_succ]
    congr 1
    rw [Nat.testBit_eq_decide_div_mod_eq]
    by_cases h : m / 2 ^ n % 2 = 1
    · simp [h]
    · have : m / 2 ^ n % 2 = 0 := by omega
      simp [this]
theorem sum_cast : ∀ l : List Nat, ((l.map fun p => ((2 ^ p : Nat) : Int)).sum) = (((l.map fun p => 2 ^ p).sum : Nat) : Int)
  | [] => rfl
  | p :: l => by
    rw [List.map_cons, List.sum_cons, sum_cast l, List.map_cons, List.sum_cons]
    simp
theorem elems_len (n m : Nat) : (elems n m).length ≤ n := by
  unfold elems
  exact Nat.le_trans (List.length_filter_le _ _) (by simp)
/-! ### the bits of ints -/
theorem bnot_nn (x : Nat) : (Builtin.bitNot (x : Int)) = -(x : Int) - 1 := rfl
theorem and_nat (a b : Nat) : Builtin.bitAnd (a : Int) (b : Int) = ((a &&& b : Nat) : Int) := by
  unfold Builtin.bitAnd
  rw [decide_eq_true (by omega : (0 : Int) ≤ (a : Int)), decide_eq_true (by omega : (0 : Int) ≤ (b : Int))]
  simp
theorem or_nat (a b : Nat) : Builtin.bitOr (a : Int) (b : Int) = ((a ||| b : Nat) : Int) := by
  unfold Builtin.bitOr Builtin.bitAnd
  rw [decide_eq_false (by unfold Builtin.bitNot; omega : ¬ (0 : Int) ≤ Builtin.bitNot (a : Int)), decide_eq_false (by unfold Builtin.bitNot; omega : ¬ (0 : Int) ≤ Builtin.bitNot (b : Int))]
  have h : ∀ x : Int, Builtin.bitNot (Builtin.bitNot x) = x := fun x => by unfold Builtin.bitNot; omega
  simp only [h]
  simp
theorem andnot_nat (a b : Nat) : Builtin.bitAnd (a : Int) (Builtin.bitNot (b : Int)) = ((a - (a &&& b) : Nat) : Int) := by
  unfold Builtin.bitAnd
  rw [decide_eq_true (by omega : (0 : Int) ≤ (a : Int)), decide_eq_false (by unfold Builtin.bitNot; omega : ¬ (0 : Int) ≤ Builtin.bitNot (b : Int))]
  have h : ∀ x : Int, Builtin.bitNot (Builtin.bitNot x) = x := fun x => by unfold Builtin.bitNot; omega
  simp only [h]
  have : a &&& b ≤ a := Nat.and_le_left
  simp
  omega
theorem mod2 (x : Nat) : x % 2 = if x.testBit 0 then 1 else 0 := by
  rw [Nat.testBit_zero]
  by_cases h : x % 2 = 1
  · simp [h]
  · have : x % 2 = 0 := by omega
    simp [this]
theorem xor_sub (a b : Nat) : (a ^^^ (a &&& b)) + (a &&& b) = a := by
  induction a using Nat.strongRecOn generalizing b with
  | _ a ih =>
    by_cases h0 : a = 0
    · subst h0; simp
    · have h1 := ih (a / 2) (by omega) (b / 2)
      have e1 : (a ^^^ (a &&& b)) / 2 = (a / 2) ^^^ ((a / 2) &&& (b / 2)) := by rw [Nat.xor_div_two, Nat.and_div_two]
      have e2 : (a &&& b) / 2 = (a / 2) &&& (b / 2) := Nat.and_div_two
      have e3 : (a &&& b) % 2 = (a % 2) * (b % 2) := by
        rw [mod2 (a &&& b), Nat.testBit_and, Nat.testBit_zero, Nat.testBit_zero]
        rcases Nat.mod_two_eq_zero_or_one a with h | h <;> rcases Nat.mod_two_eq_zero_or_one b with h' | h' <;> rw [h, h'] <;> rfl
      have e4 : (a ^^^ (a &&& b)) % 2 = (a % 2) * (1 - b % 2) := by
        rw [mod2 (a ^^^ (a &&& b)), Nat.testBit_xor, Nat.testBit_and, Nat.testBit_zero, Nat.testBit_zero]
        rcases Nat.mod_two_eq_zero_or_one a with h | h <;> rcases Nat.mod_two_eq_zero_or_one b with h' | h' <;> rw [h, h'] <;> rfl
      rw [← e1, ← e2] at h1
      have e5 : (a % 2) * (1 - b % 2) + (a % 2) * (b % 2) = a % 2 := by
        rcases Nat.mod_two_eq_zero_or_one a with h | h <;> rcases Nat.mod_two_eq_zero_or_one b with h' | h' <;> rw [h, h'] <;> rfl
      omega
theorem sub_bit (a b p : Nat) : (a - (a &&& b)).testBit p = (a.testBit p && !b.testBit p) := by
  have h : a - (a &&& b) = a ^^^ (a &&& b) := by have := xor_sub a b; omega
  rw [h, Nat.testBit_xor, Nat.testBit_and]
  cases a.testBit p <;> cases b.testBit p <;> rfl
theorem shr_bit (m p : Nat) : Builtin.bitAnd ((m : Int) / 2 ^ (p : Int).toNat) 1 = if m.testBit p then 1 else 0 := by
  have e : (m : Int) / 2 ^ (p : Int).toNat = ((m / 2 ^ p : Nat) : Int) := by simp
  rw [e, show (1 : Int) = ((1 : Nat) : Int) from rfl, and_nat, Nat.and_one_is_mod, Nat.testBit_eq_decide_div_mod_eq]
  by_cases h : m / 2 ^ p % 2 = 1
  · simp [h]
  · have : m / 2 ^ p % 2 = 0 := by omega
    simp [this]
theorem bits_bound (m : Nat) : m < 2 ^ Builtin.Int.intBits (m : Int) := by
  unfold Builtin.Int.intBits
  by_cases h : m = 0
  · subst h; simp
  · have : ((m : Int) == 0) = false := by simpa using h
    rw [this]
    simpa using Nat.lt_log2_self
theorem bits_le {m a : Nat} (h : m < 2 ^ a) : Builtin.Int.intBits (m : Int) ≤ a := by
  unfold Builtin.Int.intBits
  by_cases h0 : m = 0
  · subst h0; simp
  · have : ((m : Int) == 0) = false := by simpa using h0
    rw [this]
    have := (Nat.log2_lt h0).mpr h
    simp
    omega
theorem rng_mem {k : Nat} {d : D} (h : d ∈ rngL 0 k) : ∃ p : Nat, p < k ∧ d = .int (p : Int) := by
  unfold rngL at h
  obtain ⟨p, h1, h2⟩ := List.mem_map.mp h
  exact ⟨p, List.mem_range.mp h1, by rw [← h2]; simp⟩
theorem rng_nats (k : Nat) : rngL 0 k = natsD (List.range k) := by
  unfold rngL natsD
  simp
theorem fm_nats (l : List Nat) (F : D → Option D) (f : Nat → Bool) (h : ∀ p ∈ l, F (.int (p : Int)) = if f p then some (.int (p : Int)) else none) : (natsD l).filterMap F = natsD (l.filter f) := by
  unfold natsD
  induction l with
  | nil => rfl
  | cons p l ih =>
    rw [List.map_cons, List.filterMap_cons, h p List.mem_cons_self, List.filter_cons, ih fun q hq => h q (List.mem_cons_of_mem _ hq)]
    cases f p <;> rfl
theorem fm_map (l : List Nat) (F : D → Option D) (g : Nat → D) (h : ∀ p ∈ l, F (.int (p : Int)) = some (g p)) : (natsD l).filterMap F = l.map g := by
  unfold natsD
  induction l with
  | nil => rfl
  | cons p l ih => rw [List.map_cons, List.filterMap_cons, h p List.mem_cons_self, List.map_cons, ih fun q hq => h q (List.mem_cons_of_mem _ hq)]
theorem natsD_len (l : List Nat) : (natsD l).length = l.length := by simp [natsD]
theorem natsD_mem {l : List Nat} {d : D} (h : d ∈ natsD l) : ∃ p ∈ l, d = .int (p : Int) := by
  unfold natsD at h
  obtain ⟨p, h1, h2⟩ := List.mem_map.mp h
  exact ⟨p, h1, h2.symm⟩
theorem asInts_nats (l : List Nat) (g : Nat → Int) : asInts (l.map fun p => .int (g p)) = some (l.map g) := by
  have : (l.map fun p => D.int (g p)) = (l.map g).map D.int := by simp
  rw [this, asInts_map]
/-! ### operations at given numbers -/
theorem lt_t {i j : Int} (h : i < j) : fLt (.int i) (.int j) = some (.sh (.bl true)) := by show some (Ret.sh (.bl (decide (i < j)))) = _; rw [decide_eq_true h]
theorem lt_f {i j : Int} (h : ¬ i < j) : fLt (.int i) (.int j) = some (.sh (.bl false)) := by show some (Ret.sh (.bl (decide (i < j)))) = _; rw [decide_eq_false h]
theorem le_t {i j : Int} (h : i ≤ j) : fLe (.int i) (.int j) = some (.sh (.bl true)) := by show some (Ret.sh (.bl (decide (i ≤ j)))) = _; rw [decide_eq_true h]
theorem le_f {i j : Int} (h : ¬ i ≤ j) : fLe (.int i) (.int j) = some (.sh (.bl false)) := by show some (Ret.sh (.bl (decide (i ≤ j)))) = _; rw [decide_eq_false h]
theorem gt_t {i j : Int} (h : j < i) : fGt (.int i) (.int j) = some (.sh (.bl true)) := by show some (Ret.sh (.bl (decide (j < i)))) = _; rw [decide_eq_true h]
theorem gt_f {i j : Int} (h : ¬ j < i) : fGt (.int i) (.int j) = some (.sh (.bl false)) := by show some (Ret.sh (.bl (decide (j < i)))) = _; rw [decide_eq_false h]
theorem ge_t {i j : Int} (h : j ≤ i) : fGe (.int i) (.int j) = some (.sh (.bl true)) := by show some (Ret.sh (.bl (decide (j ≤ i)))) = _; rw [decide_eq_true h]
theorem ge_f {i j : Int} (h : ¬ j ≤ i) : fGe (.int i) (.int j) = some (.sh (.bl false)) := by show some (Ret.sh (.bl (decide (j ≤ i)))) = _; rw [decide_eq_false h]
theorem eq_b {x y : D} {k : Bool} (h : deq x y = some k) : fEq x y = some (.sh (.bl k)) := by unfold fEq; rw [h]; rfl
theorem ne_b {x y : D} {k : Bool} (h : deq x y = some k) : fNe x y = some (.sh (.bl (!k))) := by unfold fNe; rw [h]; rfl
theorem eq_i {i j : Int} : fEq (.int i) (.int j) = some (.sh (.bl (decide (i = j)))) := by rw [eq_b (deq_int i j)]; by_cases h : i = j <;> simp [h]
theorem fmod_ {i j : Int} (h : 0 < j) : fMod (.int i) (.int j) = some (.sh (.int (i % j))) := by show (if decide (0 < j) = true then _ else _) = _; rw [if_pos (decide_eq_true h)]
theorem fdiv_ {i j : Int} (h : 0 < j) (h' : j < 1073741824) : fDiv (.int i) (.int j) = some (.sh (.int (i / j))) := by
  show (if (decide (0 < j) && decide (j < 1073741824)) = true then _ else _) = _
  rw [if_pos (by rw [decide_eq_true h, decide_eq_true h']; rfl)]
theorem fpow_ {i j : Int} (h : 0 ≤ j) (h' : j ≤ 1000000) (h2 : i.natAbs < 2 ^ 64) : fPow (.int i) (.int j) = some (.sh (.int (i ^ j.toNat))) := by
  show (if (decide (0 ≤ j) && decide (j ≤ 1000000) && decide (i.natAbs < 2 ^ 64)) = true then _ else _) = _
  rw [if_pos (by rw [decide_eq_true h, decide_eq_true h', decide_eq_true h2]; rfl)]
theorem fshl_ {i j : Int} (h : 0 ≤ j) (h' : j ≤ 1000000) (h2 : i.natAbs < 2 ^ 64) : fShl (.int i) (.int j) = some (.sh (.int (i * 2 ^ j.toNat))) := by
  show (if (decide (0 ≤ j) && decide (j ≤ 1000000) && decide (i.natAbs < 2 ^ 64)) = true then _ else _) = _
  rw [if_pos (by rw [decide_eq_true h, decide_eq_true h', decide_eq_true h2]; rfl)]
theorem fshr_ {i j : Int} (h : 0 ≤ j) : fShr (.int i) (.int j) = some (.sh (.int (i / 2 ^ j.toNat))) := by
  show (if decide (0 ≤ j) = true then _ else _) = _
  rw [if_pos (decide_eq_true h)]
theorem fmul_l {i j : Int} (h : -(2 ^ 64) < i) (h' : i < 2 ^ 64) : fMul (.int i) (.int j) = some (.sh (.int (i * j))) := by
  show (if mulI i j = true then _ else _) = _
  rw [if_pos (by unfold mulI; rw [decide_eq_true h, decide_eq_true h']; rfl)]
theorem fmul_r {i j : Int} (h : -(2 ^ 64) < j) (h' : j < 2 ^ 64) : fMul (.int i) (.int j) = some (.sh (.int (i * j))) := by
  show (if mulI i j = true then _ else _) = _
  rw [if_pos (by unfold mulI; rw [decide_eq_true h, decide_eq_true h']; simp)]
theorem ev_rng1 {m : M (List Ar)} {j : Int} {e e1 : En} (h : aVals m e = .ok [.int j] e1) (hj : small62 j = true) : iRng1M m e = .ok (rngL 0 j.toNat) e1 := by
  unfold iRng1M; rw [ev_bnd h]; dsimp only; rw [if_pos hj]; rfl
theorem ev_rng2 {m : M (List Ar)} {i j : Int} {e e1 : En} (h : aVals m e = .ok [.int i, .int j] e1) (hi : small62 i = true) (hj : small62 j = true) : iRng2M m e = .ok (rngL i (j - i).toNat) e1 := by
  unfold iRng2M; rw [ev_bnd h]; dsimp only; rw [hi, hj]; rfl
theorem small_of {n : Nat} (h : n < 2 ^ 62) : small62 (n : Int) = true := by
  unfold small62
  rw [decide_eq_true (by omega : -(2 ^ 62) ≤ (n : Int)), decide_eq_true (by omega : (n : Int) < 2 ^ 62)]
  rfl
theorem rngL_len (lo : Int) (k : Nat) : (rngL lo k).length = k := by simp [rngL]
theorem ev_bits {m : M D} {i : Int} {e e1 : En} (h : m e = .ok (.int i) e1) : eBits m e = .ok (.int (Builtin.Int.intBits i : Nat)) e1 := by unfold eBits; rw [ev_bnd h]; rfl
theorem ev_zip {m : M (List Ar)} {x y : D} {l : List D} {e e1 : En} (h : aVals m e = .ok [x, y] e1) (hz : zipD [x, y] = some l) : iZipM m e = .ok l e1 := by unfold iZipM; rw [ev_bnd h, hz]; rfl
theorem ev_slice {m : M D} {ml mh : M (Option Int)} {lo hi : Option Int} {d : D} {r : Ret} {e e1 e2 e3 : En} (h : m e = .ok d e1) (hl : ml e1 = .ok lo e2) (hh : mh e2 = .ok hi e3) (hf : fSl d lo hi = some r) : rSl m ml mh e = .ok r e3 := by
  unfold rSl; rw [ev_bnd h, ev_bnd hl, ev_bnd hh, hf]; rfl
theorem ev_some {m : M D} {i : Int} {e e1 : En} (h : m e = .ok (.int i) e1) : oSome m e = .ok (some i) e1 := by unfold oSome; rw [ev_bnd h]; rfl
theorem ev_rev {m : M D} {d : D} {r : Ret} {e e1 : En} (h : m e = .ok d e1) (hf : fRev d = some r) : rRev m e = .ok r e1 := by unfold rRev; rw [ev_bnd h, hf]; rfl
end DL
end

section
namespace DL
open PySem PySem.Spec
open L2 (atI atI_nat)
/-! ### blocks that keep, sums that make masks: for every law -/
theorem lim9 {n : Nat} (h : n ≤ 30) : n ≤ LIM := Nat.le_trans h (by decide)
abbrev iob (l : List D) : Sl := .io (.l l)
theorem lay_plain {x : D} (h : x.py.canLay0 = true) : x.plain = true := by
  cases x <;> first | rfl | (simp [D.py, PyData.canLay0] at h)
theorem ok_items {l : List D} (h : okD (.lst l) = true) : ∀ x ∈ l, x.py.canLay0 = true := by
  intro x hx
  have h1 := canLay_ok h
  have h2 : PyData.canLayAll0 (pys l) = true := by simpa [D.py, PyData.canLay0] using h1
  rw [pys_map] at h2
  exact (canLayAll0_iff _).mp h2 _ (List.mem_map.mpr ⟨x, hx, rfl⟩)
theorem depthAll_le : ∀ {l : List PyData} {n : Nat}, PyData.depthAll l ≤ n ↔ ∀ x ∈ l, x.depth ≤ n
  | [], n => by simp [PyData.depthAll]
  | x :: l, n => by
    simp only [PyData.depthAll, List.mem_cons, forall_eq_or_imp]
    rw [← depthAll_le (l := l) (n := n)]
    exact Nat.max_le
theorem ok_lst_iff {l : List D} : okD (.lst l) = true ↔ ∀ x ∈ l, x.py.canLay0 = true ∧ x.py.depth ≤ 63 := by
  unfold okD SeqAt.shaped
  show (PyData.canLayAll0 (pys l) && decide (PyData.depthAll (pys l) + 1 ≤ 64)) = true ↔ _
  rw [Bool.and_eq_true, decide_eq_true_eq, pys_map, canLayAll0_iff]
  constructor
  · rintro ⟨h1, h2⟩ x hx
    have h3 : PyData.depthAll (l.map D.py) ≤ 63 := by omega
    exact ⟨h1 _ (List.mem_map.mpr ⟨x, hx, rfl⟩), depthAll_le.mp h3 _ (List.mem_map.mpr ⟨x, hx, rfl⟩)⟩
  · intro h
    refine ⟨fun x hx => ?_, ?_⟩
    · obtain ⟨y, hy, rfl⟩ := List.mem_map.mp hx
      exact (h y hy).1
    · have : PyData.depthAll (l.map D.py) ≤ 63 := depthAll_le.mpr fun x hx => by
        obtain ⟨y, hy, rfl⟩ := List.mem_map.mp hx
        exact (h y hy).2
      omega
theorem ok_filter {l : List D} (h : okD (.lst l) = true) (f : D → Bool) : okD (.lst (l.filter f)) = true :=
  ok_lst_iff.mpr fun x hx => ok_lst_iff.mp h x (List.mem_filter.mp hx).1
def vOk : D → Bool
  | .tup l => okD (.lst l) && decide (l.length ≤ 1000)
  | .obj _ _ => false
  | _ => true
theorem vplain {v : D} (h : vOk v = true) : v.plain = true := by cases v <;> first | rfl | cases h
theorem fm_all (l : List D) (f : D → D) : l.filterMap (fun x => some (f x)) = l.map f := congrFun List.filterMap_eq_map' _
theorem fm_filter (l : List D) (f : D → Bool) : l.filterMap (fun x => if f x then none else some x) = l.filter fun x => !f x := by
  induction l with
  | nil => rfl
  | cons x l ih =>
    rw [List.filterMap_cons, List.filter_cons, ih]
    cases f x <;> rfl
theorem fm_shift (k : Nat) (F : D → Option D) (f : Nat → Bool) (h : ∀ i, i < k → F (.int (1 + (i : Int))) = if f i then some (.int (1 + (i : Int))) else none) : (rngL 1 k).filterMap F = intsD (((List.range k).filter f).map fun i : Nat => 1 + (i : Int)) := by
  unfold rngL intsD
  rw [List.filterMap_map, List.map_map]
  have : ∀ l : List Nat, (∀ i ∈ l, i < k) → l.filterMap (F ∘ fun i : Nat => D.int (1 + (i : Int))) = (l.filter f).map (D.int ∘ fun i : Nat => 1 + (i : Int)) := fun l => by
    induction l with
    | nil => intro _; rfl
    | cons a l ih =>
      intro hl
      have e1 : (F ∘ fun i : Nat => D.int (1 + (i : Int))) a = if f a then some (.int (1 + (a : Int))) else none := h a (hl a List.mem_cons_self)
      rw [List.filterMap_cons, e1, List.filter_cons, ih fun i hi => hl i (List.mem_cons_of_mem _ hi)]
      cases f a <;> rfl
  exact this _ fun i hi => List.mem_range.mp hi
theorem ix_any {l : List D} {r : Int} (h0 : 0 ≤ r) (h1 : r < l.length) : ∃ x ∈ l, atI l r = some x := by
  obtain ⟨j, rfl⟩ : ∃ j : Nat, r = j := ⟨r.toNat, by omega⟩
  have hj : j < l.length := by omega
  exact ⟨l[j], List.getElem_mem hj, atI_nat (List.getElem?_eq_getElem hj)⟩
theorem in_nats {l : List Nat} {p : Nat} : dIn (.int p) (natsD l) = some (decide (p ∈ l)) := by
  rw [natsD_ints, dIn_int]
  congr 1
  by_cases h : p ∈ l
  · rw [decide_eq_true h, decide_eq_true (List.mem_map.mpr ⟨p, h, rfl⟩)]
  · rw [decide_eq_false h, decide_eq_false]
    intro z
    obtain ⟨q, hq, e⟩ := List.mem_map.mp z
    have : q = p := by omega
    subst this
    exact h hq
theorem in_set {n m p : Nat} (hp : p < n) : fIn (.int p) (setD n m) = some (.sh (.bl (m.testBit p))) := by
  show (dIn (.int p) (natsD (elems n m))).map _ = _
  rw [in_nats]
  cases hb : m.testBit p with
  | true => rw [decide_eq_true (elems_mem.mpr ⟨hp, hb⟩)]; rfl
  | false => rw [decide_eq_false (fun z => by have := (elems_mem.mp z).2; rw [hb] at this; cases this)]; rfl
theorem notin_set {n m p : Nat} (hp : p < n) : fNotIn (.int p) (setD n m) = some (.sh (.bl (!m.testBit p))) := by
  show (dIn (.int p) (natsD (elems n m))).map _ = _
  rw [in_nats]
  cases hb : m.testBit p with
  | true => rw [decide_eq_true (elems_mem.mpr ⟨hp, hb⟩)]; rfl
  | false => rw [decide_eq_false (fun z => by have := (elems_mem.mp z).2; rw [hb] at this; cases this)]; rfl
theorem nats_lim {n m : Nat} (hn : n ≤ 30) : (natsD (elems n m)).length ≤ LIM := by rw [natsD_len]; exact lim9 (Nat.le_trans (elems_len n m) hn)
/-- a block over a set that keeps those places for which a test holds -/
theorem keep_set {n m m' : Nat} {i : Nat} {t : M Bool} {mi : M (List D)} {e : En} {f : Nat → Bool} {s : Sl} (hn : n ≤ 30) (hi : mi e = .ok (natsD (elems n m)) e) (he : e[i]? = some s) (hs : s.own = none) (ht : ∀ p < n, t (e.set i (.sh (.int p))) = .ok (f p) (e.set i (.sh (.int p))))
    (hm : ∀ p < n, m'.testBit p = (m.testBit p && f p)) : rComp mi (gSet i) t (eVar i) [i] e = .ok (.ow (.l (natsD (elems n m')))) e := by
  have hi' : i < e.length := (List.getElem?_eq_some_iff.mp he).1
  have hg : e.getD i .no = s := by rw [List.getD_eq_getElem?_getD, he]; rfl
  have h0 : noOwn e [i] = true := by
    show ([i].all fun v => (e.getD v .no).own.isNone) = true
    simp [he, hs]
  have bk : e.set i s = e := by
    refine List.ext_getElem? fun j => ?_
    by_cases hj : i = j
    · subst hj; rw [List.getElem?_set_self hi', he]
    · rw [List.getElem?_set_ne hj]
  refine ev_compP' (ds := natsD (elems n m)) (F := fun d => match d with | .int k => if f k.toNat then some (.int k) else none | _ => none) hi (nats_lim hn) h0 (fun d hd => ?_) ?_
  · obtain ⟨p, hp, rfl⟩ := natsD_mem hd
    have hp := (elems_lt hp).1
    have g1 : gSet i (.int p) (wipeE e [i]) = .ok () (e.set i (.sh (.int p))) := by
      show gSet i (.int p) (e.set i .no) = _
      unfold gSet
      rw [List.getElem?_set_self hi']
      show R.ok () ((e.set i .no).set i (.sh (.int p))) = _
      rw [List.set_set]
    refine ⟨e.set i (.sh (.int p)), ?_, ?_⟩
    · have tp := ht p hp
      have v1 : eVar i (e.set i (.sh (.int p))) = .ok (.int p) (e.set i (.sh (.int p))) := by
        unfold eVar
        rw [List.getElem?_set_self hi']
      show turnC _ _ _ _ _ = .ok (if f ((p : Int)).toNat then some (.int p) else none) _
      rw [Int.toNat_natCast]
      cases hk : f p with
      | true => rw [hk] at tp; exact ev_turn g1 tp v1
      | false => rw [hk] at tp; exact ev_turn0 g1 tp
    · show (e.set i (.sh (.int p))).set i (e.getD i .no) = e
      rw [List.set_set, hg, bk]
  · rw [fm_nats _ _ f fun p _ => by simp, elems_filter n m f m' hm]
theorem range_set (n : Nat) : natsD (elems n (2 ^ n - 1)) = rngL 0 n := by
  rw [rng_nats]
  congr 1
  unfold elems
  rw [List.filter_eq_self]
  intro p hp
  have := List.mem_range.mp hp
  rw [Nat.testBit_two_pow_sub_one, decide_eq_true this]
/-- the same over range(n) -/
theorem keep_rng {n m' : Nat} {i : Nat} {t : M Bool} {mi : M (List D)} {e : En} {f : Nat → Bool} {s : Sl} (hn : n ≤ 30) (hi : mi e = .ok (rngL 0 n) e) (he : e[i]? = some s) (hs : s.own = none) (ht : ∀ p < n, t (e.set i (.sh (.int p))) = .ok (f p) (e.set i (.sh (.int p))))
    (hm : ∀ p < n, m'.testBit p = f p) : rComp mi (gSet i) t (eVar i) [i] e = .ok (.ow (.l (natsD (elems n m')))) e :=
  keep_set (m := 2 ^ n - 1) hn (by rw [range_set]; exact hi) he hs ht fun p hp => by rw [hm p hp, Nat.testBit_two_pow_sub_one, decide_eq_true hp]; rfl
def atom : D → Bool
  | .int _ => true
  | .bl _ => true
  | .non => true
  | _ => false
theorem vOk_atoms {l : List D} (h : l.all atom = true) (hl : l.length ≤ 1000) : vOk (.tup l) = true := by
  show (okD (.lst l) && decide (l.length ≤ 1000)) = true
  rw [decide_eq_true hl, Bool.and_true]
  refine ok_lst_iff.mpr fun x hx => ?_
  have := List.all_eq_true.mp h x hx
  cases x <;> first | exact ⟨rfl, by simp [D.py, PyData.depth]⟩ | cases this
theorem atoms_nats (l : List Nat) : (natsD l).all atom = true := by
  rw [List.all_eq_true]
  intro x hx
  obtain ⟨p, _, rfl⟩ := natsD_mem hx
  rfl
theorem cut_sub {l : List D} {a b : Option Int} {x : D} (h : x ∈ cutD l a b) : x ∈ l := by
  unfold cutD at h
  exact List.mem_of_mem_drop (List.mem_of_mem_take h)
theorem cut_len (l : List D) (a b : Option Int) : (cutD l a b).length ≤ l.length := by
  unfold cutD
  rw [List.length_take, List.length_drop]
  omega
theorem ev_kw2 {sem : FS} {m n : M D} {x y : D} {r : Ret} {e e1 e2 : En} {outs : List Sl} (h : m e = .ok x e1) (h' : n e1 = .ok y e2) (hs : sem [.sh y, .sh x] = .ok r outs) : rCallK sem 0 2 [1, 0] aNil (aCons (aD m) (aCons (aD n) aNil)) e = .ok r e2 :=
  ev_kw (as := []) (ks := [.d x, .d y]) rfl (ev_d2 h h') ⟨rfl, rfl⟩ rfl (by simp [permL, ixs]) hs
theorem ev_kw1 {sem : FS} {m : M D} {x : D} {r : Ret} {e e1 : En} {outs : List Sl} (h : m e = .ok x e1) (hs : sem [.sh x] = .ok r outs) : rCallK sem 0 1 [0] aNil (aCons (aD m) aNil) e = .ok r e1 :=
  ev_kw (as := []) (ks := [.d x]) rfl (ev_d1 h) ⟨rfl, rfl⟩ rfl (by simp [permL, ixs]) hs
theorem gset_ok {e : En} {i : Nat} {s : Sl} {d : D} (h : e[i]? = some s) (hs : s.own = none) : gSet i d e = .ok () (e.set i (.sh d)) := by
  unfold gSet
  rw [h]
  cases s <;> first | rfl | cases hs

/-! ### masks by sums -/
/-- sum([1 << p for p in range(n) if ..]) -/
theorem sum_rng {n m' : Nat} {i : Nat} {t : M Bool} {mi : M (List D)} {e : En} {f : Nat → Bool} {s : Sl} (hn : n ≤ 30) (hi : mi e = .ok (rngL 0 n) e) (he : e[i]? = some s) (hs : s.own = none) (ht : ∀ p < n, t (e.set i (.sh (.int p))) = .ok (f p) (e.set i (.sh (.int p))))
    (hm : ∀ p < n, m'.testBit p = f p) (hm' : m' < 2 ^ n) : rFn (f1 gSum) (aCons (aD (mD (rComp mi (gSet i) t (mD (rBin fShl (eC (.int 1)) (eVar i))) [i]))) aNil) e = .ok (.sh (.int m')) e := by
  have hi' : i < e.length := (List.getElem?_eq_some_iff.mp he).1
  have hg : e.getD i .no = s := by rw [List.getD_eq_getElem?_getD, he]; rfl
  have h0 : noOwn e [i] = true := by
    show ([i].all fun v => (e.getD v .no).own.isNone) = true
    simp [he, hs]
  have bk : e.set i s = e := by
    refine List.ext_getElem? fun j => ?_
    by_cases hj : i = j
    · subst hj; rw [List.getElem?_set_self hi', he]
    · rw [List.getElem?_set_ne hj]
  refine ev_fn1 (x := .lst ((elems n m').map fun p => .int (((2 ^ p : Nat) : Int)))) (ev_mDl ?_) ?_
  · refine ev_compP' (ds := rngL 0 n) (F := fun d => match d with | .int k => if f k.toNat then some (.int (1 * 2 ^ k.toNat)) else none | _ => none) hi (by rw [rngL_len]; exact lim9 hn) h0 (fun d hd => ?_) ?_
    · obtain ⟨p, hp, rfl⟩ := rng_mem hd
      have g1 : gSet i (.int p) (wipeE e [i]) = .ok () (e.set i (.sh (.int p))) := by
        show gSet i (.int p) (e.set i .no) = _
        unfold gSet
        rw [List.getElem?_set_self hi']
        show R.ok () ((e.set i .no).set i (.sh (.int p))) = _
        rw [List.set_set]
      refine ⟨e.set i (.sh (.int p)), ?_, ?_⟩
      · have tp := ht p hp
        have v1 : eVar i (e.set i (.sh (.int p))) = .ok (.int p) (e.set i (.sh (.int p))) := by
          unfold eVar
          rw [List.getElem?_set_self hi']
        have v2 : mD (rBin fShl (eC (.int 1)) (eVar i)) (e.set i (.sh (.int p))) = .ok (.int (1 * 2 ^ ((p : Int)).toNat)) (e.set i (.sh (.int p))) := ev_mD (ev_bin rfl v1 (fshl_ (by omega) (by omega) (by decide)))
        show turnC _ _ _ _ _ = .ok (if f ((p : Int)).toNat then some (.int (1 * 2 ^ ((p : Int)).toNat)) else none) _
        rw [Int.toNat_natCast] at v2 ⊢
        cases hk : f p with
        | true => rw [hk] at tp; exact ev_turn g1 tp v2
        | false => rw [hk] at tp; exact ev_turn0 g1 tp
      · show (e.set i (.sh (.int p))).set i (e.getD i .no) = e
        rw [List.set_set, hg, bk]
    · rw [rng_nats]
      have key : ∀ l : List Nat, (natsD l).filterMap (fun d => match d with | .int k => if f k.toNat then some (D.int (1 * 2 ^ k.toNat)) else none | _ => none) = (l.filter f).map fun p => D.int ((2 ^ p : Nat) : Int) := fun l => by
        unfold natsD
        induction l with
        | nil => rfl
        | cons p l ih =>
          rw [List.map_cons, List.filterMap_cons, List.filter_cons, ih]
          simp only [Int.toNat_natCast]
          cases f p <;> simp
      rw [key, elems_range n m' f hm]
  · show (asInts ((elems n m').map fun p => .int (((2 ^ p : Nat) : Int)))).bind _ = _
    rw [asInts_nats _ fun p => ((2 ^ p : Nat) : Int)]
    show some (Ret.sh (.int ((elems n m').map fun p => ((2 ^ p : Nat) : Int)).sum)) = _
    rw [sum_cast, mask_sum, Nat.mod_eq_of_lt hm']
end DL
end

section
namespace DL
open PySem PySem.Spec L2
open PyProof.Rows hiding St

/-! ### one more slot -/
theorem str_inj {s t : String} (h : Str.ofString s = Str.ofString t) : s = t := by
  rw [Str.ofString_eq_toList, Str.ofString_eq_toList] at h
  have h1 : s.toList.map Char.toNat = t.toList.map Char.toNat := by
    have := congrArg (fun z : Str => z.cps.toList) h
    simpa using this
  have inj : ∀ {a b : List Char}, a.map Char.toNat = b.map Char.toNat → a = b := by
    intro a
    induction a with
    | nil => intro b h; cases b with | nil => rfl | cons _ _ => simp at h
    | cons x a ih =>
      intro b h
      cases b with
      | nil => simp at h
      | cons y b =>
        simp only [List.map_cons, List.cons.injEq] at h
        rw [ih h.2]
        congr 1
        exact Char.ext (UInt32.toNat_inj.mp h.1)
  exact String.toList_inj.mp (inj h1)
section
variable {K : PySem.W.Frag} {mg : MG} {p : Pm} {G G' H H' : Hp} {σ : L2.St} {e : En} {a : Addr} {x : Ct} {s0 : Option V}
theorem app_at {α : Type} {l : List α} {z t : α} {i : Nat} (h : (l ++ [z])[i]? = some t) : l[i]? = some t ∨ (i = l.length ∧ t = z) := by
  by_cases hi : i < l.length
  · rw [List.getElem?_append_left hi] at h; exact .inl h
  · rw [List.getElem?_append_right (by omega)] at h
    have : i - l.length = 0 := by
      have := (List.getElem?_eq_some_iff.mp h).1
      simpa using this
    rw [this] at h
    exact .inr ⟨by omega, (Option.some.inj h).symm⟩
theorem app_l {α : Type} {l : List α} {z t : α} {i : Nat} (h : l[i]? = some t) : (l ++ [z])[i]? = some t := by
  rw [List.getElem?_append_left (List.getElem?_eq_some_iff.mp h).1]; exact h
theorem Sr.push (S : Srp K mg p G σ H e) (ga : G a = none) (c : CtR K mg G H a x) (h0 : p.H0 a = none) (hF : p.F a = none) (ap : ∀ (i : Nat) s y, e[i]? = some s → s.own = some y → σ[i]? ≠ some (some (V.ref a))) :
    Srp K mg p G (σ ++ [some (.ref a)]) H (e ++ [.ow x]) := by
  have hl := S.len
  have sg : ∀ {i : Nat} {t : Option V}, i < σ.length → (σ ++ [some (V.ref a)])[i]? = some t → σ[i]? = some t := fun {i t} hi q => by rwa [List.getElem?_append_left hi] at q
  have ss : (σ ++ [some (V.ref a)])[e.length]? = some (some (V.ref a)) := by rw [← hl]; simp
  have lt : ∀ {i : Nat} {t : Sl}, e[i]? = some t → i < σ.length := fun {i t} q => by rw [hl]; exact (List.getElem?_eq_some_iff.mp q).1
  refine ⟨S.sub, by simp [hl], fun i d q => ?_, fun i s y q1 q2 => ?_, fun i y q => ?_, fun i j s t y z b q1 q2 q3 q4 q5 q6 => ?_, S.fr, S.nw, fun i y b q1 q2 => ?_, S.dm, S.kp, fun i s y b q1 q2 q3 => ?_⟩
  · rcases app_at q with k | ⟨_, k⟩
    · obtain ⟨v, g1, g2⟩ := S.sh i d k
      exact ⟨v, app_l g1, g2⟩
    · cases k
  · rcases app_at q1 with k | ⟨k, k2⟩
    · obtain ⟨b, g1, g2, g3⟩ := S.ow i s y k q2
      exact ⟨b, app_l g1, g2, g3⟩
    · subst k k2
      cases q2
      exact ⟨a, ss, ga, c⟩
  · rcases app_at q with k | ⟨_, k⟩
    · obtain ⟨g1, g2⟩ := S.io i y k
      exact ⟨app_l g1, g2⟩
    · cases k
  · rcases app_at q1 with k | ⟨k, k2⟩
    · rcases app_at q2 with m | ⟨m, m2⟩
      · exact S.ap i j s t y z b k m q3 q4 (sg (lt k) q5) (sg (lt m) q6)
      · subst m m2
        rw [ss] at q6
        cases q6
        exact absurd (sg (lt k) q5) (ap i s y k q3)
    · rcases app_at q2 with m | ⟨m, m2⟩
      · subst k k2
        rw [ss] at q5
        cases q5
        exact absurd (sg (lt m) q6) (ap j t z m q4)
      · rw [k, m]
  · rcases app_at q1 with k | ⟨k, k2⟩
    · exact S.of i y b k (sg (lt k) q2)
    · subst k
      rw [ss] at q2
      cases q2
      exact h0
  · rcases app_at q1 with k | ⟨k, k2⟩
    · exact S.ka i s y b k q2 (sg (lt k) q3)
    · subst k
      rw [ss] at q3
      cases q3
      exact hF
/-- .. and back -/
theorem Sr.pop (S : Srp K mg p G (σ ++ [s0]) H e) : Srp K mg p G σ H (e.take σ.length) := by
  have hl : e.length = σ.length + 1 := by rw [← S.len]; simp
  have sg : ∀ {i : Nat} {t : Option V}, i < σ.length → (σ ++ [s0])[i]? = some t → σ[i]? = some t := fun {i t} hi q => by rwa [List.getElem?_append_left hi] at q
  have eg : ∀ {i : Nat} {t : Sl}, (e.take σ.length)[i]? = some t → e[i]? = some t ∧ i < σ.length := fun {i t} q => take_get q
  refine ⟨S.sub, by simp [hl], fun i d q => ?_, fun i s y q1 q2 => ?_, fun i y q => ?_, fun i j s t y z b q1 q2 q3 q4 q5 q6 => ?_, S.fr, S.nw, fun i y b q1 q2 => ?_, S.dm, S.kp, fun i s y b q1 q2 q3 => ?_⟩
  · obtain ⟨k, hi⟩ := eg q
    obtain ⟨v, g1, g2⟩ := S.sh i d k
    exact ⟨v, sg hi g1, g2⟩
  · obtain ⟨k, hi⟩ := eg q1
    obtain ⟨b, g1, g2, g3⟩ := S.ow i s y k q2
    exact ⟨b, sg hi g1, g2, g3⟩
  · obtain ⟨k, hi⟩ := eg q
    obtain ⟨g1, g2⟩ := S.io i y k
    exact ⟨sg hi g1, g2⟩
  · obtain ⟨k, hi⟩ := eg q1
    obtain ⟨m, hj⟩ := eg q2
    exact S.ap i j s t y z b k m q3 q4 (app_l q5) (app_l q6)
  · obtain ⟨k, hi⟩ := eg q1
    exact S.of i y b k (app_l q2)
  · obtain ⟨k, hi⟩ := eg q1
    exact S.ka i s y b k q2 (app_l q3)
end

/-! ### classes -/
structure CD where
  nm : String
  fl : List String
def ClT (K : PySem.W.Frag) (mg : MG) (tab : List CD) : Prop := ∀ cd ∈ tab, ∃ C, mg (Str.ofString cd.nm) = some (.ref C) ∧ Cls K C ∧ ∀ f ∈ cd.fl, NoAttr K C (Str.ofString f)
def hasF (tab : List CD) (c f : String) : Bool := tab.any fun cd => decide (cd.nm = c) && decide (f ∈ cd.fl)
theorem hasF_ok {K : PySem.W.Frag} {mg : MG} {tab : List CD} (T : ClT K mg tab) {c f : String} {C : Addr} (h : hasF tab c f = true) (hC : mg (Str.ofString c) = some (.ref C)) : Cls K C ∧ NoAttr K C (Str.ofString f) := by
  unfold hasF at h
  obtain ⟨cd, h1, h2⟩ := List.any_eq_true.mp h
  simp only [Bool.and_eq_true, decide_eq_true_eq] at h2
  obtain ⟨rfl, h3⟩ := h2
  obtain ⟨C', g1, g2, g3⟩ := T cd h1
  rw [hC] at g1
  cases g1
  exact ⟨g2, g3 f h3⟩
def fld (tab : List CD) (f : String) : D → Option D
  | .obj c fs => if hasF tab c f = true then fs.lookup f else none
  | _ => none
def eFld (tab : List CD) (f : String) (m : M D) : M D := M.bnd m fun d => lift (fld tab f d)
def eFldV (tab : List CD) (i : Nat) (f : String) : M D := peek i fun d => lift (fld tab f d)
section
variable {I : CI} {W : WX} {a o : Expr} {es : List Expr} {pos p0 p1 apos : Pos} {x : Str} {tab : List CD} {f : String}
theorem fld_rep {K : PySem.W.Frag} {mg : MG} {G H : Hp} (T : ClT K mg tab) {v : V} {d y : D} (r : Rep K mg G v d) (s : Same G H) (h : fld tab f d = some y) : ∃ a C dx fs u, v = .ref a ∧ H a = some (.ins C dx fs) ∧ Cls K C ∧ NoAttr K C (Str.ofString f) ∧ fs.lookup (Str.ofString f) = some u ∧ Rep K mg G u y := by
  cases r with
  | obj vf h1 h2 h3 h4 h5 =>
    unfold fld at h
    dsimp only at h
    split at h
    · rename_i hh
      obtain ⟨k1, k2⟩ := hasF_ok T hh h2
      exact ⟨_, _, _, _, vf f, rfl, s _ _ h1, k1, k2, h3 f y h, h4 f y h⟩
    · cases h
  | non => cases h
  | bl _ => cases h
  | int _ => cases h
  | str _ => cases h
  | tup _ _ _ => cases h
  | lst _ _ _ => cases h
  | dct _ _ _ _ => cases h
/-- o.f -/
theorem de_fld {m : M D} (T : ClT I.K I.mg tab) (h : DE I W a m) (hb : ∀ env : Env, attributeBase a (Str.ofString f) env (eval a env) = eval a env) : DE I W (.Attribute a (Str.ofString f) pos) (eFld tab f m) := by
  obtain ⟨t, h1, h2⟩ := h
  refine ⟨tFld I.K t (Str.ofString f), fun X ok => by have := pe_fld (f := Str.ofString f) (pos := pos) (h1 X ok) (hb X.env); rw [ok.hK] at this; exact this, fun p G σ H e Q S w => ?_⟩
  refine h2 p G σ H e _ S (Wp.mono (Wp.bnd w) fun d G1 H1 e1 s1 S1 w1 v r => ?_)
  obtain ⟨y, hy, k⟩ := lift_wp w1
  obtain ⟨q, C, dx, fs, u, g1, g2, g3, g4, g5, g6⟩ := fld_rep T r S1.sub hy
  exact ⟨q, C, dx, fs, u, g1, g2, g3, g4, g5, k G1 H1 (Same.refl _) S1 u g6⟩
/-- x.f, x a name -/
theorem de_fldV {i : Nat} (T : ClT I.K I.mg tab) (hx : VarOk I.N I.sc i x) (hb : ∀ env : Env, attributeBase (.Name x p0) (Str.ofString f) env (eval (.Name x p0) env) = eval (.Name x p0) env) : DE I W (.Attribute (.Name x p0) (Str.ofString f) pos) (eFldV tab i f) := by
  refine ⟨tFld I.K (tVar i) (Str.ofString f), fun X ok => by have := pe_fld (f := Str.ofString f) (pos := pos) (pe_slot (p0 := p0) hx X ok) (hb X.env); rw [ok.hK] at this; exact this, fun p G σ H e Q S w => ?_⟩
  unfold eFldV peek at w
  cases q : e[i]?.bind Sl.look with
  | none => rw [q] at w; exact w.elim
  | some d =>
    rw [q] at w
    dsimp only at w
    obtain ⟨y, hy, k⟩ := lift_wp w
    obtain ⟨v, hv, hc⟩ := slot_any S q
    refine ⟨v, hv, ?_⟩
    rcases hc with ⟨s, _, r⟩ | ⟨s, z, b, _, _, rfl, rfl, c⟩
    · obtain ⟨q, C, dx, fs, u, g1, g2, g3, g4, g5, g6⟩ := fld_rep T r S.sub hy
      exact ⟨q, C, dx, fs, u, g1, g2, g3, g4, g5, k G H (Same.refl _) S u g6⟩
    · cases z with
      | l l => cases hy
      | o c0 fs0 =>
        obtain ⟨C, dx, ws, g1, g2, g3, g4, g5, vf, g6, g7⟩ := c
        unfold fld at hy
        change (if hasF tab c0 f = true then fs0.lookup f else none) = some y at hy
        split at hy
        · rename_i hh
          obtain ⟨k1, k2⟩ := hasF_ok T hh g4
          obtain ⟨m1, m2⟩ := g6 f y hy
          exact ⟨b, C, dx, ws, vf f, rfl, g1, k1, k2, m1, k G H (Same.refl _) S _ m2⟩
        · cases hy
/-! ### self.f = v -/
def putO (tab : List CD) (i : Nat) (f : String) (d : D) : M Fl := fun e => match e[i]? with
  | some s => match s.own with
    | some (.o c fs) => if hasF tab c f = true ∧ fs.length < 900 then .ok .nx (e.set i (s.put (.o c ((f, d) :: fs)))) else .no
    | _ => .no
  | none => .no
def ownO (e : En) (i : Nat) : Bool := match e[i]?.bind Sl.own with
  | some (.o _ _) => true
  | _ => false
def sFldS (tab : List CD) (i : Nat) (f : String) (m : M D) : M Fl := M.bnd m fun d => putO tab i f d
theorem ds_fld {i : Nat} {m : M D} (T : ClT I.K I.mg tab) (hx : VarOk I.N I.sc i x) (h : DE I W a m) (hs : ∀ env : Env, env.scope = I.sc → swapsWith a (some (.Attribute (.Name x p0) (Str.ofString f) p1)) pos.line env = pure false) :
    DS I W (.Assign [.Attribute (.Name x p0) (Str.ofString f) p1] a pos) (sFldS tab i f m) := by
  obtain ⟨t, h1, h2⟩ := h
  refine ⟨sFld I.K (tVar i) t (Str.ofString f), fun X ok => by have := ps_fld (f := Str.ofString f) (pos' := p1) (pos := pos) (pe_slot (p0 := p0) hx X ok) (h1 X ok) (hs X.env ok.hsc); rw [ok.hK] at this; exact this, fun p G σ H e E S w => ?_⟩
  refine h2 p G σ H e _ S (Wp.mono (Ws.bnd w) fun d G1 H1 e1 s1 S1 w1 v r => ?_)
  unfold putO at w1
  cases q : e1[i]? with
  | none => rw [q] at w1; exact w1.elim
  | some s =>
    rw [q] at w1
    dsimp only at w1
    cases z : s.own with
    | none => rw [z] at w1; exact w1.elim
    | some y =>
      rw [z] at w1
      cases y with
      | l l => exact w1.elim
      | o c fs =>
        dsimp only at w1
        by_cases hh : hasF tab c f = true ∧ fs.length < 900
        · rw [if_pos hh] at w1
          obtain ⟨b, k1, k2, k3⟩ := S1.ow i s _ q z
          obtain ⟨C, dx, ws, g1, g2, g3, g4, g5, vf, g6, g7⟩ := k3
          obtain ⟨m1, m2⟩ := hasF_ok T hh.1 g4
          have hdx : dx ≠ b := fun w => by rw [w, g1] at g2; cases g2
          refine ⟨_, k1, b, C, dx, ws, rfl, g1, m1, m2, by omega, ?_⟩
          have cc : CtR I.K I.mg G1 (upd H1 b (.ins C dx (putF (Str.ofString f) v ws))) b (.o c ((f, d) :: fs)) := by
            refine ⟨C, dx, _, upd_same, by rw [upd_ne hdx]; exact g2, g3, g4, ?_, fun g => if g = f then v else vf g, fun g d' hg => ?_, fun g hg => ?_⟩
            · have := length_putF (Str.ofString f) v ws
              rw [List.length_cons]
              omega
            · rw [lookup_putF]
              by_cases e0 : g = f
              · subst e0
                rw [List.lookup_cons_self] at hg
                cases hg
                exact ⟨by simp, by simpa using r⟩
              · have e1 : Str.ofString g ≠ Str.ofString f := fun w => e0 (str_inj w)
                have hg' : fs.lookup g = some d' := by
                  rw [List.lookup_cons] at hg
                  have : (g == f) = false := by simpa using e0
                  rw [this] at hg
                  exact hg
                dsimp only
                rw [if_neg e1, if_neg e0]
                exact g6 g d' hg'
            · rw [lookup_putF]
              rw [List.lookup_cons] at hg
              by_cases e0 : g = f
              · subst e0
                simp at hg
              · have : (g == f) = false := by simpa using e0
                rw [this] at hg
                have e1 : Str.ofString g ≠ Str.ofString f := fun w => e0 (str_inj w)
                rw [if_neg e1]
                exact g7 g hg
          exact w1 G1 σ _ (Same.refl _) (S1.change q z k1 (o := .ins C dx (putF (Str.ofString f) v ws)) (fun _ z => nomatch z) (y := .o c ((f, d) :: fs)) cc)
        · rw [if_neg hh] at w1; exact w1.elim
/-! ### methods -/
structure DM (P : Program) (w : World) (K : PySem.W.Frag) (mg : MG) (base : Heap) (k : Nat) (c m : String) (ps : List Str) (sem : FS) : Prop where
  ex : ∃ C f fd, FnOk P w K mg base (L2.CX P w) k f fd ps (spF K mg sem) ∧ mg (Str.ofString c) = some (.ref C) ∧ Cls K C ∧ Meth K C (Str.ofString m) f ∧ Binds K fd ps []
def tMethS (C : Addr) (m : Str) (sp : Sp) (E : L2.St → XK) (ta : TE) (t : TA) : TE := fun σ H Q => ta σ H fun x H1 => ∃ a dx fs, x = .ref a ∧ H1 a = some (.ins C dx fs) ∧ fs.lookup m = none ∧ t σ H1 fun vs H2 => sp (x :: vs) H2 Q (E σ)
theorem pe_methP {X : Cx} {CX : CXT} {k : Nat} {C g : Addr} {fd : FuncData} {ps : List Str} {sp : Sp} {E : L2.St → XK} {m : Str} {ta : TE} {t : TA} {pl : Sem Bool} (ho : PE X o ta) (c : Cls X.K C) (hm : Meth X.K C m g) (F : FnOk X.prog X.w X.K X.mg X.base CX k g fd ps sp) (hr : Room k X.A) (hb : Binds X.K fd ps []) (hx : ∀ σ, PassesAt CX X σ (E σ)) (ha : PA X (a :: es) t)
    (hst : (a :: es).all nst = true) (ht : eval (.Call (.Attribute o m apos) (a :: es) [] pos) X.env = (do
      let ov ← eval o X.env
      standAt apos.atName
      let (f, first) ← holding [ov] (getMethod ov m pl)
      callWith pos f first (backTo pos (starEach (a :: es) X.env)) (backToKw pos (keywordEach [] X.env)))) : PE X (.Call (.Attribute o m apos) (a :: es) [] pos) (tMethS C m sp E ta t) := by
  have n2 : nst a = true ∧ es.all nst = true := by simpa using hst
  refine ⟨fun pins s σ H Q J h => ?_⟩
  refine PySem.W.methodCall_KW (pl := pl) (thn (ho.run pins s σ H _ J h) fun u s1 ⟨x, H1, J1, rx, q, dx, fs, ex, ea, l, z⟩ => ?_) ht
  subst ex
  obtain rfl : u = Value.ref q := rx
  refine getmeth_ok J1 ea c hm l ?_
  refine PySem.W.callWith_K (first := [.ref q]) (h₀ := X.base) J.ok.mod.kin hm.kp (thn (ha.run pos pins s1 σ H1 _ J1 z) fun us s2 ⟨vs, H2, J2, r, z2⟩ => ⟨J2.kIn, ?_⟩) (star_of n2.1 _ _) (by rw [no_back]; exact no_star n2.2 _)
  exact run_fnS (us := .ref q :: us) (vs := .ref q :: vs) F hr hb (hx σ) J2 (.cons rfl r) z2
theorem pe_methP0 {X : Cx} {CX : CXT} {k : Nat} {C g : Addr} {fd : FuncData} {ps : List Str} {sp : Sp} {E : L2.St → XK} {m : Str} {ta : TE} {pl : Sem Bool} (ho : PE X o ta) (c : Cls X.K C) (hm : Meth X.K C m g) (F : FnOk X.prog X.w X.K X.mg X.base CX k g fd ps sp) (hr : Room k X.A) (hb : Binds X.K fd ps []) (hx : ∀ σ, PassesAt CX X σ (E σ))
    (ht : eval (.Call (.Attribute o m apos) [] [] pos) X.env = (do
      let ov ← eval o X.env
      standAt apos.atName
      let (f, first) ← holding [ov] (getMethod ov m pl)
      callWith pos f first (backTo pos (starEach [] X.env)) (backToKw pos (keywordEach [] X.env)))) : PE X (.Call (.Attribute o m apos) [] [] pos) (tMethS C m sp E ta tNil) := by
  refine ⟨fun pins s σ H Q J h => ?_⟩
  refine PySem.W.methodCall_KW (pl := pl) (thn (ho.run pins s σ H _ J h) fun u s1 ⟨x, H1, J1, rx, q, dx, fs, ex, ea, l, z⟩ => ?_) ht
  subst ex
  obtain rfl : u = Value.ref q := rx
  refine getmeth_ok J1 ea c hm l ?_
  exact PySem.W.callWith_K0 (first := [.ref q]) J1.kIn hm.kp (run_fnS (us := [.ref q]) (vs := [.ref q]) F hr hb (hx σ) J1 (.cons rfl .nil) z)
/-- o.m(..): o an object of the class c -/
def selfOf (c m : String) (d : D) : Option D := match d with
  | .obj c' fs => if c' = c ∧ fs.lookup m = none then some d else none
  | _ => none
def rMeth (c m : String) (sem : FS) (mo : M D) (ma : M (List Ar)) : M Ret := M.bnd mo fun d => M.bnd (lift (selfOf c m d)) fun d => M.bnd ma fun as => callS sem (.d d :: as)
theorem self_rep {K : PySem.W.Frag} {mg : MG} {G H : Hp} {c m : String} {C : Addr} {v : V} {d d' : D} (hC : mg (Str.ofString c) = some (.ref C)) (r : Rep K mg G v d) (s : Same G H) (h : selfOf c m d = some d') : d' = d ∧ ∃ a dx fs, v = .ref a ∧ H a = some (.ins C dx fs) ∧ fs.lookup (Str.ofString m) = none := by
  cases r with
  | obj vf h1 h2 h3 h4 h5 =>
    unfold selfOf at h
    dsimp only at h
    split at h
    · rename_i hh
      cases h
      obtain ⟨rfl, hm⟩ := hh
      rw [hC] at h2
      cases h2
      exact ⟨rfl, _, _, _, rfl, s _ _ h1, h5 m hm⟩
    · cases h
  | non => cases h
  | bl _ => cases h
  | int _ => cases h
  | str _ => cases h
  | tup _ _ _ => cases h
  | lst _ _ _ => cases h
  | dct _ _ _ _ => cases h
theorem meth_sim {sem : FS} {c m : String} {C : Addr} {ta : TE} {t : TA} {mo : M D} {ma : M (List Ar)} (hC : I.mg (Str.ofString c) = some (.ref C)) (h2 : SimE I W ta mo) (k2 : SimP I W t ma) : SimR I W (tMethS C (Str.ofString m) (spF I.K I.mg sem) (WE W) ta t) (rMeth c m sem mo ma) := by
  intro p G σ H e Q S w
  refine h2 p G σ H e _ S (Wp.mono (Wp.bnd w) fun d G1 H1 e1 s1 S1 w1 v r => ?_)
  obtain ⟨d', hd, k⟩ := lift_wp (Wp.bnd w1)
  obtain ⟨rfl, a, dx, fs, g1, g2, g3⟩ := self_rep hC r S1.sub hd
  refine ⟨a, dx, fs, g1, g2, g3, ?_⟩
  have w2 := k G1 H1 (Same.refl _) S1
  refine k2 p G1 σ H1 _ _ S1 (Wp.mono (Wp.bnd w2) fun as G2 H2 e2 s2 S2 w3 vs rs => ?_)
  exact call_sim S2 ⟨by simp [rs.1], fun j v' a' q1 q2 => by
    cases j with
    | zero => simp at q1 q2; subst q1 q2; exact r.mono s2
    | succ j => exact rs.2 j v' a' (by simpa using q1) (by simpa using q2)⟩ w3
theorem dr_meth {c m : String} {ps : List Str} {sem : FS} {k : Nat} {mo : M D} {ma : M (List Ar)} {pl : Env → Sem Bool} (F : DM I.P I.w I.K I.mg I.base k c m ps sem) (hk : Nat.ble k I.k = true) (ho : DE I W o mo) (ha : DP I W (a :: es) ma)
    (ht : ∀ env : Env, eval (.Call (.Attribute o (Str.ofString m) apos) (a :: es) [] pos) env = (do
      let ov ← eval o env
      standAt apos.atName
      let (f, first) ← holding [ov] (getMethod ov (Str.ofString m) (pl env))
      callWith pos f first (backTo pos (starEach (a :: es) env)) (backToKw pos (keywordEach [] env)))) : DR I W (.Call (.Attribute o (Str.ofString m) apos) (a :: es) [] pos) (rMeth c m sem mo ma) := by
  obtain ⟨C, f, fd, F1, F2, F3, F4, F5⟩ := F.ex
  obtain ⟨ta, h1, h2⟩ := ho
  obtain ⟨n, t, k1, k2⟩ := ha
  refine ⟨tMethS C (Str.ofString m) (spF I.K I.mg sem) (WE W) ta t, fun X ok => ?_, meth_sim F2 h2 k2⟩
  obtain ⟨P, ww, K, mg, base, N, sc, fn, kk⟩ := I
  obtain ⟨e1, e2, e3, e4, e5, e6, e7, e8, nd, calm, room, takes, passes⟩ := id ok
  dsimp only at *
  subst e1 e2 e3 e4 e5
  exact pe_methP (h1 X ok) F3 F4 F1 (room.mono (Nat.le_of_ble_eq_true hk)) F5 (fun σ => passAt takes σ) (k1 X ok) n (ht X.env)
theorem dr_meth0 {c m : String} {ps : List Str} {sem : FS} {k : Nat} {mo : M D} {pl : Env → Sem Bool} (F : DM I.P I.w I.K I.mg I.base k c m ps sem) (hk : Nat.ble k I.k = true) (ho : DE I W o mo)
    (ht : ∀ env : Env, eval (.Call (.Attribute o (Str.ofString m) apos) [] [] pos) env = (do
      let ov ← eval o env
      standAt apos.atName
      let (f, first) ← holding [ov] (getMethod ov (Str.ofString m) (pl env))
      callWith pos f first (backTo pos (starEach [] env)) (backToKw pos (keywordEach [] env)))) : DR I W (.Call (.Attribute o (Str.ofString m) apos) [] [] pos) (rMeth c m sem mo aNil) := by
  obtain ⟨C, f, fd, F1, F2, F3, F4, F5⟩ := F.ex
  obtain ⟨ta, h1, h2⟩ := ho
  refine ⟨tMethS C (Str.ofString m) (spF I.K I.mg sem) (WE W) ta tNil, fun X ok => ?_, meth_sim F2 h2 fun p G σ H e Q S w => w G H (Same.refl _) S [] ⟨rfl, fun _ _ _ h => by simp at h⟩⟩
  obtain ⟨P, ww, K, mg, base, N, sc, fn, kk⟩ := I
  obtain ⟨e1, e2, e3, e4, e5, e6, e7, e8, nd, calm, room, takes, passes⟩ := id ok
  dsimp only at *
  subst e1 e2 e3 e4 e5
  exact pe_methP0 (h1 X ok) F3 F4 F1 (room.mono (Nat.le_of_ble_eq_true hk)) F5 (fun σ => passAt takes σ) (ht X.env)
/-! ### C(..) -/
structure DC (P : Program) (w : World) (K : PySem.W.Frag) (mg : MG) (base : Heap) (k : Nat) (c : String) (ps : List Str) (sem : FS) : Prop where
  ex : ∃ C f fd, FnOk P w K mg base (L2.CX P w) k f fd ps (spF K mg sem) ∧ mg (Str.ofString c) = some (.ref C) ∧ Mk K C f ∧ Binds K fd ps []
def endM (n : Nat) : R Ret → R Ret
  | .ok (.sh .non) e => match e[n]? with
    | some (.ow x) => .ok (.ow x) (e.take n)
    | _ => .no
  | .ok _ _ => .no
  | .ex c fs e => .ex c fs (e.take n)
  | .no => .no
/-- a new object at one slot more, which __init__ is handed -/
def rMake (c : String) (sem : FS) (ma : M (List Ar)) : M Ret := M.bnd ma fun as => fun e => endM e.length (callS sem (.at e.length :: as) (e ++ [.ow (.o c [])]))
def tMakeS (C : Addr) (sp : Sp) (E : L2.St → XK) (t : TA) : TE := fun σ H Q => t σ H fun vs H1 => ∀ x dx, H1 x = none → H1 dx = none → dx ≠ x → sp (.ref x :: vs) (upd (upd H1 dx (.own x)) x (.ins C dx [])) (fun v H2 => v = .non ∧ Q (.ref x) H2) (E σ)
theorem run_makeS {X : Cx} {CX : CXT} {k : Nat} {C f : Addr} {fd : FuncData} {ps : List Str} {sp : Sp} {E : L2.St → XK} {pins : List (Addr × Obj)} {σ : L2.St} {H : Hp} {s : Shared} {Q : VK} {us : List Value} {vs : List V} (M : Mk X.K C f) (F : FnOk X.prog X.w X.K X.mg X.base CX k f fd ps sp) (hr : Room (k + 1) X.A) (hb : Binds X.K fd ps [])
    (hx : PassesAt CX X σ (E σ)) (J : Inv X pins σ H s) (r : Vals vs us) (h : ∀ x dx, H x = none → H dx = none → dx ≠ x → sp (.ref x :: vs) (upd (upd H dx (.own x)) x (.ins C dx [])) (fun v H2 => v = .non ∧ Q (.ref x) H2) (E σ)) :
    wpAny (model X.prog X.w) X.A (call (.ref C) us) (EP X pins σ Q) X.xe s := by
  have hq := h (s.heap.objs.size + 1) s.heap.objs.size (J.hok.fresh (Nat.le_succ _)) (J.hok.fresh (Nat.le_refl _)) (Nat.ne_of_lt (Nat.lt_succ_self _))
  have J2 := Inv.made (C := C) J
  have r2 : Vals (V.ref (s.heap.objs.size + 1) :: vs) (Value.ref (s.heap.objs.size + 1) :: us) := .cons rfl r
  have many : (Value.ref (s.heap.objs.size + 1) :: us).length = ps.length := by
    rw [← r2.length]
    exact F.len _ _ _ _ hq
  have bs := hb _ (Value.ref (s.heap.objs.size + 1) :: us) J2.kIn (by rw [List.append_nil]; exact many)
  rw [List.append_nil] at bs
  refine wpAny_call (make_map (f := f) J.kIn M.makes M.init (beq_iff_eq.mp M.fn) (codeAny_mono (F.run _ X.stack _ _ ⟨Value.ref (s.heap.objs.size + 1) :: us, []⟩ (Value.ref (s.heap.objs.size + 1) :: us) _ _ (E σ) (hr.make C us []) (J2.env0.make C us []) bs r2 hq) fun r s' z => ?_))
  cases r with
  | error er => exact hx pins _ _ er s' J2 z
  | ok fl =>
    cases fl with
    | ret u =>
      obtain ⟨v, H', J3, rv, ev, z3⟩ := J2.after z
      subst ev
      exact ⟨rv, ⟨V.ref (s.heap.objs.size + 1), H', J3, rfl, z3⟩⟩
    | next => exact False.elim z
    | brk => exact False.elim z
    | cont => exact False.elim z
theorem make_sim {sem : FS} {c : String} {C : Addr} {t : TA} {ma : M (List Ar)} (hC : I.mg (Str.ofString c) = some (.ref C)) (k2 : SimP I W t ma) : SimR I W (tMakeS C (spF I.K I.mg sem) (WE W) t) (rMake c sem ma) := by
  intro p G σ H e Q S w
  refine k2 p G σ H e _ S (Wp.mono (Wp.bnd w) fun as G1 H1 e1 s1 S1 w1 vs rs => ?_)
  intro x dx hx hdx hne
  obtain ⟨Sa, ga, _, _, _⟩ := S1.laidOw (o := .own x) hdx
  have hx' : upd H1 dx (.own x) x = none := by rw [upd_ne (fun z => hne z.symm)]; exact hx
  obtain ⟨Sb, gb, b0, bF, bap⟩ := Sa.laidOw (o := .ins C dx []) hx'
  have gdx : G1 dx = none := ga
  have cc : CtR I.K I.mg G1 (upd (upd H1 dx (.own x)) x (.ins C dx [])) x (.o c []) :=
    ⟨C, dx, [], upd_same, by rw [upd_ne hne, upd_same], gdx, hC, Nat.le_refl _, fun _ => .non, fun f d h => (by cases h), fun _ _ => rfl⟩
  have Sc := Sb.push gb cc b0 bF bap
  have el : e1.length = σ.length := S1.len.symm
  have ra : ArsOk I.K I.mg G1 (σ ++ [some (.ref x)]) (.ref x :: vs) (.at e1.length :: as) := ⟨by simp [rs.1], fun j v a q1 q2 => by
    cases j with
    | zero =>
      simp at q1 q2
      subst q1 q2
      show (σ ++ [some (V.ref x)])[e1.length]? = _
      rw [el]; simp
    | succ j =>
      have h0 := rs.2 j v a (by simpa using q1) (by simpa using q2)
      cases a with
      | d y => exact h0
      | «at» i => exact app_l h0⟩
  have wc : Wp I.K I.mg (fun cls d _ H => W cls d σ H) p G1 (σ ++ [some (.ref x)]) (callS sem (.at e1.length :: as) (e1 ++ [.ow (.o c [])])) (fun r G' H' e' => RetK I.K I.mg p G' (σ ++ [some (.ref x)]) H' e' (fun v H2 => v = .non ∧ Q (.ref x) H2) r) := by
    cases z : callS sem (.at e1.length :: as) (e1 ++ [.ow (.o c [])]) with
    | no => rw [z] at w1; exact w1.elim
    | ex c' fs e2 =>
      rw [z] at w1
      intro G' H' C' d' s' S' hC' hX
      have := S'.pop
      rw [← el] at this
      exact w1 G' H' C' d' s' this hC' hX
    | ok r e2 =>
      rw [z] at w1
      intro G' H' s' S'
      cases r with
      | ow y => exact w1.elim
      | sh d =>
        cases d with
        | non =>
          have w1' : Wp I.K I.mg W p G1 σ (match e2[e1.length]? with | some (.ow y) => R.ok (Ret.ow y) (e2.take e1.length) | _ => .no) _ := w1
          cases q : e2[e1.length]? with
          | none => rw [q] at w1'; exact w1'.elim
          | some sl =>
            rw [q] at w1'
            cases sl with
            | no => exact w1'.elim
            | sh _ => exact w1'.elim
            | io _ => exact w1'.elim
            | ow y =>
              intro v rv
              cases rv
              refine ⟨rfl, ?_⟩
              have hσ : (σ ++ [some (V.ref x)])[e1.length]? = some (some (V.ref x)) := by rw [el]; simp
              obtain ⟨b, k1, k2', k3⟩ := S'.ow e1.length _ y q rfl
              rw [hσ] at k1
              cases k1
              have P' := S'.pop
              rw [← el] at P'
              refine w1' G' H' s' P' x k2' k3 (S'.of e1.length y x q hσ) (S'.ka e1.length _ y x q rfl hσ) fun i s0 y0 q1 q2 q3 => ?_
              obtain ⟨q1', hi⟩ := take_get q1
              have := S'.ap i e1.length s0 _ y0 y x q1' q q2 rfl (app_l q3) hσ
              omega
        | bl _ => exact w1.elim
        | int _ => exact w1.elim
        | str _ => exact w1.elim
        | tup _ => exact w1.elim
        | lst _ => exact w1.elim
        | dct _ => exact w1.elim
        | obj _ _ => exact w1.elim
  have key := call_sim (W := fun cls d _ H => W cls d σ H) Sc ra wc
  exact key
theorem dr_make {c : String} {ps : List Str} {sem : FS} {k : Nat} {ma : M (List Ar)} (F : DC I.P I.w I.K I.mg I.base k c ps sem) (hk : Nat.ble (k + 1) I.k = true) (g : (glB I.sc (Str.ofString c) && nodbg (Str.ofString c)) = true) (ha : DP I W (a :: es) ma) :
    DR I W (.Call (.Name (Str.ofString c) p0) (a :: es) [] pos) (rMake c sem ma) := by
  simp only [Bool.and_eq_true] at g
  obtain ⟨C, f, fd, F1, F2, F3, F4⟩ := F.ex
  obtain ⟨n, t, k1, k2⟩ := ha
  have n2 : nst a = true ∧ es.all nst = true := by simpa using n
  refine ⟨tMakeS C (spF I.K I.mg sem) (WE W) t, fun X ok => ?_, make_sim F2 k2⟩
  obtain ⟨P, ww, K, mg, base, N, sc, fn, kk⟩ := I
  obtain ⟨e1, e2, e3, e4, e5, e6, e7, e8, nd, calm, room, takes, passes⟩ := id ok
  dsimp only at *
  subst e1 e2 e3 e4 e5
  refine ⟨fun pins s σ H Q J h => ?_⟩
  refine wpAny_Call_Name_kw (ld_glob J (gl_of e7 (isG_ok g.1)) F2 ?_ (by have := g.2; unfold nodbg at this; simpa using this))
  refine PySem.W.callWith_K (h₀ := X.base) J.ok.mod.kin F3.kp (thn ((k1 X ok).run pos pins s σ H _ J h) fun us s1 ⟨vs, H1, J1, r, q⟩ => ⟨J1.kIn, ?_⟩) (star_of n2.1 _ _) (by rw [no_back]; exact no_star n2.2 _)
  exact run_makeS F3 F1 (room.mono (Nat.le_of_ble_eq_true hk)) F4 (passAt takes σ) J1 r q
end
end DL
end

section
namespace DL
open PySem PySem.Spec L2
open PyProof.Rows hiding St

section
variable {I : CI} {W : WX} {a b c o e0 : Expr} {es : List Expr} {pos p0 p1 p2 p3 tpos : Pos} {x y z : Str}
/-! ### list(range(..)), tuple(range(..)) -/
def rngB (i j : Int) : Bool := small62 i && small62 j && decide ((j - i).toNat ≤ LIM)
theorem rngB_ok {i j : Int} (h : rngB i j = true) : RgOk i j := by
  unfold rngB at h
  simp only [Bool.and_eq_true, decide_eq_true_eq] at h
  obtain ⟨⟨h1, h2⟩, h3⟩ := h
  obtain ⟨z1, z2⟩ := small62_ok h1
  obtain ⟨z3, z4⟩ := small62_ok h2
  have : LIM ≤ 2 ^ 24 := by decide
  exact ⟨z1, z2, z3, z4, by omega⟩
theorem reps_rgV {K : PySem.W.Frag} {mg : MG} {G : Hp} (i j : Int) : Reps K mg G (rgV i j) (rngL i (j - i).toNat) := by
  unfold rgV rngL
  refine ⟨by simp, fun n v d h1 h2 => ?_⟩
  rw [List.getElem?_map] at h1 h2
  cases q : (List.range (j - i).toNat)[n]? with
  | none => rw [q] at h1; cases h1
  | some m =>
    rw [q] at h1 h2
    cases h1
    cases h2
    exact .int _
def rLR1 (m : M D) : M Ret := M.bnd m fun d => match d with
  | .int j => if rngB 0 j = true then M.ret (.ow (.l (rngL 0 (j - 0).toNat))) else fun _ => .no
  | _ => fun _ => .no
def rLR2 (m n : M D) : M Ret := M.bnd m fun d => M.bnd n fun d' => match d, d' with
  | .int i, .int j => if rngB i j = true then M.ret (.ow (.l (rngL i (j - i).toNat))) else fun _ => .no
  | _, _ => fun _ => .no
def eTR1 (m : M D) : M D := M.bnd m fun d => match d with
  | .int j => if rngB 0 j = true then M.ret (.tup (rngL 0 (j - 0).toNat)) else fun _ => .no
  | _ => fun _ => .no
def eTR2 (m n : M D) : M D := M.bnd m fun d => M.bnd n fun d' => match d, d' with
  | .int i, .int j => if rngB i j = true then M.ret (.tup (rngL i (j - i).toNat)) else fun _ => .no
  | _, _ => fun _ => .no
variable {m n : M D}
theorem own_lst {p : Pm} {G H : Hp} {σ : L2.St} {e : En} {i j : Int} {Q : VK} (S : Srp I.K I.mg p G σ H e) (w : Wp I.K I.mg W p G σ (M.ret (Ret.ow (.l (rngL i (j - i).toNat))) e) (fun r G' H' e' => RetK I.K I.mg p G' σ H' e' Q r)) (q : Addr) (nq : H q = none) : Q (.ref q) (upd H q (.lst (rgV i j))) := by
  obtain ⟨S2, gn, h0, hF, ap⟩ := S.laidOw (o := .lst (rgV i j)) nq
  exact w G _ (Same.refl _) S2 q gn ⟨_, upd_same, reps_rgV i j⟩ h0 hF ap
theorem c_listR1 (B : Bs I.mg) (g : glB I.sc "list" = true) (g' : glB I.sc "range" = true) (h : DE I W a m) (n0 : nst a = true) : DR I W (.Call (.Name "list" p0) [.Call (.Name "range" p1) [a] [] p2] [] pos) (rLR1 m) := by
  obtain ⟨t, h1, h2⟩ := h
  refine ⟨tLstRg (tRg1 t), fun X ok => pe_listRg ok.calm (gl_of ok.hsc (isG_ok g)) (by rw [ok.hmg]; exact B _ (by simp [bnames])) (prg_1 (gl_of ok.hsc (isG_ok g')) (by rw [ok.hmg]; exact B _ (by simp [bnames])) (h1 X ok) (star_of n0 _ _)) rfl, fun p G σ H e Q S w => ?_⟩
  refine h2 p G σ H e _ S (Wp.mono (Wp.bnd w) fun d G1 H1 e1 s1 S1 w1 v r => ?_)
  cases r <;> first | exact w1.elim | skip
  rename_i j
  dsimp only at w1
  by_cases hh : rngB 0 j = true
  · rw [if_pos hh] at w1
    exact ⟨j, rfl, rngB_ok hh, fun q nq => own_lst S1 w1 q nq⟩
  · rw [if_neg hh] at w1; exact w1.elim
theorem c_listR2 (B : Bs I.mg) (g : glB I.sc "list" = true) (g' : glB I.sc "range" = true) (h : DE I W a m) (h' : DE I W b n) (n0 : nst a = true) (n1 : nst b = true) : DR I W (.Call (.Name "list" p0) [.Call (.Name "range" p1) [a, b] [] p2] [] pos) (rLR2 m n) := by
  obtain ⟨t, h1, h2⟩ := h
  obtain ⟨u, k1, k2⟩ := h'
  refine ⟨tLstRg (tRg2 t u), fun X ok => pe_listRg ok.calm (gl_of ok.hsc (isG_ok g)) (by rw [ok.hmg]; exact B _ (by simp [bnames])) (prg_2 (gl_of ok.hsc (isG_ok g')) (by rw [ok.hmg]; exact B _ (by simp [bnames])) (h1 X ok) (k1 X ok) (star_of n0 _ _) (star_of n1 _ _) (by rw [no_back]; exact no_star (by simp [n1]) _)) rfl, fun p G σ H e Q S w => ?_⟩
  refine h2 p G σ H e _ S (Wp.mono (Wp.bnd w) fun d G1 H1 e1 s1 S1 w1 v r => ?_)
  refine k2 p G1 σ H1 e1 _ S1 (Wp.mono (Wp.bnd w1) fun d' G2 H2 e2 s2 S2 w2 v' r' => ?_)
  cases r <;> first | exact w2.elim | skip
  cases r' <;> first | exact w2.elim | skip
  rename_i i j
  dsimp only at w2
  by_cases hh : rngB i j = true
  · rw [if_pos hh] at w2
    exact ⟨i, j, rfl, rfl, rngB_ok hh, fun q nq => own_lst S2 w2 q nq⟩
  · rw [if_neg hh] at w2; exact w2.elim
theorem c_tupR1 (B : Bs I.mg) (g : glB I.sc "tuple" = true) (g' : glB I.sc "range" = true) (h : DE I W a m) (n0 : nst a = true) : DE I W (.Call (.Name "tuple" p0) [.Call (.Name "range" p1) [a] [] p2] [] pos) (eTR1 m) := by
  obtain ⟨t, h1, h2⟩ := h
  refine ⟨tTupRg (tRg1 t), fun X ok => pe_tupRg ok.calm (gl_of ok.hsc (isG_ok g)) (by rw [ok.hmg]; exact B _ (by simp [bnames])) (prg_1 (gl_of ok.hsc (isG_ok g')) (by rw [ok.hmg]; exact B _ (by simp [bnames])) (h1 X ok) (star_of n0 _ _)) rfl, fun p G σ H e Q S w => ?_⟩
  refine h2 p G σ H e _ S (Wp.mono (Wp.bnd w) fun d G1 H1 e1 s1 S1 w1 v r => ?_)
  cases r <;> first | exact w1.elim | skip
  rename_i j
  dsimp only at w1
  by_cases hh : rngB 0 j = true
  · rw [if_pos hh] at w1
    refine ⟨j, rfl, rngB_ok hh, fun q nq => ?_⟩
    obtain ⟨s2, S2⟩ := S1.laid (o := .tup (rgV 0 j)) nq
    exact w1 _ _ s2 S2 _ (.mk_tup (.of upd_same) (reps_rgV 0 j))
  · rw [if_neg hh] at w1; exact w1.elim
/-! ### x[i] op= v, x an own name -/
def rGetK (K : PySem.W.Frag) : V → V → Hp → VK → Prop := fun o i H Q => ∃ q xs k v, o = .ref q ∧ i = .int k ∧ SqL K H q xs ∧ atI xs k = some v ∧ Q v H
def lAt (i : Nat) (k : D) : M D := fun e => match e[i]?.bind Sl.own with
  | some (.l l) => lift (fIx (.lst l) k) e
  | _ => .no
def sAugX (i : Nat) (f : D → D → Option Ret) (mi m : M D) : M Fl := fun e => if ownL e i = true then (M.bnd mi fun k => M.bnd (lAt i k) fun old => M.bnd m fun y => M.bnd (lift (f old y)) fun r => match r with
  | .sh d => M.bnd (putL i fun l => lSet l k d) fun _ => M.ret .nx
  | .ow _ => fun _ => .no) e else .no
theorem get_own {X : Cx} : PGet X (rGetK X.K) := by
  intro pins s σ H o i ov iv Q J ro ri h
  obtain ⟨q, xs, k, v, rfl, rfl, hq, he, z⟩ := h
  cases ro
  obtain ⟨t, rfl⟩ := ri
  obtain ⟨us, r, pl, hz⟩ := J.list hq
  obtain ⟨j, h1, h2, h3, h4, h5⟩ := atI_get he
  obtain ⟨w, ew, rw'⟩ := r.get h2
  have hl := r.length
  have hn := line63
  have fin : EP X pins σ Q w s := ⟨v, H, J, rw', z⟩
  by_cases h0 : 0 ≤ k
  · have hj : k.toNat = j := by
      rw [seqIndex_of h0 h5] at h1
      exact Option.some.inj h1
    exact wpAny_getItem_list pl.isList h0 (by omega) (by rw [hj]; simpa using ew) fin
  · have hj : (k + (us.toArray.size : Int)).toNat = j := by
      rw [seqIndex_neg (by omega) h4] at h1
      rw [List.size_toArray, ← hl]
      exact Option.some.inj h1
    exact wpAny_getItem_list_neg (Q := fun r s' => EP X pins σ Q r s') pl.isList (by omega) (by rw [List.size_toArray] <;> omega) (by omega) (by rw [hj]; simpa using ew) fin
theorem ds_augX {i : Nat} {op : Operator} {f : D → D → Option Ret} {mi : M D} (ho : OpD I W (inplaceOp op) f) (hx : VarOk I.N I.sc i x) (hi : DE I W b mi) (h : DE I W a m) (ha : ∀ ov iv new, augStore b ov iv new = (do holding [new, ov, iv] (setItem ov iv new); release [new, ov, iv] []; pure .next)) : DS I W (.AugAssign (.Subscript (.Name x p0) b tpos) op a pos) (sAugX i f mi m) := by
  obtain ⟨r, r1, r2⟩ := ho
  obtain ⟨u, k1, k2⟩ := hi
  obtain ⟨t, h1, h2⟩ := h
  refine ⟨tAugS (tVar i) u t (rGetK I.K) r rSetL, fun X ok => ps_augS (pe_slot hx X ok) (k1 X ok) (by have := get_own (X := X); rw [ok.hK] at this; exact this) (h1 X ok) (fun pins s σ H x y v u Q J rx ry q => r1 X ok pins s σ H x y v u Q J rx ry q) set_list ha, fun p G σ H e E S w => ?_⟩
  unfold sAugX at w
  split at w
  case isFalse => exact w.elim
  rename_i ho
  obtain ⟨q, vs0, hσ, hH⟩ := ownL_at S ho
  refine ⟨_, hσ, k2 p G σ H e _ S (Wp.mono (Ws.bnd w) fun dk G1 H1 e1 s1 S1 w1 kv rk => ?_)⟩
  have w1' := Ws.bnd (σ := σ) w1
  unfold lAt at w1'
  cases q1 : e1[i]?.bind Sl.own with
  | none => rw [q1] at w1'; exact w1'.elim
  | some y =>
    rw [q1] at w1'
    cases y with
    | o _ _ => exact w1'.elim
    | l l0 =>
    dsimp only at w1'
    obtain ⟨old, hold, kk⟩ := lift_wp w1'
    have rd : ∃ xs ki vo, kv = .int ki ∧ SqL I.K H1 q xs ∧ atI xs ki = some vo ∧ Rep I.K I.mg G1 vo old := by
      cases z1 : e1[i]? with
      | none => rw [z1] at q1; cases q1
      | some s0 =>
        rw [z1] at q1
        have q1 : s0.own = some (.l l0) := q1
        obtain ⟨b', c1, c2, c3⟩ := S1.ow i s0 _ z1 q1
        rw [hσ] at c1
        cases c1
        obtain ⟨ws, g1, g2⟩ := c3
        cases rk <;> first | cases hold | skip
        obtain ⟨vo, z1, z2⟩ := atI_reps g2 hold
        exact ⟨_, _, vo, rfl, .inl (.inl g1), z1, z2⟩
    obtain ⟨xs, ki, vo, rfl, hs, hat, rvo⟩ := rd
    refine ⟨q, xs, ki, vo, rfl, rfl, hs, hat, ?_⟩
    have w2 := kk G1 H1 (Same.refl _) S1
    refine h2 p G1 σ H1 e1 _ S1 (Wp.mono (Ws.bnd w2) fun dy G2 H2 e2 s2 S2 w3 vy ry => ?_)
    have w3' := Ws.bnd (σ := σ) w3
    obtain ⟨res, hf, k3⟩ := lift_wp w3'
    refine r2 p G2 σ H2 e2 vo vy old dy res _ S2 (rvo.mono s2) ry hf fun G3 H3 s3 S3 => ?_
    have w4 := k3 G3 H3 s3 S3
    cases res with
    | ow y => exact w4.elim
    | sh dn =>
      intro vn rn
      have w5 := Ws.bnd (σ := σ) w4
      obtain ⟨q', vs, l, l', d', z1, z2, z3, z4, z5⟩ := putL_sim S3 w5
      rw [hσ] at z1
      cases z1
      unfold lSet at z4
      cases rk
      dsimp only at z4
      cases zj : ixN l.length ki with
      | none => rw [zj] at z4; cases z4
      | some j =>
        rw [zj] at z4
        have z4' : (l.set j dn, D.non) = (l', d') := Option.some.inj z4
        cases z4'
        refine ⟨q, vs, ki, j, rfl, rfl, z2, by rw [z3.1]; exact zj, ?_⟩
        obtain ⟨e', S', z6⟩ := z5 _ (z3.set rn j)
        exact z6 G3 σ _ (Same.refl _) S'
/-! ### x, y, z = a, b, c -/
def sPar3 (m : M (List Ar)) (i j l : Nat) : M Fl := M.bnd (aVals m) fun ds => match ds with
  | [u, v, w] => M.bnd (gSet i u) fun _ => M.bnd (gSet j v) fun _ => M.bnd (gSet l w) fun _ => M.ret .nx
  | _ => fun _ => .no
theorem ds_par3 {i j l : Nat} {mm : M (List Ar)} {k k2} {pt pt2 : Pos} (hi : I.N[i]? = some x) (hj : I.N[j]? = some y) (hl : I.N[l]? = some z) (hij : i ≠ j) (hil : i ≠ l) (hjl : j ≠ l) (hx : isL (I.sc.names.lookup x) = true) (hy : isL (I.sc.names.lookup y) = true) (hz : isL (I.sc.names.lookup z) = true) (ha : DP I W [a, b, c] mm)
    (hw : ∀ env : Env, env.scope = I.sc → swappedStores [.Tuple [.Name x p0, .Name y p1, .Name z p2] k pt] (.Tuple [a, b, c] k2 pt2) env = pure (some [x, y, z]))
    (hs : ∀ env : Env, swapsWithSole [.Tuple [.Name x p0, .Name y p1, .Name z p2] k pt] (.Tuple [a, b, c] k2 pt2) pos.line env = pure false) :
    DS I W (.Assign [.Tuple [.Name x p0, .Name y p1, .Name z p2] k pt] (.Tuple [a, b, c] k2 pt2) pos) (sPar3 mm i j l) := by
  obtain ⟨n, t, h1, h2⟩ := ha
  refine ⟨tPar3 i j l t, fun X ok => ps_par3 ok.calm (by rw [ok.hN]; exact ok.nd) (by rw [ok.hN]; exact hi) (by rw [ok.hN]; exact hj) (by rw [ok.hN]; exact hl) hij hil hjl (by rw [ok.hsc]; exact isL_ok hx) (by rw [ok.hsc]; exact isL_ok hy) (by rw [ok.hsc]; exact isL_ok hz) (h1 X ok) (hw X.env ok.hsc) (hs X.env), fun p G σ H e E S w => ?_⟩
  refine simA_of h2 p G σ H e _ S (Wp.mono (Ws.bnd w) fun ds G1 H1 e1 s1 S1 w1 vs r => ?_)
  match ds, vs, r, w1 with
  | [u, v, t], [u', v', t'], r, w1 =>
    obtain ⟨S2, w2⟩ := set_sim S1 (r.2 0 u' u rfl rfl) w1
    obtain ⟨S3, w3⟩ := set_sim S2 (r.2 1 v' v rfl rfl) w2
    obtain ⟨S4, w4⟩ := set_sim S3 (r.2 2 t' t rfl rfl) w3
    exact ⟨u', v', t', rfl, w4 G1 _ H1 (Same.refl _) S4⟩
  | [_, _, _], [], r, w1 => exact absurd r.1 (by simp)
  | [_, _, _], [_], r, w1 => exact absurd r.1 (by simp)
  | [_, _, _], [_, _], r, w1 => exact absurd r.1 (by simp)
  | [_, _, _], _ :: _ :: _ :: _ :: _, r, w1 => exact absurd r.1 (by simp)
  | [], _, _, w1 => exact w1.elim
  | [_], _, _, w1 => exact w1.elim
  | [_, _], _, _, w1 => exact w1.elim
  | _ :: _ :: _ :: _ :: _, _, _, w1 => exact w1.elim
end
end DL
end

section
namespace DL
open PySem PySem.Spec L2
open PyProof.Rows hiding St

section
variable {I : CI} {W : WX} {tg iter tg1 iter1 elt : Expr} {ifs ifs1 : List Expr} {scope : Scope} {pos : Pos}
theorem comp_loop {tg' : TG} {tt : TT} {te : TE} {g : D → M Unit} {gs vs : List Nat} {t : M Bool} {m : M D} {W' : WX} {J : It} {ds ad0 : List D} {av0 : List V} {G1 H0 : Hp} {p : Pm} {σ : L2.St} {e1 : En} {q : Addr} {k : List D → Hp → Hp → En → Prop} {Fin : Hp → Prop}
    (hg : SimG (I.blk scope) W0 tg' g gs) (hgs : ∀ i ∈ gs, i ∈ vs) (ht : SimT (I.blk scope) W0 tt t) (he : SimE (I.blk scope) W0 te m) (hJ : IterOk I.K I.mg J G1 ds) (hlim : ad0.length + ds.length ≤ LIM + LIM)
    (S1' : Srp I.K I.mg p G1 σ H0 e1) (T0 : Tmp p G1 σ e1 q) (hav0 : H0 q = some (.lst av0)) (rav0 : Reps I.K I.mg G1 av0 ad0) (w1 : Wp I.K I.mg W' p G1 σ (compF g t m vs ds ad0 e1) k)
    (fin : ∀ l av G2 H2 e2, Same G1 G2 → Srp I.K I.mg p G2 σ H2 e2 → Tmp p G2 σ e2 q → H2 q = some (.lst av) → Reps I.K I.mg G2 av l → k l G2 H2 e2 → Fin H2) :
    ∃ Wr : Nat → Nat → Hp → Prop, (∃ m, Wr 0 m H0) ∧ ∀ i m H, Wr i m H → (J.stop i H ∧ Fin H) ∨ (J.go i H ∧ ∃ Nx : Hp → Prop, (∀ H', Nx H' → ∃ m', m' < m ∧ Wr (i + 1) m' H') ∧ ∀ x H', J.yld i H x H' → tg' x (L2.wipe σ vs) H' fun σ2 H2 => L2.wipe σ2 vs = L2.wipe σ vs ∧ tt σ2 H2 fun b H3 =>
      if b = true then te σ2 H3 fun y H4 => ∃ acc, H4 q = some (.lst acc) ∧ acc.length < sizeLine ∧ Nx (upd H4 q (.lst (acc ++ [y]))) else Nx H3) := by
  have ll := limS
  -- between the turns
  refine ⟨fun i n H' => n = ds.length - i ∧ i ≤ ds.length ∧ ∃ G' e' av ad, Same G1 G' ∧ Srp I.K I.mg p G' σ H' e' ∧ Tmp p G' σ e' q ∧ H' q = some (.lst av) ∧ Reps I.K I.mg G' av ad ∧ ad.length ≤ ad0.length + i ∧
      Wp I.K I.mg W' p G' σ (compF g t m vs (ds.drop i) ad e') k,
    ⟨ds.length, by simp, Nat.zero_le _, G1, e1, av0, ad0, Same.refl _, S1', T0, hav0, rav0, Nat.le_refl _, by simpa using w1⟩, ?_⟩
  rintro i n H' ⟨rfl, hi', G', e', av, ad, s', S', T', hav, rav, hadl, w'⟩
  obtain ⟨st, go⟩ := hJ p G' σ H' e' s' S' i
  by_cases hl : i < ds.length
  · obtain ⟨g1, g2⟩ := go _ (List.getElem?_eq_getElem hl)
    refine .inr ⟨g1, fun H2 => ∃ m', m' < ds.length - i ∧ (m' = ds.length - (i + 1) ∧ i + 1 ≤ ds.length ∧ ∃ G' e' av ad, Same G1 G' ∧ Srp I.K I.mg p G' σ H2 e' ∧ Tmp p G' σ e' q ∧ H2 q = some (.lst av) ∧ Reps I.K I.mg G' av ad ∧ ad.length ≤ ad0.length + (i + 1) ∧
      Wp I.K I.mg W' p G' σ (compF g t m vs (ds.drop (i + 1)) ad e') k), fun H2 h => h, fun x H2 y => ?_⟩
    -- the turn, with the new list held
    have SP := S'.protect T' hav
    obtain ⟨_, go2⟩ := hJ (p.hold q (.lst av)) G' σ H' e' s' SP i
    obtain ⟨_, g4⟩ := go2 _ (List.getElem?_eq_getElem hl)
    obtain ⟨G2, t1, S2, r2, _⟩ := g4 x H2 y
    rw [List.drop_eq_getElem_cons hl] at w'
    unfold compF at w'
    by_cases hno : noOwn e' vs = true
    case neg => rw [if_neg hno] at w'; exact w'.elim
    rw [if_pos hno] at w'
    have SW := S2.wipe vs
    refine hg (p.hold q (.lst av)) G2 _ H2 (wipeE e' vs) x _ _ SW r2 ?_
    -- what the turn comes to
    have back : ∀ {G3 : Hp} {σ3 : L2.St} {H3 : Hp} {e3 : En}, Same G2 G3 → Srp I.K I.mg (p.hold q (.lst av)) G3 σ3 H3 e3 → L2.wipe σ3 vs = L2.wipe σ vs → e3.length = e'.length →
        Srp I.K I.mg p G3 σ H3 (backE e3 e' vs) ∧ Tmp p G3 σ (backE e3 e' vs) q ∧ H3 q = some (.lst av) := fun {G3 σ3 H3 e3} s3 S3 h3 l3 => (Sr.back S2 S3 s3 h3 l3 hno).unprotect T'.h0 T'.f
    unfold turnC M.bnd at w'
    cases z : g ds[i] (wipeE e' vs) with
    | no => rw [z] at w'; exact w'.elim
    | ex c fs e2 => rw [z] at w'; exact w'.elim
    | ok u e2 =>
      rw [z] at w'
      dsimp only at w'
      intro G3 σ3 H3 t3 S3 d3
      have hlen : σ3.length = σ.length := d3.1.trans (wipe_length σ vs)
      have hwp := wipe_same hgs d3
      have lenE : ∀ {G4 : Hp} {H4 : Hp} {e4 : En}, Srp I.K I.mg (p.hold q (.lst av)) G4 σ3 H4 e4 → e4.length = e'.length := fun {G4 H4 e4} S4 => by
        rw [← S4.len, hlen, S'.len]
      refine ⟨hwp, ?_⟩
      have wt : Wp I.K I.mg W0 (p.hold q (.lst av)) G3 σ3 (t e2) fun b G4 H4 e4 => (if b = true then te σ3 H4 fun y H5 => ∃ acc, H5 q = some (.lst acc) ∧ acc.length < sizeLine ∧ ∃ m', m' < ds.length - i ∧ (m' = ds.length - (i + 1) ∧ i + 1 ≤ ds.length ∧ ∃ G' e' av ad, Same G1 G' ∧ Srp I.K I.mg p G' σ (upd H5 q (.lst (acc ++ [y]))) e' ∧ Tmp p G' σ e' q ∧ upd H5 q (.lst (acc ++ [y])) q = some (.lst av) ∧ Reps I.K I.mg G' av ad ∧ ad.length ≤ ad0.length + (i + 1) ∧
          Wp I.K I.mg W' p G' σ (compF g t m vs (ds.drop (i + 1)) ad e') k)
          else ∃ m', m' < ds.length - i ∧ (m' = ds.length - (i + 1) ∧ i + 1 ≤ ds.length ∧ ∃ G' e' av ad, Same G1 G' ∧ Srp I.K I.mg p G' σ H4 e' ∧ Tmp p G' σ e' q ∧ H4 q = some (.lst av) ∧ Reps I.K I.mg G' av ad ∧ ad.length ≤ ad0.length + (i + 1) ∧
          Wp I.K I.mg W' p G' σ (compF g t m vs (ds.drop (i + 1)) ad e') k)) := by
        cases zt : t e2 with
        | no => rw [zt] at w'; exact w'.elim
        | ex c fs e4 => rw [zt] at w'; exact w'.elim
        | ok b e4 =>
          rw [zt] at w'
          intro G4 H4 t4 S4
          cases b with
          | false =>
            dsimp only at w'
            rw [if_neg Bool.false_ne_true] at w' ⊢
            obtain ⟨k1, k2, k3⟩ := back (t3.trans t4) S4 hwp (lenE S4)
            exact ⟨_, by omega, rfl, hl, G4, _, av, ad, s'.trans (t1.trans (t3.trans t4)), k1, k2, k3, rav.mono (t1.trans (t3.trans t4)), by omega, Wp.up w' (t1.trans (t3.trans t4))⟩
          | true =>
            dsimp only at w'
            rw [if_pos rfl] at w' ⊢
            refine he (p.hold q (.lst av)) G4 σ3 H4 e4 _ S4 ?_
            cases zm : m e4 with
            | no => rw [zm] at w'; exact w'.elim
            | ex c fs e5 => rw [zm] at w'; exact w'.elim
            | ok yd e5 =>
              rw [zm] at w'
              intro G5 H5 t5 S5 yv ry
              obtain ⟨k1, k2, k3⟩ := back (t3.trans (t4.trans t5)) S5 hwp (lenE S5)
              refine ⟨av, k3, by rw [rav.1]; omega, _, by omega, rfl, hl, G5, _, av ++ [yv], ad ++ [yd], s'.trans (t1.trans (t3.trans (t4.trans t5))), k1.poke k2 k3 (fun _ z => nomatch z), k2, upd_same,
                (rav.mono (t1.trans (t3.trans (t4.trans t5)))).append (Reps.one ry), by simp; omega, Wp.up w' (t1.trans (t3.trans (t4.trans t5)))⟩
      exact ht (p.hold q (.lst av)) G3 σ3 H3 e2 _ S3 wt
  · have ei : i = ds.length := by omega
    refine .inl ⟨st ei, ?_⟩
    rw [List.drop_eq_nil_of_le (by omega)] at w'
    exact fin ad av G' H' e' s' S' T' hav rav (w' G' H' (Same.refl _) S')
/-! ### two loops -/
def comp2F (g : D → M Unit) (t : M Bool) (mi1 : M (List D)) (g1 : D → M Unit) (t1 : M Bool) (m : M D) (vs vs1 : List Nat) : List D → List D → M (List D)
  | [], acc => M.ret acc
  | d :: ds, acc => fun e => if noOwn e vs then (match (M.bnd (g d) fun _ => t) (wipeE e vs) with
    | .ok true e2 => (match mi1 e2 with
      | .ok ds1 e3 => if acc.length + ds1.length ≤ LIM then (match compF g1 t1 m vs1 ds1 acc e3 with
        | .ok acc' e4 => comp2F g t mi1 g1 t1 m vs vs1 ds acc' (backE e4 e vs)
        | _ => .no) else .no
      | _ => .no)
    | .ok false e' => comp2F g t mi1 g1 t1 m vs vs1 ds acc (backE e' e vs)
    | _ => .no) else .no
def rComp2 (mi : M (List D)) (g : D → M Unit) (t : M Bool) (mi1 : M (List D)) (g1 : D → M Unit) (t1 : M Bool) (m : M D) (vs vs1 : List Nat) : M Ret := M.bnd mi fun ds => M.bnd (comp2F g t mi1 g1 t1 m vs vs1 ds []) fun l => M.ret (.ow (.l l))
theorem comp2_sim {wi wi1 : TI} {tg' tg1' : TG} {tt tt1 : TT} {te : TE} {mi mi1 : M (List D)} {g g1 : D → M Unit} {gs gs1 vs vs1 : List Nat} {t t1 : M Bool} {m : M D} (hi : SimI I W wi mi) (hg : SimG (I.blk scope) W0 tg' g gs) (hgs : ∀ i ∈ gs, i ∈ vs)
    (ht : SimT (I.blk scope) W0 tt t) (hi1 : SimI (I.blk scope) W0 wi1 mi1) (hg1 : SimG (I.blk scope) W0 tg1' g1 gs1) (hgs1 : ∀ i ∈ gs1, i ∈ vs1) (hv : ∀ i ∈ vs1, i ∈ vs) (ht1 : SimT (I.blk scope) W0 tt1 t1) (he : SimE (I.blk scope) W0 te m) :
    SimR I W (tLc2 wi tg' tt wi1 tg1' tt1 te vs vs1) (rComp2 mi g t mi1 g1 t1 m vs vs1) := by
  intro p G σ H e Q S w
  refine hi p G σ H e _ S (Wp.mono (Wp.bnd w) fun ds G1 H1 e1 s1 S1 w1 J hJ => ?_)
  intro q nq
  have w1 := Wp.bnd w1
  obtain ⟨S1', gq, hq0, hqF, hqa⟩ := S1.laidOw (o := .lst []) nq
  refine ⟨fun i n H' => n = ds.length - i ∧ i ≤ ds.length ∧ ∃ G' e' av ad, Same G1 G' ∧ Srp I.K I.mg p G' σ H' e' ∧ Tmp p G' σ e' q ∧ H' q = some (.lst av) ∧ Reps I.K I.mg G' av ad ∧
      Wp I.K I.mg W p G' σ (comp2F g t mi1 g1 t1 m vs vs1 (ds.drop i) ad e') (fun l G2 H2 e2 => Wp I.K I.mg W p G2 σ (M.ret (Ret.ow (Ct.l l)) e2) fun r G3 H3 e3 => RetK I.K I.mg p G3 σ H3 e3 Q r),
    ⟨ds.length, by simp, Nat.zero_le _, G1, e1, [], [], Same.refl _, S1', ⟨gq, hq0, hqF, hqa⟩, upd_same, Reps.nil, by simpa using w1⟩, ?_⟩
  rintro i n H' ⟨rfl, hi', G', e', av, ad, s', S', T', hav, rav, w'⟩
  obtain ⟨st, go⟩ := hJ p G' σ H' e' s' S' i
  by_cases hl : i < ds.length
  · obtain ⟨go1, _⟩ := go _ (List.getElem?_eq_getElem hl)
    refine .inr ⟨go1, fun H2 => ∃ m', m' < ds.length - i ∧ (m' = ds.length - (i + 1) ∧ i + 1 ≤ ds.length ∧ ∃ G' e' av ad, Same G1 G' ∧ Srp I.K I.mg p G' σ H2 e' ∧ Tmp p G' σ e' q ∧ H2 q = some (.lst av) ∧ Reps I.K I.mg G' av ad ∧
      Wp I.K I.mg W p G' σ (comp2F g t mi1 g1 t1 m vs vs1 (ds.drop (i + 1)) ad e') (fun l G2 H2 e2 => Wp I.K I.mg W p G2 σ (M.ret (Ret.ow (Ct.l l)) e2) fun r G3 H3 e3 => RetK I.K I.mg p G3 σ H3 e3 Q r)), fun H2 h => h, fun x H2 y => ?_⟩
    have SP := S'.protect T' hav
    obtain ⟨_, go2⟩ := hJ (p.hold q (.lst av)) G' σ H' e' s' SP i
    obtain ⟨_, g4⟩ := go2 _ (List.getElem?_eq_getElem hl)
    obtain ⟨G2, z1, S2, r2, _⟩ := g4 x H2 y
    rw [List.drop_eq_getElem_cons hl] at w'
    unfold comp2F at w'
    by_cases hno : noOwn e' vs = true
    case neg => rw [if_neg hno] at w'; exact w'.elim
    rw [if_pos hno] at w'
    have SW := S2.wipe vs
    refine hg (p.hold q (.lst av)) G2 _ H2 (wipeE e' vs) x _ _ SW r2 ?_
    unfold M.bnd at w'
    cases z : g ds[i] (wipeE e' vs) with
    | no => rw [z] at w'; exact w'.elim
    | ex c fs e2 => rw [z] at w'; exact w'.elim
    | ok u e2 =>
      rw [z] at w'
      dsimp only at w'
      intro G3 σ3 H3 t3 S3 d3
      have hlen : σ3.length = σ.length := d3.1.trans (wipe_length σ vs)
      have hwp := wipe_same hgs d3
      have lenE : ∀ {p4 : Pm} {G4 : Hp} {H4 : Hp} {e4 : En}, Srp I.K I.mg p4 G4 σ3 H4 e4 → e4.length = e'.length := fun {p4 G4 H4 e4} S4 => by
        rw [← S4.len, hlen, S'.len]
      refine ⟨hwp, ?_⟩
      have sz : ∀ {G4 : Hp}, Same G3 G4 → Same G' G4 := fun {G4} t4 => z1.trans (t3.trans t4)
      refine ht (p.hold q (.lst av)) G3 σ3 H3 e2 _ S3 ?_
      cases zt : t e2 with
      | no => rw [zt] at w'; exact w'.elim
      | ex c fs e4 => rw [zt] at w'; exact w'.elim
      | ok b e4 =>
        rw [zt] at w'
        intro G4 H4 t4 S4
        cases b with
        | false =>
          dsimp only at w'
          rw [if_neg Bool.false_ne_true]
          obtain ⟨k1, k2, k3⟩ := (Sr.back S2 S4 (t3.trans t4) hwp (lenE S4) hno).unprotect T'.h0 T'.f
          exact ⟨_, by omega, rfl, hl, G4, _, av, ad, s'.trans (sz t4), k1, k2, k3, rav.mono (sz t4), Wp.up w' (sz t4)⟩
        | true =>
          dsimp only at w'
          rw [if_pos rfl]
          refine hi1 (p.hold q (.lst av)) G4 σ3 H4 e4 _ S4 ?_
          cases zm : mi1 e4 with
          | no => rw [zm] at w'; exact w'.elim
          | ex c fs e5 => rw [zm] at w'; exact w'.elim
          | ok ds1 e5 =>
            rw [zm] at w'
            dsimp only at w'
            intro G5 H5 t5 S5 J1 hJ1
            by_cases hl1 : ad.length + ds1.length ≤ LIM
            case neg => rw [if_neg hl1] at w'; exact w'.elim
            rw [if_pos hl1] at w'
            have s35 : Same G3 G5 := t4.trans t5
            obtain ⟨S5u, T5, h5⟩ := S5.unprotect T'.h0 T'.f
            cases zc : compF g1 t1 m vs1 ds1 ad e5 with
            | no => rw [zc] at w'; exact w'.elim
            | ex c fs e6 => rw [zc] at w'; exact w'.elim
            | ok ad' e6 =>
              rw [zc] at w'
              dsimp only at w'
              refine comp_loop (W' := W0) (k := fun l G7 H7 e7 => l = ad' ∧ e7 = e6) hg1 hgs1 ht1 he hJ1 (by omega) S5u T5 h5 (rav.mono (sz s35)) (by rw [zc]; exact fun _ _ _ _ => ⟨rfl, rfl⟩) (fun l av' G7 H7 e7 s7 S7 T7 h7 r7 kk => ?_)
              obtain ⟨rfl, rfl⟩ := kk
              have S7p := S7.protect T7 h7
              obtain ⟨k1, k2, k3⟩ := (Sr.back (p := p.hold q (.lst av')) (G := G2) (H := upd H2 q (.lst av')) (e := e') (by
                obtain ⟨S2u, T2u, h2u⟩ := S2.unprotect T'.h0 T'.f
                exact (S2u.poke T2u h2u (fun _ z => nomatch z)).protect (o := .lst av') ⟨T2u.g, T2u.h0, T2u.f, T2u.ap⟩ upd_same) S7p (t3.trans (s35.trans s7)) hwp (lenE S7) hno).unprotect T'.h0 T'.f
              exact ⟨_, by omega, rfl, hl, G7, _, av', _, s'.trans (sz (s35.trans s7)), k1, k2, k3, r7, Wp.up w' (sz (s35.trans s7))⟩
  · have ei : i = ds.length := by omega
    refine .inl ⟨st ei, ?_⟩
    rw [List.drop_eq_nil_of_le (by omega)] at w'
    have k1 := w' G' H' (Same.refl _) S' G' H' (Same.refl _) S'
    exact k1 q T'.g ⟨av, hav, rav⟩ T'.h0 T'.f T'.ap
theorem dr_comp2 {own : List (Str × Nat)} {vs1 gs gs1 : List Nat} {mi mi1 : M (List D)} {g g1 : D → M Unit} {t t1 : M Bool} {m : M D} (hi : DI I W tg iter mi) (ok : BlkOk I.N I.sc scope own) (hg : DG (I.blk scope) W0 tg g gs) (hgs : ∀ i ∈ gs, i ∈ own.map (·.2)) (ht : DTs (I.blk scope) W0 ifs t)
    (hi1 : DI (I.blk scope) W0 tg1 iter1 mi1) (hg1 : DG (I.blk scope) W0 tg1 g1 gs1) (hgs1 : ∀ i ∈ gs1, i ∈ vs1) (hv : ∀ i ∈ vs1, i ∈ own.map (·.2)) (ht1 : DTs (I.blk scope) W0 ifs1 t1) (he : DE (I.blk scope) W0 elt m)
    (hs : ∀ (env : Env) x, foldedSetIterable iter env x = pure x) (hs1 : ∀ (env : Env) x, foldedSetIterable iter1 env x = pure x) :
    DR I W (.ListComp elt [⟨tg, iter, ifs, 0⟩, ⟨tg1, iter1, ifs1, 0⟩] scope pos) (rComp2 mi g t mi1 g1 t1 m (own.map (·.2)) vs1) := by
  obtain ⟨w, i1, i2⟩ := hi
  obtain ⟨u, g1', k1⟩ := hg
  obtain ⟨tt, t1', k2⟩ := ht
  obtain ⟨w1, j1, k3⟩ := hi1
  obtain ⟨u1, g2, k4⟩ := hg1
  obtain ⟨tt1, t2, k5⟩ := ht1
  obtain ⟨te, e1, k6⟩ := he
  exact ⟨tLc2 w u tt w1 u1 tt1 te (own.map (·.2)) vs1, fun X kx => pe_lc2 kx.calm (by rw [kx.hN]; exact kx.nd) (i1 X kx) (by rw [kx.hN, kx.hsc]; exact ok) hv (fun s H C cl fp => g1' _ (okx_blk kx scope s H C cl fp)) (fun s H C cl fp => t1' _ (okx_blk kx scope s H C cl fp)) (fun s H C cl fp => j1 _ (okx_blk kx scope s H C cl fp)) (fun s H C cl fp => g2 _ (okx_blk kx scope s H C cl fp)) (fun s H C cl fp => t2 _ (okx_blk kx scope s H C cl fp)) (fun s H C cl fp => e1 _ (okx_blk kx scope s H C cl fp)) (hs X.env) hs1, comp2_sim i2 k1 hgs k2 k3 k4 hgs1 hv k5 k6⟩
variable {spos py : Pos} {y : Str}
theorem ds_setLc2F {i : Nat} {own : List (Str × Nat)} {vs1 gs gs1 : List Nat} {mi mi1 : M (List D)} {g g1 : D → M Unit} {t t1 : M Bool} {m : M D} (hy : I.N[i]? = some y) (hyl : I.sc.names.lookup y = some .local) (hk : I.sc.kind = .function) (hl : (py.line == pos.line) = true)
    (hn : (scope.names.any fun (n, k) => n == y && (k == .local || k == .cell)) = false) (hi : DI I W tg iter mi) (ok : BlkOk I.N I.sc scope own) (hg : DG (I.blk scope) W0 tg g gs) (hgs : ∀ i ∈ gs, i ∈ own.map (·.2)) (ht : DTs (I.blk scope) W0 ifs t)
    (hi1 : DI (I.blk scope) W0 tg1 iter1 mi1) (hg1 : DG (I.blk scope) W0 tg1 g1 gs1) (hgs1 : ∀ i ∈ gs1, i ∈ vs1) (hv : ∀ i ∈ vs1, i ∈ own.map (·.2)) (ht1 : DTs (I.blk scope) W0 ifs1 t1) (he : DE (I.blk scope) W0 elt m)
    (hs : ∀ (env : Env) x, foldedSetIterable iter env x = pure x) (hs1 : ∀ (env : Env) x, foldedSetIterable iter1 env x = pure x) :
    DS I W (.Assign [.Name y py] (.ListComp elt [⟨tg, iter, ifs, 0⟩, ⟨tg1, iter1, ifs1, 0⟩] scope pos) spos) (sAsg (mD (rComp2 mi g t mi1 g1 t1 m (own.map (·.2)) vs1)) (gSet i)) := by
  obtain ⟨w, i1, i2⟩ := hi
  obtain ⟨u, g1', k1⟩ := hg
  obtain ⟨tt, t1', k2⟩ := ht
  obtain ⟨w1, j1, k3⟩ := hi1
  obtain ⟨u1, g2, k4⟩ := hg1
  obtain ⟨tt1, t2, k5⟩ := ht1
  obtain ⟨te, e1, k6⟩ := he
  exact ⟨tAsg (tLc2 w u tt w1 u1 tt1 te (own.map (·.2)) vs1) (gName i), fun X kx => ps_setLc2 kx.calm (by rw [kx.hN]; exact kx.nd) (by rw [kx.hN]; exact hy) (by rw [kx.hsc]; exact hyl) (sw_true (by rw [kx.hsc]; exact hk) (by rw [kx.hsc]; exact hyl) hl hn) (i1 X kx) (by rw [kx.hN, kx.hsc]; exact ok) hv (fun s H C cl fp => g1' _ (okx_blk kx scope s H C cl fp)) (fun s H C cl fp => t1' _ (okx_blk kx scope s H C cl fp)) (fun s H C cl fp => j1 _ (okx_blk kx scope s H C cl fp)) (fun s H C cl fp => g2 _ (okx_blk kx scope s H C cl fp)) (fun s H C cl fp => t2 _ (okx_blk kx scope s H C cl fp)) (fun s H C cl fp => e1 _ (okx_blk kx scope s H C cl fp)) (hs X.env) hs1, set_simS hy (.of_r (comp2_sim i2 k1 hgs k2 k3 k4 hgs1 hv k5 k6))⟩
theorem ds_setLc2 {i : Nat} {own : List (Str × Nat)} {vs1 gs gs1 : List Nat} {mi mi1 : M (List D)} {g g1 : D → M Unit} {t t1 : M Bool} {m : M D} (hy : I.N[i]? = some y) (hyl : I.sc.names.lookup y = some .local) (hk : I.sc.kind = .function) (hl : (py.line == pos.line) = true)
    (hn : (scope.names.any fun (n, k) => n == y && (k == .local || k == .cell)) = false) (hi : DI I W tg iter mi) (ok : BlkOk I.N I.sc scope own) (hg : DG (I.blk scope) W0 tg g gs) (hgs : ∀ i ∈ gs, i ∈ own.map (·.2)) (ht : DTs (I.blk scope) W0 ifs t)
    (hi1 : DI (I.blk scope) W0 tg1 iter1 mi1) (hg1 : DG (I.blk scope) W0 tg1 g1 gs1) (hgs1 : ∀ i ∈ gs1, i ∈ vs1) (hv : ∀ i ∈ vs1, i ∈ own.map (·.2)) (ht1 : DTs (I.blk scope) W0 ifs1 t1) (he : DE (I.blk scope) W0 elt m)
    (hs : ∀ (env : Env) x, foldedSetIterable iter env x = pure x) (hs1 : ∀ (env : Env) x, foldedSetIterable iter1 env x = pure x) :
    DS I W (.Assign [.Name y py] (.ListComp elt [⟨tg, iter, ifs, 0⟩, ⟨tg1, iter1, ifs1, 0⟩] scope pos) spos) (sOwn (rComp2 mi g t mi1 g1 t1 m (own.map (·.2)) vs1) i) := by
  obtain ⟨w, i1, i2⟩ := hi
  obtain ⟨u, g1', k1⟩ := hg
  obtain ⟨tt, t1', k2⟩ := ht
  obtain ⟨w1, j1, k3⟩ := hi1
  obtain ⟨u1, g2, k4⟩ := hg1
  obtain ⟨tt1, t2, k5⟩ := ht1
  obtain ⟨te, e1, k6⟩ := he
  exact ⟨tAsg (tLc2 w u tt w1 u1 tt1 te (own.map (·.2)) vs1) (gName i), fun X kx => ps_setLc2 kx.calm (by rw [kx.hN]; exact kx.nd) (by rw [kx.hN]; exact hy) (by rw [kx.hsc]; exact hyl) (sw_true (by rw [kx.hsc]; exact hk) (by rw [kx.hsc]; exact hyl) hl hn) (i1 X kx) (by rw [kx.hN, kx.hsc]; exact ok) hv (fun s H C cl fp => g1' _ (okx_blk kx scope s H C cl fp)) (fun s H C cl fp => t1' _ (okx_blk kx scope s H C cl fp)) (fun s H C cl fp => j1 _ (okx_blk kx scope s H C cl fp)) (fun s H C cl fp => g2 _ (okx_blk kx scope s H C cl fp)) (fun s H C cl fp => t2 _ (okx_blk kx scope s H C cl fp)) (fun s H C cl fp => e1 _ (okx_blk kx scope s H C cl fp)) (hs X.env) hs1, own_sim (comp2_sim i2 k1 hgs k2 k3 k4 hgs1 hv k5 k6)⟩
end
end DL
end

section
namespace DL
open PySem PySem.Spec L2
open PyProof.Rows hiding St

/-! ### the defs of classes -/
def clsM (st : Stmt) (j : Nat) : Stmt := match st with
  | .ClassDef _ _ _ body _ _ _ _ _ _ _ => body.getD j (.Pass ⟨0, 0, 0, 0⟩)
  | _ => .Pass ⟨0, 0, 0, 0⟩
def FM (K : PySem.W.Frag) (mg : MG) (c m : String) (qual : Str) (st : Stmt) : Prop := ∃ C f fd, mg (Str.ofString c) = some (.ref C) ∧ Cls K C ∧ Meth K C (Str.ofString m) f ∧ FunD K (Str.ofString m) qual (defArgs st) (defBody st) (defScope st) [] [] f fd
def FI (K : PySem.W.Frag) (mg : MG) (c : String) (qual : Str) (st : Stmt) : Prop := ∃ C f fd, mg (Str.ofString c) = some (.ref C) ∧ Mk K C f ∧ FunD K "__init__" qual (defArgs st) (defBody st) (defScope st) [] [] f fd
section
variable {P : Program} {w : World} {K : PySem.W.Frag} {mg : MG} {base : Heap} {k : Nat} {x qual : Str} {st : Stmt} {N ps : List Str} {m : M Fl} {f : Addr} {fd : FuncData}
theorem fok_mk (F : FunD K x qual (defArgs st) (defBody st) (defScope st) [] [] f fd) (S : FnScope N ps (defScope st)) (hp : ps.length ≤ N.length)
    (hb : ∀ (kV doc pm : Value) (an : Option Addr) (cdv ct : Value) (us : List Value), us.length = ps.length → bindArgs (PySem.W.fnOf x qual (defArgs st) (defBody st) (defScope st) .none kV doc pm an cdv ct) ⟨us, []⟩ = pure (ps.zip us))
    (body : ∀ W : WX, DSs ⟨P, w, K, mg, base, N, defScope st, fun _ => true, k⟩ W (defBody st) m) : FnOk P w K mg base (L2.CX P w) (k + 1) f fd ps (spF K mg (sFun N.length ps.length m)) ∧ Binds K fd ps [] := by
  refine ⟨?_, F.bindsN hb⟩
  refine F.ok S (fun vs H Q E h => spF_len (sem := sFun N.length ps.length m) h) (fun cdv A outer s H vs Q E hr h => ?_)
  obtain ⟨t, h1, h2⟩ := body fun cls d _ H => E cls d H
  refine ⟨t, h1 _ ⟨rfl, rfl, rfl, rfl, rfl, rfl, rfl, rfl, S.nd, rfl, hr, takes_fn, passes_fn⟩, ?_⟩
  have hvl := spF_len (sem := sFun N.length ps.length m) h
  obtain ⟨ia, G, args, pre, q⟩ := h
  have hl : args.length = ps.length := pre.2.1.symm.trans hvl
  unfold sFun at q
  rw [if_pos hl] at q
  have S0 := sr_start (N := N) pre (by rw [hvl]; exact hp)
  rw [hl] at S0
  exact h2 _ _ _ _ _ _ S0 (body_ends (n := N.length) pre hl _ q)
theorem dm_of {c mn : String} (F : FM K mg c mn qual st) (S : fsB N ps (defScope st) = true) (hp : Nat.ble ps.length N.length = true)
    (hb : ∀ (kV doc pm : Value) (an : Option Addr) (cdv ct : Value) (us : List Value), us.length = ps.length → bindArgs (PySem.W.fnOf (Str.ofString mn) qual (defArgs st) (defBody st) (defScope st) .none kV doc pm an cdv ct) ⟨us, []⟩ = pure (ps.zip us))
    (body : ∀ W : WX, DSs ⟨P, w, K, mg, base, N, defScope st, fun _ => true, k⟩ W (defBody st) m) : DM P w K mg base (k + 1) c mn ps (sFun N.length ps.length m) := by
  obtain ⟨C, f, fd, F1, F2, F3, F4⟩ := F
  obtain ⟨g1, g2⟩ := fok_mk F4 (fsk S) (Nat.le_of_ble_eq_true hp) hb body
  exact ⟨C, f, fd, g1, F1, F2, F3, g2⟩
theorem dc_of {c : String} (F : FI K mg c qual st) (S : fsB N ps (defScope st) = true) (hp : Nat.ble ps.length N.length = true)
    (hb : ∀ (kV doc pm : Value) (an : Option Addr) (cdv ct : Value) (us : List Value), us.length = ps.length → bindArgs (PySem.W.fnOf "__init__" qual (defArgs st) (defBody st) (defScope st) .none kV doc pm an cdv ct) ⟨us, []⟩ = pure (ps.zip us))
    (body : ∀ W : WX, DSs ⟨P, w, K, mg, base, N, defScope st, fun _ => true, k⟩ W (defBody st) m) : DC P w K mg base (k + 1) c ps (sFun N.length ps.length m) := by
  obtain ⟨C, f, fd, F1, F2, F3⟩ := F
  obtain ⟨g1, g2⟩ := fok_mk F3 (fsk S) (Nat.le_of_ble_eq_true hp) hb body
  exact ⟨C, f, fd, g1, F1, F2, g2⟩
end
/-! ### constants of the module -/
section
variable {I : CI} {W : WX} {pos : Pos} {x : Str}
theorem pe_gv {X : Cx} {v : V} {u : Value} (hg : Gl X x) (hm : X.mg x = some u) (hr : RelV v u) (hd : (x == ("__debug__" : Str)) = false) : PE X (.Name x pos) (tC v) :=
  ⟨fun pins s σ H Q J h => ld_glob J hg hm ⟨v, H, J, hr, h⟩ hd⟩
theorem de_gint {i : Int} (h : ∃ t, I.mg x = some (.int i t)) (g : (glB I.sc x && nodbg x) = true) : DE I W (.Name x pos) (eC (.int i)) := by
  simp only [Bool.and_eq_true] at g
  obtain ⟨t, h⟩ := h
  exact ⟨tC (.int i), fun X ok => pe_gv (gl_of ok.hsc (isG_ok g.1)) (by rw [ok.hmg]; exact h) ⟨t, rfl⟩ (by have := g.2; unfold nodbg at this; simpa using this), eC_sim fun _ _ _ => .int i⟩
theorem de_gstr {z : Str} (h : ∃ t, I.mg x = some (.str z t)) (g : (glB I.sc x && nodbg x) = true) : DE I W (.Name x pos) (eC (.str z)) := by
  simp only [Bool.and_eq_true] at g
  obtain ⟨t, h⟩ := h
  exact ⟨tC (.str z), fun X ok => pe_gv (gl_of ok.hsc (isG_ok g.1)) (by rw [ok.hmg]; exact h) ⟨t, rfl⟩ (by have := g.2; unfold nodbg at this; simpa using this), eC_sim fun _ _ _ => .str z⟩
end
theorem sl_append : Slot "list" "append" "list.append" := PySem.F.slot_list_append
theorem sl_pop : Slot "list" "pop" "list.pop" := PySem.F.slot_list_pop
theorem sl_extend : Slot "list" "extend" "list.extend" := PySem.F.slot_list_extend
/-! ### a if c else b, as a test -/
def tIfM (c m n : M Bool) : M Bool := M.bnd c fun k => if k = true then m else n
section
variable {I : CI} {W : WX} {a b c : Expr} {pos : Pos}
theorem pt_ifx {X : Cx} {tc ta tb : TT} (hc : PT X c tc) (ha : PT X a ta) (hb : PT X b tb) : PT X (.IfExp c a b pos) (fun σ H Q => tc σ H fun k H1 => if k = true then ta σ H1 Q else tb σ H1 Q) := by
  refine ⟨fun pins s σ H Q J h => ?_⟩
  have e : PySem.isTrue (.IfExp c a b pos) X.env (eval (.IfExp c a b pos) X.env) = (do if ← PySem.isTrue c X.env (eval c X.env) then PySem.isTrue a X.env (eval a X.env) else PySem.isTrue b X.env (eval b X.env)) := by
    rw [PySem.isTrue]
  rw [e]
  refine wpAny_bind (thn (hc.run pins s σ H _ J h) fun k s1 ⟨H1, J1, q⟩ => ?_)
  cases k with
  | true => exact ha.run pins s1 σ H1 Q J1 q
  | false => exact hb.run pins s1 σ H1 Q J1 q
theorem dt_ifx {k m n : M Bool} (hc : DT I W c k) (ha : DT I W a m) (hb : DT I W b n) : DT I W (.IfExp c a b pos) (tIfM k m n) := by
  obtain ⟨t, h1, h2⟩ := hc
  obtain ⟨ta, a1, a2⟩ := ha
  obtain ⟨tb, b1, b2⟩ := hb
  refine ⟨_, fun X ok => pt_ifx (h1 X ok) (a1 X ok) (b1 X ok), fun p G σ H e Q S w => ?_⟩
  refine h2 p G σ H e _ S (Wp.mono (Wp.bnd w) fun d G1 H1 e1 s1 S1 w1 => ?_)
  cases d with
  | true =>
    rw [if_pos rfl] at w1 ⊢
    exact a2 p G1 σ H1 e1 _ S1 w1
  | false =>
    rw [if_neg Bool.false_ne_true] at w1 ⊢
    exact b2 p G1 σ H1 e1 _ S1 w1
end
end DL
end

section
namespace DL
open PySem PySem.Spec L2
open PyProof.Rows hiding St

/-! ### set(xs) of a list of ints -/
/-- a new empty set behind all else -/
abbrev newS (w : World) (s : Shared) : Shared := { s with heap := s.heap.push { cls := .type "set", dict := none, data := .set #[] 0 (.fresh 0 0 (!w.params.followText "set-order")) } }
section
variable {P : Program} {w : World} {A : Around} {E : Value → Shared → Prop} {s : Shared}
set_option maxHeartbeats 3200000 in
theorem call_set_lstI {l : Addr} {items : Array Value} (ns : List Int) {Q : Value → Shared → Prop} (hh : A.handled = none) (hl : s.heap.IsList l items) (hit : IntsAre items.toList ns) (hb : ns.length + 1 < scanBound)
    (h : ∀ (h' : Heap) (tk c : Nat), SetR w h' s.heap.objs.size (fun j => decide (j ∈ ns)) c → c ≤ ns.length → (∀ b o, s.heap.get? b = some o → h'.get? b = some o) → Q (.ref s.heap.objs.size) { s with heap := h', toks := tk }) :
    wpAny (model P w) A (call (.type "set") [.ref l]) Q E s := by
  have lenI : items.size = ns.length := by
    have q := IntsAre.length hit
    rw [Array.length_toList] at q
    exact q
  obtain ⟨c, tl, mro0⟩ := F.called_set.mro
  have mk0 := F.called_set.made
  have sb0 := F.called_set.sub
  refine wpAny_call (codeAny_of_tree ?_)
  show wpAny _ _ (callAny (.type "set") _) _ _ _
  refine wpAny_pure ⟨Code.quiet_builtin _ (by decide +kernel), codeAny_builtin F.entry_type_call ?_⟩
  rw [Around.under_plain (weight_type_call_type "set" [.ref l] []) rfl]
  have h1 := F.called_set.notType
  have h2 := F.called_set.canCreate
  have ct0 := F.typeCall_set_1 (.ref l)
  repeat (any_goals (first | assumption | wp_step))

  refine codeAny_mono (code_set_led1 (.ref l) (E := E) (Q₁ := fun obj s₁ => obj = .ref s.heap.objs.size ∧ s₁ = (newS w s)) ⟨rfl, rfl⟩) fun r s₁ hr => ?_
  cases r with
  | error e => exact hr
  | ok fl =>
    cases fl with
    | ret obj =>
      obtain ⟨rfl, rfl⟩ := hr
      have gS : (newS w s).heap.get? s.heap.objs.size = some { cls := .type "set", dict := none, data := .set #[] 0 (.fresh 0 0 (!w.params.followText "set-order")) } := Heap.get?_push_size _ rfl
      have tS : Shared.TypeIs (newS w s) (.ref s.heap.objs.size) "set" := ⟨_, gS, rfl⟩
      have li0 := F.called_set.init.lookup
      have bi0 := F.called_set.init.bind (.ref s.heap.objs.size)
      repeat (any_goals (first | assumption | wp_step))

      refine codeAny_mono (codeAny_call_builtin (R := wants (fun r s₂ => r = .none ∧ ∃ h' tk c, s₂ = { s with heap := h', toks := tk } ∧ SetR w h' s.heap.objs.size (fun j => decide (j ∈ ns)) c ∧ c ≤ ns.length ∧
          (∀ b o, s.heap.get? b = some o → h'.get? b = some o)) E) F.called_set.init.plain F.entry_set_init (check_set_init_1 tS ?_)) fun r₂ s₂ hr₂ => ?_
      · obtain ⟨ol, ob0, cl0, nl, dt0⟩ := hl
        obtain ⟨ocls, odict, odata, oslots⟩ := ol
        simp only at cl0 dt0
        subst cl0; subst dt0
        have ob' : (newS w s).heap.get? l = some { cls := .type "list", dict := odict, data := .seq items nl, slots := oslots } := Heap.get?_push_of_some _ ob0
        have sl0 := PySem.F.sub_list_set
        have sl1 := PySem.F.sub_list_frozenset
        have nd0 : (Value.type "list" == Value.type "dict") = false := by decide
        have isl : (newS w s).heap.IsList l items := ⟨_, ob', rfl, nl, rfl⟩
        unfold Builtin.«set.__init__» noKeywords Builtin.Frozenset.updateFrom
        generalize ePI : pyIter = PI
        wp_walk
        subst ePI

        refine wpAny_pyIter_list isl ?_
        refine wpAny_bind (wpAny_runValue ?_)
        have ltS : l < s.heap.objs.size := Heap.lt_size ob0
        have nh3 : A.in1.in1.in1.handled = none := by simp [hh]
        have sz1 : (newS w s).heap.objs.size = s.heap.objs.size + 1 := Heap.size_push ..
        have neI : l ≠ (newS w s).heap.objs.size := by
          rw [Heap.size_push]; exact Nat.ne_of_lt (Nat.lt_succ_of_lt ltS)
        have nSf : s.heap.objs.size ∉ [(newS w s).heap.objs.size, l] := by
          rw [Heap.size_push]; simp only [List.mem_cons, List.mem_singleton, List.not_mem_nil, or_false, not_or]
          exact ⟨Nat.ne_of_lt (Nat.lt_succ_self _), Nat.ne_of_gt ltS⟩
        have vals : ∀ (i : Nat) (v : Value), items[i]? = some v → ∃ k t, ns[i]? = some k ∧ v = .int k t := fun i v hv => by
          have hi : i < ns.length := by rw [← lenI]; exact (Array.getElem?_eq_some_iff.mp hv).1
          obtain ⟨t, e⟩ := PyProof.Rows.IntsAre.int_at hit i v (by rw [Array.getElem?_toList]; exact hv)
          refine ⟨ns[i], t, List.getElem?_eq_getElem hi, ?_⟩
          rw [e, List.getD_eq_getElem?_getD, List.getElem?_eq_getElem hi] <;> rfl
        refine set_update_ints ((Walks.list nh3 _ l neI items).toS) s.heap.objs.size
          nSf ns lenI hb vals (items.size - 0) 0 _ (by omega) (Nat.zero_le _)
          ⟨⟨_, Heap.get?_push_size _ rfl, rfl, rfl⟩, (isl.push _)⟩ ?hS0 ?hR
        case hS0 =>
          have got : ((newS w s).heap.push { cls := .type "list_iterator", data := .fields #[.ref l, .int 0 0] }).get? s.heap.objs.size
              = some { cls := .type "set", dict := none, data := .set #[] 0 (.fresh 0 0 (!w.params.followText "set-order")) } := Heap.get?_push_of_some _ gS
          exact ⟨0, Nat.le_refl 0, setR_new_at got⟩
        case hR =>
          intro s' c' hm cl' hS'
          obtain ⟨h', g2, d', tk', os'⟩ := s'
          have eg : g2 = s.gens := hm.gens
          have ed : d' = s.drawn := hm.drawn
          have eo : os' = s.os := hm.os
          subst eg; subst ed; subst eo
          show wpAny _ _ _ _ _ _
          refine wpAny_pure ?_
          show wpAny _ _ (ret Value.none) _ _ _
          rw [lenI] at cl'
          refine wpAny_pure ⟨rfl, h', tk', c', rfl, hS', cl', fun b o e => ?_⟩
          have lb0 : b < s.heap.objs.size := Heap.lt_size e
          have lb1 : b ≠ s.heap.objs.size := Nat.ne_of_lt lb0
          have lb2 : b ≠ (newS w s).heap.objs.size := by
            rw [Heap.size_push]; exact Nat.ne_of_lt (Nat.lt_succ_of_lt lb0)
          exact hm.heap b o (by simp only [List.mem_cons, List.mem_singleton, List.not_mem_nil, or_false, not_or]; exact ⟨lb1, lb2⟩) (Heap.get?_push_of_some _ (Heap.get?_push_of_some _ e))

      · cases r₂ with
        | error e => exact hr₂
        | ok fl₂ =>
          cases fl₂ with
          | ret r =>
            obtain ⟨rfl, h', tk, c', rfl, hS', cl', hk'⟩ := hr₂
            repeat (any_goals (first | assumption | wp_step))
            exact h _ _ _ hS' cl' hk'
          | _ => exact hr₂.elim
    | _ => exact hr.elim

end
def rSetLst (K : PySem.W.Frag) (w : World) : List V → Hp → VK → Prop := fun xs H Q => ∃ (l : Addr) (ns : List Int), xs = [V.ref l] ∧ SqL K H l (ns.map V.int) ∧ ns.length ≤ 1000 ∧ ∀ p c, H p = none → c ≤ ns.length → Q (.ref p) (upd H p (SetO w p (fun j => decide (j ∈ ns)) c))
theorem cr_setLst {X : Cx} (hc : X.calm = true) : CallR X (.type "set") (rSetLst X.K X.w) := by
  intro pins s σ H xs us Q J r h
  obtain ⟨l, ns, rfl, hq, hl, q⟩ := h
  rw [Vals.ref1 r]
  obtain ⟨its, rv, pl, hz⟩ := J.list hq
  have hi : IntsAre its.toArray.toList ns := ints_of_vals rv
  have hd := J.ok.hd hc
  refine call_set_lstI ns hd pl.isList hi (by unfold scanBound; omega) fun h' tk c R1 hcn k => ?_
  have hn : H s.heap.objs.size = none := J.hok.fresh (Nat.le_refl _)
  exact ⟨.ref _, upd H s.heap.objs.size (SetO X.w s.heap.objs.size (fun j => decide (j ∈ ns)) c), J.laid (t' := tk) k (Nat.le_refl _) (setO_new R1), rfl, q _ c hn hcn⟩
end DL
end

section
namespace DL
open PySem PySem.Spec L2
open PyProof.Rows hiding St

/-! ### sorted(set(xs)) of ints -/
/-- neighbours that are the same, once -/
def uniq : List Int → List Int
  | [] => []
  | x :: l => match uniq l with
    | [] => [x]
    | y :: r => if x = y then y :: r else x :: y :: r
theorem uniq_mem : ∀ (l : List Int) (k : Int), k ∈ uniq l ↔ k ∈ l
  | [], k => by simp [uniq]
  | x :: l, k => by
    have ih := uniq_mem l k
    unfold uniq
    cases h : uniq l with
    | nil =>
      rw [h] at ih
      have : ¬ k ∈ l := fun z => by have := ih.mpr z; cases this
      simp [this]
    | cons y r =>
      rw [h] at ih
      dsimp only
      split
      · rename_i e
        subst e
        rw [List.mem_cons (a := k) (b := x) (l := l), ← ih]
        simp
      · rw [List.mem_cons, ih, List.mem_cons]
theorem uniq_sorted : ∀ {l : List Int}, l.Pairwise (· ≤ ·) → (uniq l).Pairwise (· < ·)
  | [], _ => by simp [uniq]
  | x :: l, h => by
    rw [List.pairwise_cons] at h
    have ih := uniq_sorted h.2
    have mem := uniq_mem l
    unfold uniq
    cases e : uniq l with
    | nil => simp
    | cons y r =>
      rw [e] at ih mem
      dsimp only
      split
      · exact ih
      · rename_i ne
        rw [List.pairwise_cons]
        refine ⟨fun z hz => ?_, ih⟩
        have hy : x ≤ y := h.1 y ((mem y).mp List.mem_cons_self)
        have hxy : x < y := by omega
        rcases List.mem_cons.mp hz with rfl | hz
        · exact hxy
        · rw [List.pairwise_cons] at ih
          have := ih.1 z hz
          omega
theorem lt_uniq : ∀ {a b : List Int}, a.Pairwise (· < ·) → b.Pairwise (· < ·) → (∀ k, k ∈ a ↔ k ∈ b) → a = b
  | [], [], _, _, _ => rfl
  | [], y :: b, _, _, h => by have := (h y).mpr List.mem_cons_self; cases this
  | x :: a, [], _, _, h => by have := (h x).mp List.mem_cons_self; cases this
  | x :: a, y :: b, ha, hb, h => by
    rw [List.pairwise_cons] at ha hb
    have e : x = y := by
      rcases List.mem_cons.mp ((h x).mp List.mem_cons_self) with e | e
      · exact e
      · rcases List.mem_cons.mp ((h y).mpr List.mem_cons_self) with e2 | e2
        · exact e2.symm
        · have h1 := hb.1 x e
          have h2 := ha.1 y e2
          omega
    subst e
    congr 1
    refine lt_uniq ha.2 hb.2 fun k => ?_
    constructor
    · intro hk
      rcases List.mem_cons.mp ((h k).mp (List.mem_cons_of_mem _ hk)) with e | e
      · subst e
        have := ha.1 k hk
        omega
      · exact e
    · intro hk
      rcases List.mem_cons.mp ((h k).mpr (List.mem_cons_of_mem _ hk)) with e | e
      · subst e
        have := hb.1 k hk
        omega
      · exact e
def sortU (ns : List Int) : List Int := uniq (sortI ns)
theorem sortI_perm (ns : List Int) : (sortI ns).Perm ns := List.mergeSort_perm ns _
theorem sortI_sorted (ns : List Int) : (sortI ns).Pairwise (· ≤ ·) :=
  (List.pairwise_mergeSort (fun a b c h1 h2 => by simp at *; omega) (fun a b => by simp; omega) ns).imp fun h => of_decide_eq_true h
theorem sortU_mem (ns : List Int) (k : Int) : k ∈ sortU ns ↔ k ∈ ns := by
  unfold sortU
  rw [uniq_mem]
  exact (sortI_perm ns).mem_iff
theorem sortU_sorted (ns : List Int) : (sortU ns).Pairwise (· < ·) := uniq_sorted (sortI_sorted ns)
def gSortSet := gInts fun ns => if ns.length ≤ 60 then some (.ow (.l (intsU (sortU ns)))) else none
where intsU (ns : List Int) : List D := ns.map .int
section
variable {I : CI} {W : WX} {a : Expr} {pos p0 p1 p2 : Pos} {m : M D}
def rSortSet (m : M D) : M Ret := M.bnd m fun d => lift (gSortSet d)
theorem c_sortedSet (B : Bs I.mg) (g : glB I.sc "sorted" = true) (g' : glB I.sc "set" = true) (h : DE I W a m) (n0 : nst a = true) : DR I W (.Call (.Name "sorted" p0) [.Call (.Name "set" p1) [a] [] p2] [] pos) (rSortSet m) := by
  obtain ⟨t, h1, h2⟩ := h
  refine ⟨tCB (rSortedSet I.w) (tCons (tCB (rSetLst I.K I.w) (tCons t tNil)) tNil), fun X ok => ?_, fun p G σ H e Q S w => ?_⟩
  · refine pe_callB (by have := cr_sortedSet (X := X) ok.calm; rw [ok.hw] at this; exact this) (gl_of ok.hsc (isG_ok g)) (by rw [ok.hmg]; exact B _ (by simp [bnames])) (by decide +kernel) (pa_cons ?_ pa_nil rfl) (by decide) (by decide) rfl rfl
    exact pe_callTy (by have := cr_setLst (X := X) ok.calm; rw [ok.hK, ok.hw] at this; exact this) (gl_of ok.hsc (isG_ok g')) (by rw [ok.hmg]; exact B _ (by simp [bnames])) (by decide +kernel) (pa_cons (h1 X ok) pa_nil (star_of n0 _ _)) (by decide) (by decide) (star_of n0 _ _) rfl
  · refine h2 p G σ H e _ S (Wp.mono (Wp.bnd w) fun d G1 H1 e1 s1 S1 w1 v r => ?_)
    obtain ⟨res, hf, k⟩ := lift_wp w1
    unfold gSortSet at hf
    obtain ⟨q, ns, rfl, hs, hg⟩ := rep_ints r S1.sub hf
    by_cases hl : ns.length ≤ 60
    · rw [if_pos hl] at hg
      cases hg
      refine ⟨q, ns, rfl, hs, by omega, fun x c hx hc => ?_⟩
      obtain ⟨s2, S2⟩ := S1.laid (o := SetO I.w x (fun j => decide (j ∈ ns)) c) hx
      refine ⟨x, _, c, rfl, upd_same, by omega, fun ns' y h3 h4 h5 hy => ?_⟩
      have e : ns' = sortU ns := lt_uniq h3 (sortU_sorted ns) fun j => by rw [h4, sortU_mem, decide_eq_true_eq]
      subst e
      obtain ⟨S4, gn, h0, hF, ap⟩ := S2.laidOw (o := .lst ((sortU ns).map V.int)) hy
      exact k _ _ s2 S4 y gn ⟨_, upd_same, reps_ints _⟩ h0 hF ap
    · rw [if_neg hl] at hg; cases hg
end
end DL
end

section
namespace DL
open PySem PySem.Spec L2
open PyProof.Rows hiding St
open StX

/-! ### displays with stars -/
def DQ (I : CI) (W : WX) (es : List Expr) (m : M (List Ar)) : Prop := ∃ t, (∀ X, Okx I W X → PA X es t) ∧ SimP I W t m
def aStar (m : M D) (mr : M (List Ar)) : M (List Ar) := M.bnd m fun d => M.bnd (lift (seqL d)) fun l => M.bnd mr fun r => M.ret (l.map .d ++ r)
section
variable {I : CI} {W : WX} {a : Expr} {es : List Expr} {pos p0 : Pos}
theorem dq_nil : DQ I W [] aNil := let ⟨_, t, h⟩ := (dp_nil : DP I W [] aNil); ⟨t, h⟩
theorem dq_cons {ma : M Ar} {mr : M (List Ar)} (ha : DO I W a ma) (hr : DQ I W es mr) : DQ I W (a :: es) (aCons ma mr) := by
  obtain ⟨n, t, h1, h2⟩ := ha
  obtain ⟨u, h3, h4⟩ := hr
  refine ⟨tCons t u, fun X ok => pa_cons (h1 X ok) (h3 X ok) (star_of n _ _), fun p G σ H e Q S w => ?_⟩
  refine h2 p G σ H e _ S (Wp.mono (Wp.bnd w) fun d G1 H1 e1 s1 S1 w1 v r => ?_)
  refine h4 p G1 σ H1 e1 _ S1 (Wp.mono (Wp.bnd w1) fun as G2 H2 e2 s2 S2 w2 vs rs => ?_)
  refine w2 G2 H2 (Same.refl _) S2 (v :: vs) ⟨by simp [rs.1], fun j v' a' q1 q2 => ?_⟩
  cases j with
  | zero => simp at q1 q2; subst q1 q2; exact r.mono s2
  | succ j => exact rs.2 j v' a' (by simpa using q1) (by simpa using q2)
theorem ars_d {K : PySem.W.Frag} {mg : MG} {G : Hp} {σ : L2.St} {vs : List V} {l : List D} (r : Reps K mg G vs l) : ArsOk K mg G σ vs (l.map .d) := by
  refine ⟨by simp [r.1], fun j v a h1 h2 => ?_⟩
  rw [List.getElem?_map] at h2
  cases q : l[j]? with
  | none => rw [q] at h2; cases h2
  | some d =>
    rw [q] at h2
    cases h2
    exact r.2 j v d h1 q
theorem dq_star {m : M D} {mr : M (List Ar)} (h : DE I W a m) (hr : DQ I W es mr) : DQ I W (.Starred a p0 :: es) (aStar m mr) := by
  obtain ⟨t, h1, h2⟩ := h
  obtain ⟨u, h3, h4⟩ := hr
  refine ⟨tStar I.K t u, fun X ok => by have := pa_star (p := p0) (h1 X ok) (h3 X ok); rw [ok.hK] at this; exact this, fun p G σ H e Q S w => ?_⟩
  refine h2 p G σ H e _ S (Wp.mono (Wp.bnd w) fun d G1 H1 e1 s1 S1 w1 v r => ?_)
  obtain ⟨l, hl, k⟩ := lift_wp (Wp.bnd w1)
  have w2 := k G1 H1 (Same.refl _) S1
  have go : ∀ vs, Reps I.K I.mg G1 vs l → u σ H1 fun ys H2 => Q (vs ++ ys) H2 := fun vs rv =>
    h4 p G1 σ H1 e1 _ S1 (Wp.mono (Wp.bnd w2) fun as G2 H2 e2 s2 S2 w3 ys rs => w3 G2 H2 (Same.refl _) S2 _ ((ars_d (rv.mono s2)).app rs))
  cases r <;> first | cases hl | skip
  · rename_i b vs g1 g2 g3
    exact ⟨b, vs, rfl, .inl (Same.seqT S1.sub g1), go vs ⟨g2, g3⟩⟩
  · rename_i b vs g1 g2 g3
    exact ⟨b, vs, rfl, .inr (LsT.sq (Same.ls S1.sub g1)), go vs ⟨g2, g3⟩⟩
theorem de_tupQ {m : M (List Ar)} {k} (h : DQ I W es m) : DE I W (.Tuple es k pos) (eTup m) := by
  obtain ⟨t, h1, h2⟩ := h
  refine ⟨_, fun X ok => pe_tup (h1 X ok), fun p G σ H e Q S w => ?_⟩
  refine simA_of h2 p G σ H e _ S (Wp.mono (Wp.bnd w) fun ds G1 H1 e1 s1 S1 w1 vs r => ?_)
  have ll := lim_line
  split at w1
  · refine ⟨by rw [r.1]; omega, fun q n => ?_⟩
    obtain ⟨s2, S2⟩ := S1.laid (o := .tup vs) n
    exact w1 _ _ s2 S2 _ (.mk_tup (.of upd_same) (r.mono s2))
  · exact w1.elim
end
end DL
end

section
namespace DL
open PySem PySem.Spec L2
open PyProof.Rows hiding St

/-! ### len(set(xs)), xs tuples of ints -/
def asTups : List D → Option (List (List Int))
  | [] => some []
  | .tup l :: r => (asInts l).bind fun ns => (asTups r).map (ns :: ·)
  | _ :: _ => none
/-- how many different ones -/
def nub : List (List Int) → List (List Int)
  | [] => []
  | x :: l => if x ∈ nub l then nub l else x :: nub l
theorem nub_ok : ∀ l : List (List Int), (nub l).Nodup ∧ ∀ z, z ∈ nub l ↔ z ∈ l
  | [] => by simp [nub]
  | x :: l => by
    obtain ⟨h1, h2⟩ := nub_ok l
    unfold nub
    split
    · rename_i h
      refine ⟨h1, fun z => ?_⟩
      rw [h2, List.mem_cons]
      constructor
      · exact .inr
      · rintro (rfl | hz)
        · exact (h2 _).mp h
        · exact hz
    · rename_i h
      refine ⟨List.nodup_cons.mpr ⟨h, h1⟩, fun z => ?_⟩
      rw [List.mem_cons, List.mem_cons, h2]
def distinct (l : List (List Int)) : Nat := (nub l).length
theorem nodup_same_len {α : Type} [DecidableEq α] {a b : List α} (ha : a.Nodup) (hb : b.Nodup) (h : ∀ x, x ∈ a ↔ x ∈ b) : a.length = b.length :=
  ((List.perm_ext_iff_of_nodup ha hb).mpr h).length_eq
def tLenSetT (K : PySem.W.Frag) (ta : TE) : TE := fun σ H Q => ta σ H fun x H1 => ∃ (l : Addr) (ks : List (Addr × List Int)), x = V.ref l ∧ SqL K H1 l (ks.map fun p => V.ref p.1) ∧ (∀ p ∈ ks, SqT K H1 p.1 (p.2.map V.int)) ∧ ks.length < 64 ∧ ∀ n : Nat, (∀ m : List (List Int), m.Nodup → (∀ z, z ∈ m ↔ z ∈ ks.map (·.2)) → m.length = n) → Q (.int n) H1
theorem pe_lenSetT {X : Cx} {a : Expr} {ta : TE} {p p2 q pos : Pos} (hc : X.calm = true) (hu : X.A.units + 64 < cLine) (hg : Gl X "len") (hm : X.mg "len" = none) (hg2 : Gl X "set") (hm2 : X.mg "set" = none) (ha : PE X a ta)
    (na : starEach [a] X.env = (false, eval a X.env) :: starEach [] X.env) : PE X (.Call (.Name "len" p) [.Call (.Name "set" p2) [a] [] q] [] pos) (tLenSetT X.K ta) := by
  refine ⟨fun pins s σ H Q J h => ?_⟩
  refine Call_ (ld_blt J hg hm PySem.boot_len ?_)
  refine PyProof.Rows.callWith_builtin1 (PyProof.Rows.args_cons ?_ rfl) rfl rfl
  refine Call_ (ld_blt J hg2 hm2 PyProof.Rows.boot_set ?_)
  refine PyProof.Rows.callWith_type1 (PyProof.Rows.args_cons (thn (ha.run pins s σ H _ J h) fun v s1 ⟨x, H1, J1, r1, q1⟩ => PyProof.Rows.args_nil ?_) na) na rfl
  obtain ⟨l, ks, rfl, hl, hk, hf, q1⟩ := q1
  cases r1
  obtain ⟨us, rv, pl, hz⟩ := J1.list hl
  refine call_set_tups (P := X.prog) (w := X.w) ks (J1.ok.hd hc) pl.isList (by simpa using refs_of_vals rv) (fun p hp => J1.isT (hk p hp)) hf (by omega) fun h' tk L es ep t R g k => ?_
  refine PyProof.Rows.args_nil ?_
  obtain ⟨o, ho, hex, hd⟩ := R.ob
  have J2 : Inv X pins σ H1 { s1 with heap := h', toks := tk } := J1.kept k
  have e : es.size = L.length := R.size (s := { s1 with heap := h' })
  refine call_len_set ho hex hd (R.fits (s := { s1 with heap := h' })) (by rw [e]; have := R.few; omega) ⟨.int L.length, H1, J2.tok _, ⟨_, by rw [e]⟩, q1 _ fun m hm hz => ?_⟩
  have hL := R.nd
  rw [show L.length = (L.map (·.2)).length by simp]
  refine nodup_same_len hm hL fun z => ?_
  rw [hz]
  constructor
  · intro h1
    obtain ⟨p, hp, rfl⟩ := List.mem_map.mp h1
    exact g.all p (by rw [List.take_length]; exact hp)
  · intro h1
    obtain ⟨p, hp, rfl⟩ := List.mem_map.mp h1
    exact List.mem_map.mpr ⟨p, List.mem_of_mem_take (g.sub p hp), rfl⟩
/-- tuples of ints, where they stand -/
theorem tups_of {K : PySem.W.Frag} {mg : MG} {G H : Hp} (s : Same G H) : ∀ {l : List D} {vs : List V} {ms : List (List Int)}, Reps K mg G vs l → asTups l = some ms → ∃ ks : List (Addr × List Int), vs = ks.map (fun p => V.ref p.1) ∧ ks.map (·.2) = ms ∧ ∀ p ∈ ks, SqT K H p.1 (p.2.map V.int)
  | [], vs, ms, r, h => by
    cases h
    have := r.1
    cases vs with
    | nil => exact ⟨[], rfl, rfl, fun _ h => by cases h⟩
    | cons _ _ => simp at this
  | d :: l, vs, ms, r, h => by
    obtain ⟨v, vr, rfl, h1, h2⟩ := r.uncons
    cases d <;> first | cases h | skip
    rename_i t
    unfold asTups at h
    cases e1 : asInts t with
    | none => rw [e1] at h; cases h
    | some ns =>
      cases e2 : asTups l with
      | none => rw [e1, e2] at h; cases h
      | some ms' =>
        rw [e1, e2] at h
        have hm : ns :: ms' = ms := Option.some.inj h
        subst hm
        obtain ⟨ks, k1, k2, k3⟩ := tups_of s h2 e2
        obtain ⟨q, ws, rfl, g1, g2⟩ := h1.ref_tup
        have ew := ints_of g2 e1
        subst ew
        exact ⟨(q, ns) :: ks, by rw [k1]; rfl, by rw [List.map_cons, k2], fun p hp => by
          rcases List.mem_cons.mp hp with rfl | hp
          · exact Same.seqT s g1
          · exact k3 p hp⟩
def gLenSet : D → Option D
  | .lst l => (asTups l).bind fun ms => if ms.length < 64 then some (.int (distinct ms : Nat)) else none
  | _ => none
def eLenSet (m : M D) : M D := M.bnd m fun d => lift (gLenSet d)
theorem c_lenSetT {I : CI} {W : WX} {a : Expr} {pos p0 p1 p2 : Pos} {m : M D} (B : Bs I.mg) (g : glB I.sc "len" = true) (g' : glB I.sc "set" = true) (h : DE I W a m) (n0 : nst a = true) : DE I W (.Call (.Name "len" p0) [.Call (.Name "set" p1) [a] [] p2] [] pos) (eLenSet m) := by
  obtain ⟨t, h1, h2⟩ := h
  refine ⟨tLenSetT I.K t, fun X ok => ?_, fun p G σ H e Q S w => ?_⟩
  · have := pe_lenSetT (p := p0) (p2 := p1) (q := p2) (pos := pos) ok.calm (by have := ok.room.units; omega) (gl_of ok.hsc (isG_ok g)) (by rw [ok.hmg]; exact B _ (by simp [bnames])) (gl_of ok.hsc (isG_ok g')) (by rw [ok.hmg]; exact B _ (by simp [bnames])) (h1 X ok) (star_of n0 _ _)
    rw [ok.hK] at this
    exact this
  · refine h2 p G σ H e _ S (Wp.mono (Wp.bnd w) fun d G1 H1 e1 s1 S1 w1 v r => ?_)
    obtain ⟨res, hf, k⟩ := lift_wp w1
    cases r <;> first | cases hf | skip
    rename_i q vs l g1 g2 g3
    unfold gLenSet at hf
    dsimp only at hf
    cases em : asTups l with
    | none => rw [em] at hf; cases hf
    | some ms =>
      rw [em] at hf
      change (if ms.length < 64 then some (D.int (distinct ms : Nat)) else none) = some res at hf
      by_cases hl : ms.length < 64
      · rw [if_pos hl] at hf
        cases hf
        obtain ⟨ks, k1, k2, k3⟩ := tups_of S1.sub ⟨g2, g3⟩ em
        subst k1
        have hk : ks.length = ms.length := by rw [← k2]; simp
        refine ⟨q, ks, rfl, LsT.sq (Same.ls S1.sub g1), k3, by omega, fun n hn => ?_⟩
        have e0 := hn (nub ms) (nub_ok ms).1 fun z => by rw [k2]; exact (nub_ok ms).2 z
        have e1 : n = distinct ms := e0.symm
        subst e1
        exact k G1 H1 (Same.refl _) S1 _ (.int _)
      · rw [if_neg hl] at hf; cases hf
end DL
end

section
namespace DL
open PySem PySem.Spec L2
open PyProof.Rows hiding St

section
variable {I : CI} {W : WX} {a b : Expr} {pos p0 p1 : Pos} {x y : Str}
/-! ### x, y = a, b where the names own what is new -/
def sParO (ma mb : M Ret) (i j : Nat) : M Fl := M.bnd ma fun r => match r with
  | .ow (.o _ _) => fun _ => .no
  | r => M.bnd mb fun r' => match r' with
    | .ow (.o _ _) => fun _ => .no
    | r' => sSeq (gOwn i r) (gOwn j r')
/-- what is at hand -/
def Hand (K : PySem.W.Frag) (mg : MG) (p : Pm) (G H : Hp) (σ : L2.St) (e : En) (v : V) (r : Ret) : Prop := (∃ d, r = .sh d ∧ Rep K mg G v d) ∨ ∃ l q, r = .ow (.l l) ∧ v = .ref q ∧ Tmp p G σ e q ∧ CtR K mg G H q (.l l)
theorem own_step {p : Pm} {G H : Hp} {σ : L2.St} {e : En} {i : Nat} {r : Ret} {k : M Fl} {E : Ends} {v : V} (S : Srp I.K I.mg p G σ H e) (hr : Hand I.K I.mg p G H σ e v r) (w : Ws I.K I.mg W p G (sSeq (gOwn i r) k e) E) :
    ∃ s, Srp I.K I.mg p G (σ.set i (some v)) H (e.set i s) ∧ Ws I.K I.mg W p G (k (e.set i s)) E ∧ ∀ d, r = .sh d → s = .sh d := by
  unfold sSeq M.bnd gOwn at w
  cases q : e[i]? with
  | none => rw [q] at w; exact w.elim
  | some s0 =>
    have hi := (List.getElem?_eq_some_iff.mp q).1
    rw [q] at w
    have nio : (∀ y, s0 ≠ .io y) → ∀ y, e[i]? ≠ some (.io y) := fun h y z => by rw [q] at z; cases z; exact h y rfl
    rcases hr with ⟨d, rfl, rv⟩ | ⟨l, q0, rfl, rfl, T, c⟩
    · cases s0 with
      | io _ => exact w.elim
      | no => exact ⟨_, S.setSh rv hi (nio fun _ z => nomatch z), w, fun _ h => by cases h; rfl⟩
      | sh _ => exact ⟨_, S.setSh rv hi (nio fun _ z => nomatch z), w, fun _ h => by cases h; rfl⟩
      | ow _ => exact ⟨_, S.setSh rv hi (nio fun _ z => nomatch z), w, fun _ h => by cases h; rfl⟩
    · cases s0 with
      | io _ => exact w.elim
      | no => exact ⟨_, S.setOw T.g c T.h0 T.f T.ap hi (nio fun _ z => nomatch z), w, fun _ h => by cases h⟩
      | sh _ => exact ⟨_, S.setOw T.g c T.h0 T.f T.ap hi (nio fun _ z => nomatch z), w, fun _ h => by cases h⟩
      | ow _ => exact ⟨_, S.setOw T.g c T.h0 T.f T.ap hi (nio fun _ z => nomatch z), w, fun _ h => by cases h⟩
theorem seq_nil {m : M Fl} {p : Pm} {G : Hp} {e : En} {E : Ends} (w : Ws I.K I.mg W p G (m e) E) : Ws I.K I.mg W p G (sSeq m sNil e) E := by
  unfold sSeq M.bnd
  cases z : m e with
  | no => rw [z] at w; exact w
  | ex c fs e' => rw [z] at w; exact w
  | ok fl e' =>
    rw [z] at w
    cases fl <;> exact w
theorem par_end {p : Pm} {G H : Hp} {σ : L2.St} {e : En} {i j : Nat} {r r' : Ret} {E : Ends} {v v' : V} (S : Srp I.K I.mg p G σ H e) (h1 : Hand I.K I.mg p G H σ e v r) (h2 : Hand I.K I.mg p G H σ e v' r') (ne : (∃ d, r' = .sh d) ∨ (∃ d, r = .sh d) ∨ v ≠ v') (hij : i ≠ j)
    (w : Ws I.K I.mg W p G (sSeq (gOwn i r) (gOwn j r') e) E) : E.nx ((σ.set i (some v)).set j (some v')) H := by
  obtain ⟨s, S1, w1, hsh⟩ := own_step S h1 w
  have h2' : Hand I.K I.mg p G H (σ.set i (some v)) (e.set i s) v' r' := by
    rcases h2 with h | ⟨l, q, hr, hv, T, c⟩
    · exact .inl h
    · refine .inr ⟨l, q, hr, hv, ⟨T.g, T.h0, T.f, fun k t z q1 q2 q3 => ?_⟩, c⟩
      by_cases hk : i = k
      · subst hk
        have hlen : i < σ.length := by
          by_cases hh : i < σ.length
          · exact hh
          · rw [List.getElem?_eq_none (by simpa using hh)] at q3; cases q3
        rw [List.getElem?_set_self hlen] at q3
        cases q3
        rcases ne with ⟨d, hd⟩ | ⟨d, hd⟩ | hne
        · rw [hr] at hd; cases hd
        · have es := hsh d hd
          subst es
          have hie : i < e.length := by rw [← S.len]; exact hlen
          rw [List.getElem?_set_self hie] at q1
          cases q1
          cases q2
        · exact hne hv.symm
      · rw [List.getElem?_set_ne hk] at q1 q3
        exact T.ap k t z q1 q2 q3
  obtain ⟨s', S2, w2, _⟩ := own_step (k := sNil) S1 h2' (seq_nil w1)
  exact w2 G _ H (Same.refl _) S2
theorem ds_parO {i j : Nat} {ma mb : M Ret} {k k2} {pt pt2 : Pos} (hi : I.N[i]? = some x) (hj : I.N[j]? = some y) (hij : i ≠ j) (hx : I.sc.names.lookup x = some .local) (hy : I.sc.names.lookup y = some .local) (ha : DR I W a ma) (hb : DR I W b mb) (na : nst a = true) (nb : nst b = true)
    (hw : ∀ env : Env, env.scope = I.sc → swappedStores [.Tuple [.Name x p0, .Name y p1] k pt] (.Tuple [a, b] k2 pt2) env = pure (some [x, y]))
    (hs : ∀ env : Env, swapsWithSole [.Tuple [.Name x p0, .Name y p1] k pt] (.Tuple [a, b] k2 pt2) pos.line env = pure false) :
    DS I W (.Assign [.Tuple [.Name x p0, .Name y p1] k pt] (.Tuple [a, b] k2 pt2) pos) (sParO ma mb i j) := by
  obtain ⟨ta, a1, a2⟩ := ha
  obtain ⟨tb, b1, b2⟩ := hb
  refine ⟨tPar i j (tCons ta (tCons tb tNil)), fun X ok => ps_par ok.calm (by rw [ok.hN]; exact ok.nd) (by rw [ok.hN]; exact hi) (by rw [ok.hN]; exact hj) hij (by rw [ok.hsc]; exact hx) (by rw [ok.hsc]; exact hy) (pa_cons (a1 X ok) (pa_cons (b1 X ok) pa_nil (star_of nb _ _)) (star_of na _ _)) (hw X.env ok.hsc) (hs X.env), fun p G σ H e E S w => ?_⟩
  refine a2 p G σ H e _ S (Wp.mono (Ws.bnd w) fun r G1 H1 e1 s1 S1 w1 => ?_)
  cases r with
  | sh d =>
    intro v rv
    refine b2 p G1 σ H1 e1 _ S1 (Wp.mono (Ws.bnd w1) fun r' G2 H2 e2 s2 S2 w2 => ?_)
    cases r' with
    | sh d' =>
      intro v' rv'
      exact ⟨v, v', rfl, par_end S2 (.inl ⟨d, rfl, rv.mono s2⟩) (.inl ⟨d', rfl, rv'⟩) (.inl ⟨d', rfl⟩) hij w2⟩
    | ow z =>
      cases z with
      | o _ _ => intro q _ _ _ _ _; exact w2.elim
      | l l =>
        intro q gq c h0 hF ap
        exact ⟨v, .ref q, rfl, par_end S2 (.inl ⟨d, rfl, rv.mono s2⟩) (.inr ⟨l, q, rfl, rfl, ⟨gq, h0, hF, ap⟩, c⟩) (.inr (.inl ⟨d, rfl⟩)) hij w2⟩
  | ow z =>
    cases z with
    | o _ _ => intro q _ _ _ _ _; exact w1.elim
    | l l =>
      intro q gq c h0 hF ap
      obtain ⟨vs, hq, rq⟩ := c
      have T1 : Tmp p G1 σ e1 q := ⟨gq, h0, hF, ap⟩
      have SP := S1.protect T1 hq
      refine b2 (p.hold q (.lst vs)) G1 σ H1 e1 _ SP ?_
      have w1' : Ws I.K I.mg W p G1 (M.bnd mb (fun r' => match r' with
        | .ow (.o _ _) => fun _ => R.no
        | r' => sSeq (gOwn i (.ow (.l l))) (gOwn j r')) e1) E := w1
      unfold M.bnd at w1'
      cases zb : mb e1 with
      | no => rw [zb] at w1'; exact w1'.elim
      | ex cc fs e2 =>
        rw [zb] at w1'
        intro G2 H2 C d s2 S2 hC hX
        exact w1' G2 σ H2 C d s2 (S2.unprotect h0 hF).1 hC hX
      | ok r' e2 =>
        rw [zb] at w1'
        dsimp only at w1'
        intro G2 H2 s2 S2
        obtain ⟨S2u, T2, hq2⟩ := S2.unprotect h0 hF
        have hand1 : Hand I.K I.mg p G2 H2 σ e2 (.ref q) (.ow (.l l)) := .inr ⟨l, q, rfl, rfl, T2, vs, hq2, rq.mono s2⟩
        cases r' with
        | sh d' =>
          intro v' rv'
          exact ⟨.ref q, v', rfl, par_end S2u hand1 (.inl ⟨d', rfl, rv'⟩) (.inl ⟨d', rfl⟩) hij (Ws.up w1' s2)⟩
        | ow z' =>
          cases z' with
          | o _ _ => exact w1'.elim
          | l l' =>
            intro q' gq' c' h0' hF' ap'
            have hne : q ≠ q' := fun z => by
              subst z
              have h3 : upd p.F q (.lst vs) q = none := hF'
              rw [upd_same] at h3
              cases h3
            have hF2 : p.F q' = none := by
              have h3 : upd p.F q (.lst vs) q' = none := hF'
              rwa [upd_ne (fun z => hne z.symm)] at h3
            exact ⟨.ref q, .ref q', rfl, par_end S2u hand1 (.inr ⟨l', q', rfl, rfl, ⟨gq', h0', hF2, ap'⟩, c'⟩) (.inr (.inr fun z => hne (by cases z; rfl))) hij (Ws.up w1' s2)⟩
end
end DL
end

section
namespace DL
open PySem PySem.Spec L2
open PyProof.Rows hiding St

section
variable {I : CI} {W : WX} {a b : Expr} {pos p0 p1 : Pos} {x y : Str}
theorem hand_up {K : PySem.W.Frag} {mg : MG} {p : Pm} {G H : Hp} {σ : L2.St} {e : En} {v : V} {r : Ret} {t : Addr} {o : HO} (h : Hand K mg p G H σ e v r) (n : H t = none) : Hand K mg p G (upd H t o) σ e v r := by
  rcases h with h | ⟨l, q, hr, hv, T, vs, hq, rq⟩
  · exact .inl h
  · refine .inr ⟨l, q, hr, hv, T, vs, ?_, rq⟩
    rw [upd_ne (fun z => by rw [z, n] at hq; cases hq)]
    exact hq
theorem par_endT {p : Pm} {G H : Hp} {σ : L2.St} {e : En} {i j : Nat} {r r' : Ret} {E : Ends} {v v' : V} (S : Srp I.K I.mg p G σ H e) (h1 : Hand I.K I.mg p G H σ e v r) (h2 : Hand I.K I.mg p G H σ e v' r') (ne : (∃ d, r' = .sh d) ∨ (∃ d, r = .sh d) ∨ v ≠ v') (hij : i ≠ j)
    (w : Ws I.K I.mg W p G (sSeq (gOwn i r) (gOwn j r') e) E) : [v, v'].length ≤ sizeLine ∧ ∀ t, H t = none → gTup I.K 2 (gCons (gName i) (gCons (gName j) gNil)) (.ref t) σ (upd H t (.tup [v, v'])) E.nx := by
  have ll := lim_line
  refine ⟨Nat.le_trans (by decide : 2 ≤ LIM) ll, fun t nt => ⟨t, [v, v'], rfl, .inl (.inl upd_same), rfl, v, [v'], rfl, v', [], rfl, rfl, ?_⟩⟩
  obtain ⟨S', _, _, _, _⟩ := S.laidOw (o := .tup [v, v']) nt
  exact par_end S' (hand_up h1 nt) (hand_up h2 nt) ne hij w
theorem ds_parT {i j : Nat} {ma mb : M Ret} {k k2} {pt pt2 : Pos} (hx : SetOk I.N I.sc I.fn i x) (hy : SetOk I.N I.sc I.fn j y) (hij : i ≠ j) (ha : DR I W a ma) (hb : DR I W b mb) (na : nst a = true) (nb : nst b = true)
    (hw : ∀ env : Env, env.scope = I.sc → swappedStores [.Tuple [.Name x p0, .Name y p1] k pt] (.Tuple [a, b] k2 pt2) env = pure none)
    (hs : ∀ env : Env, swapsWithSole [.Tuple [.Name x p0, .Name y p1] k pt] (.Tuple [a, b] k2 pt2) pos.line env = pure false) :
    DS I W (.Assign [.Tuple [.Name x p0, .Name y p1] k pt] (.Tuple [a, b] k2 pt2) pos) (sParO ma mb i j) := by
  obtain ⟨ta, a1, a2⟩ := ha
  obtain ⟨tb, b1, b2⟩ := hb
  refine ⟨tAsg (tTup (tCons ta (tCons tb tNil))) (gTup I.K 2 (gCons (gName i) (gCons (gName j) gNil))), fun X ok => ps_asg (pe_tup (pa_cons (a1 X ok) (pa_cons (b1 X ok) pa_nil (star_of nb _ _)) (star_of na _ _)))
    (by
      have n1 : PG X (.Name x p0) (gName i) := pg_name (by rw [ok.hN]; exact ok.nd) (by rw [ok.hN]; exact hx.hN) (by rw [ok.hsc]; exact hx.hv) (by rw [ok.hfn, ok.hsc]; exact hx.hf)
      have n2 : PG X (.Name y p1) (gName j) := pg_name (by rw [ok.hN]; exact ok.nd) (by rw [ok.hN]; exact hy.hN) (by rw [ok.hsc]; exact hy.hv) (by rw [ok.hfn, ok.hsc]; exact hy.hf)
      have := pg_tup (pos := pt) (k := k) (n := 2) ok.calm (pgs_cons n1 (pgs_cons n2 pgs_nil rfl) rfl) rfl rfl
      rw [ok.hK] at this
      exact this) (hs X.env) (hw X.env ok.hsc) rfl, fun p G σ H e E S w => ?_⟩
  refine a2 p G σ H e _ S (Wp.mono (Ws.bnd w) fun r G1 H1 e1 s1 S1 w1 => ?_)
  cases r with
  | sh d =>
    intro v rv
    refine b2 p G1 σ H1 e1 _ S1 (Wp.mono (Ws.bnd w1) fun r' G2 H2 e2 s2 S2 w2 => ?_)
    cases r' with
    | sh d' =>
      intro v' rv'
      exact par_endT S2 (.inl ⟨d, rfl, rv.mono s2⟩) (.inl ⟨d', rfl, rv'⟩) (.inl ⟨d', rfl⟩) hij w2
    | ow z =>
      cases z with
      | o _ _ => intro q _ _ _ _ _; exact w2.elim
      | l l =>
        intro q gq c h0 hF ap
        exact par_endT S2 (.inl ⟨d, rfl, rv.mono s2⟩) (.inr ⟨l, q, rfl, rfl, ⟨gq, h0, hF, ap⟩, c⟩) (.inr (.inl ⟨d, rfl⟩)) hij w2
  | ow z =>
    cases z with
    | o _ _ => intro q _ _ _ _ _; exact w1.elim
    | l l =>
      intro q gq c h0 hF ap
      obtain ⟨vs, hq, rq⟩ := c
      have T1 : Tmp p G1 σ e1 q := ⟨gq, h0, hF, ap⟩
      have SP := S1.protect T1 hq
      refine b2 (p.hold q (.lst vs)) G1 σ H1 e1 _ SP ?_
      have w1' : Ws I.K I.mg W p G1 (M.bnd mb (fun r' => match r' with
        | .ow (.o _ _) => fun _ => R.no
        | r' => sSeq (gOwn i (.ow (.l l))) (gOwn j r')) e1) E := w1
      unfold M.bnd at w1'
      cases zb : mb e1 with
      | no => rw [zb] at w1'; exact w1'.elim
      | ex cc fs e2 =>
        rw [zb] at w1'
        intro G2 H2 C d s2 S2 hC hX
        exact w1' G2 σ H2 C d s2 (S2.unprotect h0 hF).1 hC hX
      | ok r' e2 =>
        rw [zb] at w1'
        dsimp only at w1'
        intro G2 H2 s2 S2
        obtain ⟨S2u, T2, hq2⟩ := S2.unprotect h0 hF
        have hand1 : Hand I.K I.mg p G2 H2 σ e2 (.ref q) (.ow (.l l)) := .inr ⟨l, q, rfl, rfl, T2, vs, hq2, rq.mono s2⟩
        cases r' with
        | sh d' =>
          intro v' rv'
          exact par_endT S2u hand1 (.inl ⟨d', rfl, rv'⟩) (.inl ⟨d', rfl⟩) hij (Ws.up w1' s2)
        | ow z' =>
          cases z' with
          | o _ _ => exact w1'.elim
          | l l' =>
            intro q' gq' c' h0' hF' ap'
            have hne : q ≠ q' := fun z => by
              subst z
              have h3 : upd p.F q (.lst vs) q = none := hF'
              rw [upd_same] at h3
              cases h3
            have hF2 : p.F q' = none := by
              have h3 : upd p.F q (.lst vs) q' = none := hF'
              rwa [upd_ne (fun z => hne z.symm)] at h3
            exact par_endT S2u hand1 (.inr ⟨l', q', rfl, rfl, ⟨gq', h0', hF2, ap'⟩, c'⟩) (.inr (.inr fun z => hne (by cases z; rfl))) hij (Ws.up w1' s2)
end
end DL
end

section
namespace DL
open PySem PySem.Spec L2
open PyProof.Rows hiding St
/-! ### what is to hold behind a meaning -/
abbrev XQ := String → List (String × D) → En → Prop
/-- holds simp away from what is behind -/
inductive Tok {α : Sort _} : α → Type
  | mk {a : α} : Tok a
@[irreducible] def wp {α : Type} (r : R α) (Q : α → En → Prop) (X : XQ) (_ : Tok Q := .mk) (_ : Tok X := .mk) : Prop := match r with
  | .ok a e => Q a e
  | .ex c fs e => X c fs e
  | .no => False
def Wo {α : Type} (o : Option α) (k : α → Prop) (_ : Tok k := .mk) : Prop := match o with
  | some a => k a
  | none => False
def Wif (k : Bool) (A B : Prop) : Prop := match k with
  | true => A
  | false => B
local macro_rules | `(tactic| rfl) => `(tactic| with_unfolding_all exact Eq.refl _)
section
variable {α β : Type} {e : En} {Q : α → En → Prop} {X : XQ}
theorem wp_ext {r : R α} {Q Q' : α → En → Prop} (h : ∀ a e, Q a e = Q' a e) : wp r Q X = wp r Q' X := by rw [show Q = Q' from funext fun a => funext fun e => h a e]
theorem Wif_ext {k : Bool} {A B A' B' : Prop} (h : A = A') (h' : B = B') : Wif k A B = Wif k A' B' := by rw [h, h']
theorem Wo_ext {o : Option α} {k k' : α → Prop} (h : ∀ a, k a = k' a) : Wo o k = Wo o k' := by rw [show k = k' from funext h]
theorem wp_ok {a : α} : wp (.ok a e) Q X = Q a e := by with_unfolding_all exact Eq.refl _
theorem wp_ex {c : String} {fs : List (String × D)} : wp (.ex c fs e) Q X = X c fs e := by with_unfolding_all exact Eq.refl _
theorem wp_no : wp (.no : R α) Q X = False := by with_unfolding_all exact Eq.refl _
theorem Wo_some {a : α} {k : α → Prop} : Wo (some a) k = k a := (rfl)
theorem Wo_none {k : α → Prop} : Wo none k = False := (rfl)
theorem Wo_map {f : β → α} {o : Option β} {k : α → Prop} : Wo (o.map f) k = Wo o fun b => k (f b) := by cases o <;> rfl
theorem Wo_bind {f : β → Option α} {o : Option β} {k : α → Prop} : Wo (o.bind f) k = Wo o fun b => Wo (f b) k := by cases o <;> rfl
theorem Wo_ite {c : Prop} [Decidable c] {a : α} {k : α → Prop} : Wo (if c then some a else none) k = (c ∧ k a) := by by_cases h : c <;> simp [h, Wo]
theorem Wif_t {A B : Prop} : Wif true A B = A := (rfl)
theorem Wif_f {A B : Prop} : Wif false A B = B := (rfl)
theorem Wif_not {k : Bool} {A B : Prop} : Wif (!k) A B = Wif k B A := by cases k <;> rfl
theorem wif {k : Bool} {A B : Prop} (h : k = true → A) (h' : k = false → B) : Wif k A B := by cases k; exact h' rfl; exact h rfl
theorem wif_d {P : Prop} [Decidable P] {A B : Prop} (h : P → A) (h' : ¬ P → B) : Wif (decide P) A B := by by_cases q : P <;> simp [q, Wif]; exact h q; exact h' q
theorem wp_mono {r : R α} {Q' : α → En → Prop} {X' : XQ} (h : wp r Q' X') (hq : ∀ a e, Q' a e → Q a e) (hx : ∀ c fs e, X' c fs e → X c fs e) : wp r Q X := by
  cases r with
  | ok a e => with_unfolding_all exact hq a e h
  | ex c fs e => with_unfolding_all exact hx c fs e h
  | no => with_unfolding_all exact h
theorem wp_eq {r : R α} {a : α} (h : r = .ok a e) : wp r Q X = Q a e := by rw [h, wp_ok]
theorem wp_to {r : R α} {a : α} (h : wp r (fun b e' => b = a ∧ e' = e) fun _ _ _ => False) : r = .ok a e := by
  cases r with
  | ok b e' => rw [wp_ok] at h; obtain ⟨h1, h2⟩ := h; rw [h1, h2]
  | ex c fs e => rw [wp_ex] at h; exact h.elim
  | no => rw [wp_no] at h; exact h.elim
theorem wp_toE {r : R α} {P : α → En → Prop} (h : wp r P fun _ _ _ => False) : ∃ a e, r = .ok a e ∧ P a e := by
  cases r with
  | ok b e' => rw [wp_ok] at h; exact ⟨b, e', rfl, h⟩
  | ex c fs e => rw [wp_ex] at h; exact h.elim
  | no => rw [wp_no] at h; exact h.elim
theorem wp_ret {a : α} : wp (M.ret a e) Q X = Q a e := by with_unfolding_all exact Eq.refl _
theorem wp_bnd {m : M β} {f : β → M α} : wp (M.bnd m f e) Q X = wp (m e) (fun b e' => wp (f b e') Q X) X := by
  unfold M.bnd; cases m e <;> rfl
theorem wp_lift {o : Option α} : wp (lift o e) Q X = Wo o fun a => Q a e := by cases o <;> rfl
theorem wp_ite {c : Prop} [Decidable c] {m n : M α} : wp ((if c then m else n) e) Q X = if c then wp (m e) Q X else wp (n e) Q X := by split <;> rfl
theorem wp_bif {k : Bool} {m n : M α} : wp ((if k = true then m else n) e) Q X = Wif k (wp (m e) Q X) (wp (n e) Q X) := by cases k <;> rfl
theorem wp_iteN {c : Prop} [Decidable c] {m : M α} : wp ((if c then m else fun _ => .no) e) Q X = (c ∧ wp (m e) Q X) := by by_cases h : c <;> simp [h, wp]
theorem wp_iteR {c : Prop} [Decidable c] {r : R α} : wp (if c then r else .no) Q X = (c ∧ wp r Q X) := by by_cases h : c <;> simp [h, wp]
end
section
variable {α β : Type} {e : En} {X : XQ} {QD : D → En → Prop} {QR : Ret → En → Prop} {QF : Fl → En → Prop} {QB : Bool → En → Prop} {QL : List D → En → Prop} {QA : List Ar → En → Prop} {Q1 : Ar → En → Prop} {QU : Unit → En → Prop} {QO : Option Int → En → Prop}
/-! ### names -/
local macro_rules | `(tactic| simp_arith only [$xs,*]) => `(tactic| repeat' (first | (with_reducible exact Eq.refl _) | simp only [$xs,*] | (refine wp_ext fun _ _ => ?_) | (refine Wo_ext fun _ => ?_) | (refine congrArg (And _) ?_) | (refine Wif_ext ?_ ?_)))
/-- what reading a name gives: the value, and the slot behind it -/
def rdS : Sl → Option (D × Sl)
  | .sh d => some (d, .sh d)
  | .ow x => some (x.d, .sh x.d)
  | _ => none
theorem wp_eVarS {i : Nat} : wp (eVar i e) QD X = Wo (e[i]?) fun s => Wo (rdS s) fun z => QD z.1 (e.set i z.2) := by
  unfold eVar
  cases q : e[i]? with
  | none => rfl
  | some s =>
    have hi := (List.getElem?_eq_some_iff.mp q)
    cases s with
    | no => rfl
    | sh d =>
      with_unfolding_all show QD d e = QD d (e.set i (.sh d))
      rw [← hi.2, List.set_getElem_self]
    | ow x => rfl
    | io x => rfl
theorem rdS_sh {d : D} : rdS (.sh d) = some (d, .sh d) := (rfl)
theorem rdS_ow {x : Ct} : rdS (.ow x) = some (x.d, .sh x.d) := (rfl)
theorem ct_l {l : List D} : Ct.d (.l l) = .lst l := (rfl)
theorem ct_o {c : String} {fs : List (String × D)} : Ct.d (.o c fs) = .obj c fs := (rfl)
theorem wp_eC {d : D} : wp (eC d e) QD X = QD d e := by with_unfolding_all exact Eq.refl _
/-- a name that may be stored -/
def nio : Sl → Bool
  | .io _ => false
  | _ => true
theorem nio_own {s : Sl} (h : s.own = none) : nio s = true := by cases s <;> first | rfl | cases h
theorem nio_no : nio .no = true := (rfl)
theorem nio_sh {d : D} : nio (.sh d) = true := (rfl)
theorem nio_ow {x : Ct} : nio (.ow x) = true := (rfl)
theorem wp_gSet {i : Nat} {d : D} : wp (gSet i d e) QU X = Wo (e[i]?) fun s => nio s = true ∧ QU () (e.set i (.sh d)) := by
  unfold gSet
  cases e[i]? with
  | none => rfl
  | some s => cases s <;> simp [wp, Wo, nio]
def slR : Ret → Sl
  | .sh d => .sh d
  | .ow x => .ow x
theorem slR_sh {d : D} : slR (.sh d) = .sh d := (rfl)
theorem slR_ow {x : Ct} : slR (.ow x) = .ow x := (rfl)
theorem wp_gOwn {i : Nat} {r : Ret} : wp (gOwn i r e) QF X = Wo (e[i]?) fun s => nio s = true ∧ QF .nx (e.set i (slR r)) := by
  unfold gOwn
  cases e[i]? with
  | none => rfl
  | some s => cases s <;> cases r <;> simp [wp, Wo, nio, slR]
/-! ### operators -/
theorem wp_rBin {f : D → D → Option Ret} {a b : M D} : wp (rBin f a b e) QR X = wp (a e) (fun x e1 => wp (b e1) (fun y e2 => Wo (f x y) fun r => QR r e2) X) X := by
  unfold rBin; simp_arith only [wp_bnd, wp_lift]
theorem wp_tCmp {f : D → D → Option Ret} {a b : M D} : wp (tCmp f a b e) QB X = wp (a e) (fun x e1 => wp (b e1) (fun y e2 => Wo (f x y) fun r => Wo (blOf r) fun k => QB k e2) X) X := by
  unfold tCmp; simp_arith only [wp_bnd, wp_rBin, wp_lift]
theorem wp_mD {m : M Ret} : wp (mD m e) QD X = wp (m e) (fun r e1 => Wo r.d fun d => QD d e1) X := by
  unfold mD; simp only [wp_bnd]
  refine wp_ext fun r e1 => ?_
  cases r with
  | sh d => rfl
  | ow x => cases x <;> rfl
theorem wp_mR {m : M D} : wp (mR m e) QR X = wp (m e) (fun d e1 => QR (.sh d) e1) X := by
  unfold mR; simp_arith only [wp_bnd, wp_ret]
theorem retd_sh {d : D} : Ret.d (.sh d) = some d := (rfl)
theorem retd_ow {l : List D} : Ret.d (.ow (.l l)) = some (.lst l) := (rfl)
theorem retd_owo {c : String} {fs : List (String × D)} : Ret.d (.ow (.o c fs)) = some (.obj c fs) := (rfl)
theorem blOf_b {k : Bool} : blOf (.sh (.bl k)) = some k := (rfl)
theorem wp_rChain {f g : D → D → Option Ret} {a b c : M D} : wp (rChain f g a b c e) QR X = wp (a e) (fun x e1 => wp (b e1) (fun y e2 => Wo (f x y) fun r => Wo (blOf r) fun k => Wif k (wp (c e2) (fun z e3 => Wo (g y z) fun r => QR r e3) X) (QR (.sh (.bl false)) e2)) X) X := by
  unfold rChain; simp_arith only [wp_bnd, wp_lift, Wo_bind, wp_bif, wp_ret]
theorem wp_tTru {m : M D} : wp (tTru m e) QB X = wp (m e) (fun d e1 => Wo (dTru d) fun k => QB k e1) X := by
  unfold tTru; simp_arith only [wp_bnd, wp_lift]
theorem wp_tAndM {m n : M Bool} : wp (tAndM m n e) QB X = wp (m e) (fun k e1 => Wif k (wp (n e1) QB X) (QB false e1)) X := by
  unfold tAndM; simp_arith only [wp_bnd, wp_bif, wp_ret]
theorem wp_tOrM {m n : M Bool} : wp (tOrM m n e) QB X = wp (m e) (fun k e1 => Wif k (QB true e1) (wp (n e1) QB X)) X := by
  unfold tOrM; simp_arith only [wp_bnd, wp_bif, wp_ret]
theorem wp_tNotM {m : M Bool} : wp (tNotM m e) QB X = wp (m e) (fun k e1 => QB (!k) e1) X := by
  unfold tNotM; simp_arith only [wp_bnd, wp_ret]
theorem wp_tIfM {c m n : M Bool} : wp (tIfM c m n e) QB X = wp (c e) (fun k e1 => Wif k (wp (m e1) QB X) (wp (n e1) QB X)) X := by
  unfold tIfM; simp_arith only [wp_bnd, wp_bif]
theorem wp_eAnd {m n : M D} : wp (eAnd m n e) QD X = wp (m e) (fun d e1 => Wo (dTru d) fun k => Wif k (wp (n e1) QD X) (QD d e1)) X := by
  unfold eAnd; simp_arith only [wp_bnd, wp_lift, wp_bif, wp_ret]
theorem wp_eOr {m n : M D} : wp (eOr m n e) QD X = wp (m e) (fun d e1 => Wo (dTru d) fun k => Wif k (QD d e1) (wp (n e1) QD X)) X := by
  unfold eOr; simp_arith only [wp_bnd, wp_lift, wp_bif, wp_ret]
theorem wp_eNot {m : M D} : wp (eNot m e) QD X = wp (m e) (fun d e1 => Wo (dTru d) fun k => QD (.bl (!k)) e1) X := by
  unfold eNot; simp_arith only [wp_bnd, wp_lift, wp_ret]
theorem wp_rIf {c : M Bool} {m n : M Ret} : wp (rIf c m n e) QR X = wp (c e) (fun k e1 => Wif k (wp (m e1) QR X) (wp (n e1) QR X)) X := by
  unfold rIf; simp_arith only [wp_bnd, wp_bif]
def asInt : D → Option Int
  | .int i => some i
  | _ => none
theorem asInt_i {i : Int} : asInt (.int i) = some i := (rfl)
theorem wp_eUn {g : Int → Int} {m : M D} : wp (eUn g m e) QD X = wp (m e) (fun d e1 => Wo (asInt d) fun i => QD (.int (g i)) e1) X := by
  unfold eUn; simp only [wp_bnd]
  refine wp_ext fun d e1 => ?_; cases d <;> rfl
/-! ### arguments, tuples, lists, functions -/
theorem wp_aNil : wp (aNil e) QA X = QA [] e := by with_unfolding_all exact Eq.refl _
theorem wp_aCons {a : M Ar} {m : M (List Ar)} : wp (aCons a m e) QA X = wp (a e) (fun x e1 => wp (m e1) (fun l e2 => QA (x :: l) e2) X) X := by
  unfold aCons; simp_arith only [wp_bnd, wp_ret]
theorem wp_aD {m : M D} : wp (aD m e) Q1 X = wp (m e) (fun d e1 => Q1 (.d d) e1) X := by
  unfold aD; simp_arith only [wp_bnd, wp_ret]
def isOwn : Sl → Bool
  | .ow _ => true
  | .io _ => true
  | _ => false
theorem isOwn_ow {x : Ct} : isOwn (.ow x) = true := (rfl)
theorem isOwn_io {x : Ct} : isOwn (.io x) = true := (rfl)
theorem wp_eAt {i : Nat} : wp (eAt i e) Q1 X = Wo (e[i]?) fun s => isOwn s = true ∧ Q1 (.at i) e := by
  unfold eAt
  cases e[i]? with
  | none => rfl
  | some s => cases s <;> simp [wp, Wo, isOwn]
theorem wp_aVals {m : M (List Ar)} : wp (aVals m e) QL X = wp (m e) (fun as e1 => Wo (dVals as) fun ds => QL ds e1) X := by
  unfold aVals; simp_arith only [wp_bnd, wp_lift]
theorem dVals_nil : dVals [] = some [] := (rfl)
theorem dVals_cons {x : D} {as : List Ar} : dVals (.d x :: as) = (dVals as).map (x :: ·) := (rfl)
theorem wp_eTup {m : M (List Ar)} : wp (eTup m e) QD X = wp (m e) (fun as e1 => Wo (dVals as) fun ds => ds.length ≤ LIM ∧ QD (.tup ds) e1) X := by
  unfold eTup; simp_arith only [wp_bnd, wp_aVals, wp_iteN, wp_ret]
theorem wp_rLst {m : M (List Ar)} : wp (rLst m e) QR X = wp (m e) (fun as e1 => Wo (dVals as) fun ds => ds.length ≤ LIM ∧ QR (.ow (.l ds)) e1) X := by
  unfold rLst; simp_arith only [wp_bnd, wp_aVals, wp_iteN, wp_ret]
theorem wp_rFn {f : List D → Option Ret} {m : M (List Ar)} : wp (rFn f m e) QR X = wp (m e) (fun as e1 => Wo (dVals as) fun ds => Wo (f ds) fun r => QR r e1) X := by
  unfold rFn; simp_arith only [wp_bnd, wp_aVals, wp_lift]
theorem wp_rOne {f : D → Option Ret} {m : M D} : wp (rOne m f e) QR X = wp (m e) (fun d e1 => Wo (f d) fun r => QR r e1) X := by
  unfold rOne; simp_arith only [wp_bnd, wp_lift]
theorem wp_eBits {m : M D} : wp (eBits m e) QD X = wp (m e) (fun d e1 => Wo (gBits d) fun r => QD r e1) X := by
  unfold eBits; simp_arith only [wp_bnd, wp_lift]
theorem wp_rRev {m : M D} : wp (rRev m e) QR X = wp (m e) (fun d e1 => Wo (fRev d) fun r => QR r e1) X := by
  unfold rRev; simp_arith only [wp_bnd, wp_lift]
theorem wp_rSortSet {m : M D} : wp (rSortSet m e) QR X = wp (m e) (fun d e1 => Wo (gSortSet d) fun r => QR r e1) X := by
  unfold rSortSet; simp_arith only [wp_bnd, wp_lift]
theorem wp_eLenSet {m : M D} : wp (eLenSet m e) QD X = wp (m e) (fun d e1 => Wo (gLenSet d) fun r => QD r e1) X := by
  unfold eLenSet; simp_arith only [wp_bnd, wp_lift]
theorem wp_aStar {m : M D} {n : M (List Ar)} : wp (aStar m n e) QA X = wp (m e) (fun d e1 => Wo (seqL d) fun l => wp (n e1) (fun r e2 => QA (l.map .d ++ r) e2) X) X := by
  unfold aStar; simp_arith only [wp_bnd, wp_lift, wp_ret]
theorem wp_eIx {a b : M D} : wp (eIx a b e) QD X = wp (a e) (fun x e1 => wp (b e1) (fun y e2 => Wo (fIx x y) fun r => QD r e2) X) X := by
  unfold eIx; simp_arith only [wp_bnd, wp_lift]
theorem look_sh {d : D} : Sl.look (.sh d) = some d := (rfl)
theorem look_ow {x : Ct} : Sl.look (.ow x) = some x.d := (rfl)
theorem look_io {x : Ct} : Sl.look (.io x) = some x.d := (rfl)
theorem look_no : Sl.look .no = none := (rfl)
theorem wp_peek {i : Nat} {k : D → M D} : wp (peek i k e) QD X = Wo (e[i]?.bind Sl.look) fun d => wp (k d e) QD X := by
  unfold peek; cases e[i]?.bind Sl.look <;> rfl
theorem wp_eIxV {i : Nat} {b : M D} : wp (eIxV i b e) QD X = ((e[i]?.bind Sl.look).isSome = true ∧ wp (b e) (fun y e1 => Wo (e1[i]?.bind Sl.look) fun d => Wo (fIx d y) fun r => QD r e1) X) := by
  unfold eIxV has; simp_arith only [wp_iteR, wp_bnd, wp_peek, wp_lift]
theorem wp_oSome {m : M D} : wp (oSome m e) QO X = wp (m e) (fun d e1 => Wo (asInt d) fun i => QO (some i) e1) X := by
  unfold oSome; simp only [wp_bnd]
  refine wp_ext fun d e1 => ?_; cases d <;> rfl
theorem wp_rSl {m : M D} {l h : M (Option Int)} : wp (rSl m l h e) QR X = wp (m e) (fun d e1 => wp (l e1) (fun lo e2 => wp (h e2) (fun hi e3 => Wo (fSl d lo hi) fun r => QR r e3) X) X) X := by
  unfold rSl; simp_arith only [wp_bnd, wp_lift]
theorem wp_rEqV {i : Nat} {neg : Bool} {m : M D} : wp (rEqV i neg m e) QR X = ((e[i]?.bind Sl.look).isSome = true ∧ wp (m e) (fun y e1 => Wo (e1[i]?.bind Sl.look) fun d => Wo (deq d y) fun k => QR (.sh (.bl (if neg then !k else k))) e1) X) := by
  unfold rEqV; simp only [wp_iteR, wp_bnd]
  refine congrArg _ (wp_ext fun y e1 => ?_)
  cases e1[i]?.bind Sl.look with
  | none => rfl
  | some d => simp only [wp_lift, Wo_map, Wo_some]
theorem wp_rInV {i : Nat} {neg : Bool} {m : M D} : wp (rInV i neg m e) QR X = wp (m e) (fun y e1 => Wo (e1[i]?.bind Sl.look) fun d => Wo (seqL d) fun l => Wo (dIn y l) fun k => QR (.sh (.bl (if neg then !k else k))) e1) X := by
  unfold rInV; simp only [wp_bnd]
  refine wp_ext fun y e1 => ?_
  cases e1[i]?.bind Sl.look with
  | none => rfl
  | some d => cases d <;> first | rfl | (simp only [wp_lift, Wo_map, Wo_some]; rfl)
theorem wp_eLenV {i : Nat} : wp (eLenV i e) QR X = Wo (e[i]?.bind Sl.look) fun d => Wo (gLen d) fun r => QR r e := by
  unfold eLenV
  cases e[i]?.bind Sl.look with
  | none => rfl
  | some d => simp only [wp_lift, Wo_some]
/-! ### changing an own list -/
def ownOf : Sl → Option (List D)
  | .ow (.l l) => some l
  | .io (.l l) => some l
  | _ => none
theorem ownOf_ow {l : List D} : ownOf (.ow (.l l)) = some l := (rfl)
theorem ownOf_io {l : List D} : ownOf (.io (.l l)) = some l := (rfl)
theorem put_ow {x y : Ct} : Sl.put x (.ow y) = .ow x := (rfl)
theorem put_io {x y : Ct} : Sl.put x (.io y) = .io x := (rfl)
theorem wp_putL {i : Nat} {f : List D → Option (List D × D)} : wp (putL i f e) QD X = Wo (e[i]?) fun s => Wo (ownOf s) fun l => Wo (f l) fun z => QD z.2 (e.set i (s.put (.l z.1))) := by
  unfold putL
  cases e[i]? with
  | none => rfl
  | some s =>
    cases s with
    | no => rfl
    | sh d => rfl
    | ow x => cases x with
      | o c fs => rfl
      | l l => simp only [Sl.own, Wo_some, ownOf]; cases f l <;> rfl
    | io x => cases x with
      | o c fs => rfl
      | l l => simp only [Sl.own, Wo_some, ownOf]; cases f l <;> rfl
theorem ownL_eq {i : Nat} : (ownL e i = true) = ((e[i]?.bind ownOf).isSome = true) := by
  unfold ownL
  cases e[i]? with
  | none => rfl
  | some s =>
    cases s with
    | no => rfl
    | sh d => rfl
    | ow x => cases x <;> rfl
    | io x => cases x <;> rfl
theorem wp_eMt {i : Nat} {f : List D → List D → Option (List D × D)} {m : M (List Ar)} : wp (eMt i f m e) QD X = ((e[i]?.bind ownOf).isSome = true ∧ wp (m e) (fun as e1 => Wo (dVals as) fun ds => Wo (e1[i]?) fun s => Wo (ownOf s) fun l => Wo (f l ds) fun z => QD z.2 (e1.set i (s.put (.l z.1)))) X) := by
  unfold eMt; simp_arith only [wp_iteR, wp_bnd, wp_aVals, wp_putL, ownL_eq]
theorem wp_gIx {i : Nat} {m : M D} {d : D} : wp (gIx i m d e) QU X = ((e[i]?.bind ownOf).isSome = true ∧ wp (m e) (fun k e1 => Wo (e1[i]?) fun s => Wo (ownOf s) fun l => Wo (lSet l k d) fun z => QU () (e1.set i (s.put (.l z.1)))) X) := by
  unfold gIx; simp_arith only [wp_iteR, wp_bnd, wp_putL, ownL_eq, wp_ret]
theorem wp_lAt {i : Nat} {k : D} : wp (lAt i k e) QD X = Wo (e[i]?) fun s => Wo (ownOf s) fun l => Wo (fIx (.lst l) k) fun r => QD r e := by
  unfold lAt
  cases e[i]? with
  | none => rfl
  | some s =>
    cases s with
    | no => rfl
    | sh d => rfl
    | ow x => cases x <;> first | rfl | (simp only [Sl.own, Option.bind_some, Wo_some, ownOf, wp_lift])
    | io x => cases x <;> first | rfl | (simp only [Sl.own, Option.bind_some, Wo_some, ownOf, wp_lift])
def asSh : Ret → Option D
  | .sh d => some d
  | _ => none
theorem asSh_sh {d : D} : asSh (.sh d) = some d := (rfl)
theorem wp_sAugX {i : Nat} {f : D → D → Option Ret} {mi m : M D} : wp (sAugX i f mi m e) QF X = ((e[i]?.bind ownOf).isSome = true ∧ wp (mi e) (fun k e1 => Wo (e1[i]?) fun s => Wo (ownOf s) fun l => Wo (fIx (.lst l) k) fun old => wp (m e1) (fun y e2 => Wo (f old y) fun r => Wo (asSh r) fun d => Wo (e2[i]?) fun s => Wo (ownOf s) fun l => Wo (lSet l k d) fun z => QF .nx (e2.set i (s.put (.l z.1)))) X) X) := by
  unfold sAugX; simp only [wp_iteR, wp_bnd, ownL_eq]
  refine congrArg _ (wp_ext fun k e1 => ?_); simp only [wp_bnd, wp_lAt]; refine Wo_ext fun s => ?_; refine Wo_ext fun l => ?_; refine Wo_ext fun old => ?_; simp only [wp_bnd]; refine wp_ext fun y e2 => ?_; simp only [wp_bnd, wp_lift]; refine Wo_ext fun r => ?_
  cases r with
  | sh d => simp_arith only [wp_bnd, wp_putL, wp_ret, asSh, Wo_some]
  | ow x => rfl
end
end DL
end

section
namespace DL
open PySem PySem.Spec L2
open PyProof.Rows hiding St
/-! ### statements -/
/-- on with A where nothing has ended the block, else B -/
def Wfl (fl : Fl) (A B : Prop) : Prop := match fl with
  | .nx => A
  | _ => B
/-- behind a turn of a loop -/
def Wlp (fl : Fl) (I : Prop) (Q : Fl → Prop) : Prop := match fl with
  | .nx => I
  | .ct => I
  | .bk => Q .nx
  | .rt r => Q (.rt r)
def retS : Sl → Option (Ret × Sl)
  | .ow x => some (.ow x, .no)
  | .sh d => some (.sh d, .sh d)
  | _ => none
def shOf : Sl → Option D
  | .sh d => some d
  | _ => none
def two : List D → Option (D × D)
  | [u, v] => some (u, v)
  | _ => none
def three : List D → Option (D × D × D)
  | [u, v, w] => some (u, v, w)
  | _ => none
def notO : Ret → Bool
  | .ow (.o _ _) => false
  | _ => true
def endR : Fl → Option Ret
  | .rt r => some r
  | .nx => some (.sh .non)
  | _ => none
local macro_rules | `(tactic| simp_arith only [$xs,*]) => `(tactic| repeat' (first | (with_reducible exact Eq.refl _) | simp only [$xs,*] | (refine wp_ext fun _ _ => ?_) | (refine Wo_ext fun _ => ?_) | (refine congrArg (And _) ?_) | (refine Wif_ext ?_ ?_)))
local macro_rules | `(tactic| rfl) => `(tactic| with_unfolding_all exact Eq.refl _)
section
variable {α β : Type} {e : En} {X : XQ} {QD : D → En → Prop} {QR : Ret → En → Prop} {QF : Fl → En → Prop} {QB : Bool → En → Prop} {QL : List D → En → Prop} {QA : List Ar → En → Prop} {Q1 : Ar → En → Prop} {QU : Unit → En → Prop} {QO : Option Int → En → Prop} {QY : Option D → En → Prop}
theorem Wfl_nx {A B : Prop} : Wfl .nx A B = A := (rfl)
theorem Wfl_ct {A B : Prop} : Wfl .ct A B = B := (rfl)
theorem Wfl_bk {A B : Prop} : Wfl .bk A B = B := (rfl)
theorem Wfl_rt {r : Ret} {A B : Prop} : Wfl (.rt r) A B = B := (rfl)
theorem Wlp_nx {A : Prop} {B : Fl → Prop} : Wlp .nx A B = A := (rfl)
theorem Wlp_ct {A : Prop} {B : Fl → Prop} : Wlp .ct A B = A := (rfl)
theorem Wlp_bk {A : Prop} {B : Fl → Prop} : Wlp .bk A B = B .nx := (rfl)
theorem Wlp_rt {r : Ret} {A : Prop} {B : Fl → Prop} : Wlp (.rt r) A B = B (.rt r) := (rfl)
theorem wp_sSeq {m n : M Fl} : wp (sSeq m n e) QF X = wp (m e) (fun fl e1 => Wfl fl (wp (n e1) QF X) (QF fl e1)) X := by
  unfold sSeq; rw [wp_bnd]
  refine wp_ext fun fl e1 => ?_; cases fl <;> rfl
theorem wp_sNil : wp (sNil e) QF X = QF .nx e := by with_unfolding_all exact Eq.refl _
theorem wp_sBreak : wp (sBreak e) QF X = QF .bk e := by with_unfolding_all exact Eq.refl _
theorem wp_sCont : wp (sCont e) QF X = QF .ct e := by with_unfolding_all exact Eq.refl _
theorem wp_sNever : wp (sNever e) QF X = False := by with_unfolding_all exact Eq.refl _
theorem wp_sRet {m : M Ret} : wp (sRet m e) QF X = wp (m e) (fun r e1 => QF (.rt r) e1) X := by
  unfold sRet; simp_arith only [wp_bnd, wp_ret]
theorem retS_ow {x : Ct} : retS (.ow x) = some (.ow x, .no) := (rfl)
theorem retS_sh {d : D} : retS (.sh d) = some (.sh d, .sh d) := (rfl)
theorem wp_sRetV {i : Nat} : wp (sRetV i e) QF X = Wo (e[i]?) fun s => Wo (retS s) fun z => QF (.rt z.1) (e.set i z.2) := by
  unfold sRetV
  cases q : e[i]? with
  | none => rfl
  | some s =>
    have hi := (List.getElem?_eq_some_iff.mp q)
    cases s with
    | no => rfl
    | io x => rfl
    | ow x => rfl
    | sh d =>
      with_unfolding_all show QF _ e = QF _ (e.set i (.sh d))
      rw [← hi.2, List.set_getElem_self]
theorem wp_sIf {c : M Bool} {m n : M Fl} : wp (sIf c m n e) QF X = wp (c e) (fun k e1 => Wif k (wp (m e1) QF X) (wp (n e1) QF X)) X := by
  unfold sIf; simp_arith only [wp_bnd, wp_bif]
theorem wp_sDrop {m : M α} : wp (sDrop m e) QF X = wp (m e) (fun _ e1 => QF .nx e1) X := by
  unfold sDrop; simp_arith only [wp_bnd, wp_ret]
theorem wp_sAsg {m : M D} {g : D → M Unit} : wp (sAsg m g e) QF X = wp (m e) (fun d e1 => wp (g d e1) (fun _ e2 => QF .nx e2) X) X := by
  unfold sAsg; simp_arith only [wp_bnd, wp_ret]
theorem wp_sOwn {m : M Ret} {i : Nat} : wp (sOwn m i e) QF X = wp (m e) (fun r e1 => wp (gOwn i r e1) QF X) X := by
  unfold sOwn; simp only [wp_bnd]
theorem shOf_sh {d : D} : shOf (.sh d) = some d := (rfl)
theorem wp_sAug {i : Nat} {f : D → D → Option Ret} {m : M D} : wp (sAug i f m e) QF X = Wo (e[i]?) fun s => Wo (shOf s) fun d => wp (m e) (fun y e1 => Wo (f d y) fun r => wp (gOwn i r e1) QF X) X := by
  unfold sAug
  cases e[i]? with
  | none => rfl
  | some s => cases s <;> first | rfl | (simp_arith only [wp_bnd, wp_lift, Wo_some, shOf])
theorem two_ {u v : D} : two [u, v] = some (u, v) := (rfl)
theorem three_ {u v w : D} : three [u, v, w] = some (u, v, w) := (rfl)
theorem wp_sPar {m : M (List Ar)} {i j : Nat} : wp (sPar m i j e) QF X = wp (m e) (fun as e1 => Wo (dVals as) fun ds => Wo (two ds) fun z => wp (gSet i z.1 e1) (fun _ e2 => wp (gSet j z.2 e2) (fun _ e3 => QF .nx e3) X) X) X := by
  unfold sPar; simp only [wp_bnd, wp_aVals]
  refine wp_ext fun as e1 => ?_; refine Wo_ext fun ds => ?_
  match ds with
  | [] => rfl
  | [_] => rfl
  | [u, v] => simp_arith only [wp_bnd, wp_ret, two, Wo_some]
  | _ :: _ :: _ :: _ => rfl
theorem wp_sPar3 {m : M (List Ar)} {i j l : Nat} : wp (sPar3 m i j l e) QF X = wp (m e) (fun as e1 => Wo (dVals as) fun ds => Wo (three ds) fun z => wp (gSet i z.1 e1) (fun _ e2 => wp (gSet j z.2.1 e2) (fun _ e3 => wp (gSet l z.2.2 e3) (fun _ e4 => QF .nx e4) X) X) X) X := by
  unfold sPar3; simp only [wp_bnd, wp_aVals]
  refine wp_ext fun as e1 => ?_; refine Wo_ext fun ds => ?_
  match ds with
  | [] => rfl
  | [_] => rfl
  | [_, _] => rfl
  | [u, v, w] => simp_arith only [wp_bnd, wp_ret, three, Wo_some]
  | _ :: _ :: _ :: _ :: _ => rfl
theorem notO_sh {d : D} : notO (.sh d) = true := (rfl)
theorem notO_l {l : List D} : notO (.ow (.l l)) = true := (rfl)
theorem wp_sParO {ma mb : M Ret} {i j : Nat} : wp (sParO ma mb i j e) QF X = wp (ma e) (fun r e1 => notO r = true ∧ wp (mb e1) (fun r' e2 => notO r' = true ∧ wp (gOwn i r e2) (fun fl e3 => Wfl fl (wp (gOwn j r' e3) QF X) (QF fl e3)) X) X) X := by
  unfold sParO; simp only [wp_bnd]
  refine wp_ext fun r e1 => ?_
  have q : ∀ (r' : Ret) (e2 : En), wp ((match r' with | .ow (.o _ _) => fun _ => .no | r' => sSeq (gOwn i r) (gOwn j r') : M Fl) e2) QF X = (notO r' = true ∧ wp (gOwn i r e2) (fun fl e3 => Wfl fl (wp (gOwn j r' e3) QF X) (QF fl e3)) X) := by
    intro r' e2
    cases r' with
    | sh d => simp only [wp_sSeq, notO, true_and]
    | ow x => cases x with
      | l l => simp only [wp_sSeq, notO, true_and]
      | o c fs => simp [notO, wp]
  cases r with
  | sh d => rw [notO_sh, eq_self, true_and]; show wp (M.bnd _ _ e1) QF X = _; rw [wp_bnd]; refine wp_ext fun r' e2 => ?_; exact q r' e2
  | ow x => cases x with
    | l l => rw [notO_l, eq_self, true_and]; show wp (M.bnd _ _ e1) QF X = _; rw [wp_bnd]; refine wp_ext fun r' e2 => ?_; exact q r' e2
    | o c fs => simp [notO, wp]
/-! ### what is walked -/
def int1 : List D → Option Int
  | [.int j] => some j
  | _ => none
def int2 : List D → Option (Int × Int)
  | [.int i, .int j] => some (i, j)
  | _ => none
def asLst : D → Option (List D)
  | .lst l => some l
  | _ => none
def asTup : D → Option (List D)
  | .tup l => some l
  | _ => none
theorem int1_ {j : Int} : int1 [.int j] = some j := (rfl)
theorem int2_ {i j : Int} : int2 [.int i, .int j] = some (i, j) := (rfl)
theorem asLst_ {l : List D} : asLst (.lst l) = some l := (rfl)
theorem asTup_ {l : List D} : asTup (.tup l) = some l := (rfl)
theorem seqL_l {l : List D} : seqL (.lst l) = some l := (rfl)
theorem seqL_t {l : List D} : seqL (.tup l) = some l := (rfl)
theorem wp_iRng1 {m : M (List Ar)} : wp (iRng1M m e) QL X = wp (m e) (fun as e1 => Wo (dVals as) fun ds => Wo (int1 ds) fun j => small62 j = true ∧ QL (rngL 0 j.toNat) e1) X := by
  unfold iRng1M; simp only [wp_bnd, wp_aVals]
  refine wp_ext fun as e1 => ?_; refine Wo_ext fun ds => ?_
  match ds with
  | [.int j] => simp only [int1, Wo_some, wp_iteN, wp_ret]
  | [] => rfl
  | [.non] => rfl
  | [.bl _] => rfl
  | [.str _] => rfl
  | [.tup _] => rfl
  | [.lst _] => rfl
  | [.dct _] => rfl
  | [.obj _ _] => rfl
  | .non :: _ :: _ => rfl
  | .int _ :: _ :: _ => rfl
  | .bl _ :: _ :: _ => rfl
  | .str _ :: _ :: _ => rfl
  | .tup _ :: _ :: _ => rfl
  | .lst _ :: _ :: _ => rfl
  | .dct _ :: _ :: _ => rfl
  | .obj _ _ :: _ :: _ => rfl
theorem wp_iRng2 {m : M (List Ar)} : wp (iRng2M m e) QL X = wp (m e) (fun as e1 => Wo (dVals as) fun ds => Wo (int2 ds) fun z => (small62 z.1 && small62 z.2) = true ∧ QL (rngL z.1 (z.2 - z.1).toNat) e1) X := by
  unfold iRng2M; simp only [wp_bnd, wp_aVals]
  refine wp_ext fun as e1 => ?_; refine Wo_ext fun ds => ?_
  match ds with
  | [] => rfl
  | [x] => cases x <;> rfl
  | [x, y] => cases x <;> first | rfl | (cases y <;> first | rfl | simp only [int2, Wo_some, wp_iteN, wp_ret])
  | x :: y :: z :: l => cases x <;> cases y <;> rfl
theorem wp_iSeq {m : M D} : wp (iSeq m e) QL X = wp (m e) (fun d e1 => Wo (seqL d) fun l => QL l e1) X := by
  unfold iSeq; simp_arith only [wp_bnd, wp_lift]
theorem wp_iZip {m : M (List Ar)} : wp (iZipM m e) QL X = wp (m e) (fun as e1 => Wo (dVals as) fun ds => Wo (zipD ds) fun l => QL l e1) X := by
  unfold iZipM; simp_arith only [wp_bnd, wp_lift, wp_aVals]
theorem wp_iEnum {m : M (List Ar)} : wp (iEnumM m e) QL X = wp (m e) (fun as e1 => Wo (dVals as) fun ds => Wo (enumD ds) fun l => QL l e1) X := by
  unfold iEnumM; simp_arith only [wp_bnd, wp_lift, wp_aVals]
theorem wp_iLst {m : M D} : wp (iLst m e) QL X = wp (m e) (fun d e1 => Wo (asLst d) fun l => QL l e1) X := by
  unfold iLst; simp only [wp_bnd]
  refine wp_ext fun d e1 => ?_; cases d <;> rfl
theorem wp_iTup {m : M D} : wp (iTupM m e) QL X = wp (m e) (fun d e1 => Wo (asTup d) fun l => QL l e1) X := by
  unfold iTupM; simp only [wp_bnd]
  refine wp_ext fun d e1 => ?_; cases d <;> rfl
theorem zipD_l {l m : List D} : zipD [.lst l, .lst m] = some (zipL l m) := (rfl)
theorem zipD_t {l m : List D} : zipD [.tup l, .tup m] = some (zipL l m) := (rfl)
theorem enumD_l {l : List D} : enumD [.lst l] = some (enumL l) := (rfl)
/-! ### targets of more than one name -/
theorem wp_gNil : wp (gNilM [] e) QU X = QU () e := by with_unfolding_all exact Eq.refl _
theorem wp_gCons {g : D → M Unit} {h : List D → M Unit} {d : D} {ds : List D} : wp (gConsM g h (d :: ds) e) QU X = wp (g d e) (fun _ e1 => wp (h ds e1) QU X) X := by
  unfold gConsM; simp only [wp_bnd]
theorem wp_gSeq {n : Nat} {h : List D → M Unit} {d : D} : wp (gSeqM n h d e) QU X = Wo (seqL d) fun ds => ds.length = n ∧ wp (h ds e) QU X := by
  unfold gSeqM
  cases seqL d with
  | none => rfl
  | some ds => simp only [wp_iteN, Wo_some]
theorem wp_gTup {n : Nat} {h : List D → M Unit} {d : D} : wp (gTupM n h d e) QU X = Wo (asTup d) fun ds => ds.length = n ∧ wp (h ds e) QU X := by
  unfold gTupM
  cases d <;> first | rfl | simp only [asTup, wp_iteN, Wo_some]
theorem wp_gLst {n : Nat} {h : List D → M Unit} {d : D} : wp (gLstM n h d e) QU X = Wo (asLst d) fun ds => ds.length = n ∧ wp (h ds e) QU X := by
  unfold gLstM
  cases d <;> first | rfl | simp only [asLst, wp_iteN, Wo_some]
/-! ### loops -/
theorem wp_sFor {mi : M (List D)} {g : D → M Unit} {b : M Fl} : wp (sFor mi g b e) QF X = wp (mi e) (fun ds e1 => wp (loopF g b ds e1) QF X) X := by
  unfold sFor; simp only [wp_bnd]
theorem wp_loop0 {g : D → M Unit} {b : M Fl} : wp (loopF g b [] e) QF X = QF .nx e := by with_unfolding_all exact Eq.refl _
theorem wp_loop1 {g : D → M Unit} {b : M Fl} {d : D} {ds : List D} : wp (loopF g b (d :: ds) e) QF X = wp (g d e) (fun _ e1 => wp (b e1) (fun fl e2 => Wlp fl (wp (loopF g b ds e2) QF X) fun fl => QF fl e2) X) X := by
  show wp (M.bnd (g d) (fun _ => M.bnd b fun fl => match fl with | .nx => loopF g b ds | .ct => loopF g b ds | .bk => M.ret .nx | .rt r => M.ret (.rt r)) e) QF X = _
  simp only [wp_bnd]
  refine wp_ext fun _ e1 => ?_; simp only [wp_bnd]; refine wp_ext fun fl e2 => ?_
  cases fl <;> rfl
theorem wp_loopN {g : D → M Unit} {b : M Fl} (Inv : Nat → En → Prop) : ∀ (ds : List D) (n : Nat) (e : En), Inv n e →
    (∀ (i : Nat) d e, ds[i]? = some d → Inv (n + i) e → wp (g d e) (fun _ e1 => wp (b e1) (fun fl e2 => Wlp fl (Inv (n + i + 1) e2) fun fl => QF fl e2) X) X) →
    (∀ e, Inv (n + ds.length) e → QF .nx e) → wp (loopF g b ds e) QF X
  | [], n, e, h, _, fin => by with_unfolding_all exact fin e h
  | d :: ds, n, e, h, st, fin => by
    rw [wp_loop1]
    refine wp_mono (st 0 d e rfl h) (fun _ e1 h1 => wp_mono h1 (fun fl e2 h2 => ?_) fun _ _ _ h => h) fun _ _ _ h => h
    have go : Inv (n + 0 + 1) e2 → wp (loopF g b ds e2) QF X := fun h3 => wp_loopN Inv ds (n + 1) e2 h3 (fun i d e q hi => by
      have := st (i + 1) d e q (by rw [show n + (i + 1) = n + 1 + i by omega]; exact hi)
      rw [show n + (i + 1) + 1 = n + 1 + i + 1 by omega] at this
      exact this) fun e he => fin e (by rw [List.length_cons, show n + (ds.length + 1) = n + 1 + ds.length by omega]; exact he)
    cases fl <;> first | exact go h2 | exact h2
theorem wp_loop {g : D → M Unit} {b : M Fl} {ds : List D} (Inv : Nat → En → Prop) (h : Inv 0 e)
    (st : ∀ (i : Nat) d e, ds[i]? = some d → Inv i e → wp (g d e) (fun _ e1 => wp (b e1) (fun fl e2 => Wlp fl (Inv (i + 1) e2) fun fl => QF fl e2) X) X)
    (fin : ∀ e, Inv ds.length e → QF .nx e) : wp (loopF g b ds e) QF X :=
  wp_loopN Inv ds 0 e h (fun i d e q hi => by rw [Nat.zero_add] at hi ⊢; exact st i d e q hi) (by rw [Nat.zero_add]; exact fin)
/-- over a list of things of one kind -/
theorem wp_loopM {g : D → M Unit} {b : M Fl} {l : List α} {f : α → D} (Inv : Nat → En → Prop) (h : Inv 0 e)
    (st : ∀ (i : Nat) (hi : i < l.length) e, Inv i e → wp (g (f l[i]) e) (fun _ e1 => wp (b e1) (fun fl e2 => Wlp fl (Inv (i + 1) e2) fun fl => QF fl e2) X) X)
    (fin : ∀ e, Inv l.length e → QF .nx e) : wp (loopF g b (l.map f) e) QF X := by
  refine wp_loop Inv h (fun i d e q hi => ?_) (by rw [List.length_map]; exact fin)
  rw [List.getElem?_map] at q
  cases z : l[i]? with
  | none => rw [z] at q; cases q
  | some a =>
    obtain ⟨h1, h2⟩ := List.getElem?_eq_some_iff.mp z
    rw [z, ← h2] at q; cases q
    exact st i h1 e hi
theorem wp_loopR {g : D → M Unit} {b : M Fl} {lo : Int} {k : Nat} (Inv : Nat → En → Prop) (h : Inv 0 e)
    (st : ∀ (i : Nat), i < k → ∀ e, Inv i e → wp (g (.int (lo + (i : Int))) e) (fun _ e1 => wp (b e1) (fun fl e2 => Wlp fl (Inv (i + 1) e2) fun fl => QF fl e2) X) X)
    (fin : ∀ e, Inv k e → QF .nx e) : wp (loopF g b (rngL lo k) e) QF X := by
  unfold rngL
  refine wp_loopM Inv h (fun i hi e q => ?_) (by rw [List.length_range]; exact fin)
  rw [List.getElem_range]
  exact st i (by simpa using hi) e q
theorem wp_while {c : M Bool} {b : M Fl} (Inv : Nat → En → Prop) : ∀ (k n : Nat) (e : En), n < k → Inv n e →
    (∀ n e, Inv n e → wp (c e) (fun t e1 => Wif t (wp (b e1) (fun fl e2 => Wlp fl (∃ n', n' < n ∧ Inv n' e2) fun fl => QF fl e2) X) (QF .nx e1)) X) → wp (loopW c b k e) QF X
  | 0, _, _, h, _, _ => absurd h (Nat.not_lt_zero _)
  | k + 1, n, e, hk, h, st => by
    unfold loopW; rw [wp_bnd]
    refine wp_mono (st n e h) (fun t e1 h1 => ?_) fun _ _ _ h => h
    rw [wp_bif]
    cases t with
    | false => with_unfolding_all exact h1
    | true =>
      show wp _ _ _
      rw [wp_bnd]
      refine wp_mono (show wp _ _ _ from h1) (fun fl e2 h2 => ?_) fun _ _ _ h => h
      have go : (∃ n', n' < n ∧ Inv n' e2) → wp (loopW c b k e2) QF X := fun ⟨n', h3, h4⟩ => wp_while Inv k n' e2 (by omega) h4 st
      cases fl <;> first | exact go h2 | with_unfolding_all exact h2
/-! ### comprehensions -/
theorem wp_turnC {g : D → M Unit} {t : M Bool} {m : M D} {d : D} : wp (turnC g t m d e) QY X = wp (g d e) (fun _ e1 => wp (t e1) (fun k e2 => Wif k (wp (m e2) (fun y e3 => QY (some y) e3) X) (QY none e2)) X) X := by
  unfold turnC; simp_arith only [wp_bnd, wp_bif, wp_ret]
theorem wp_rComp {mi : M (List D)} {g : D → M Unit} {t : M Bool} {m : M D} {vs : List Nat} : wp (rComp mi g t m vs e) QR X = wp (mi e) (fun ds e1 => ds.length ≤ LIM ∧ wp (compF g t m vs ds [] e1) (fun l e2 => QR (.ow (.l l)) e2) X) X := by
  unfold rComp; simp_arith only [wp_bnd, wp_iteN, wp_ret]
abbrev X0 : XQ := fun _ _ _ => False
theorem wp_comp0 {g : D → M Unit} {t : M Bool} {m : M D} {vs : List Nat} {acc : List D} : wp (compF g t m vs [] acc e) QL X = QL acc e := by with_unfolding_all exact Eq.refl _
theorem wp_comp1 {g : D → M Unit} {t : M Bool} {m : M D} {vs : List Nat} {d : D} {ds acc : List D} (h0 : noOwn e vs = true) (h : wp (turnC g t m d (wipeE e vs)) (fun o e1 => wp (compF g t m vs ds (acc ++ o.toList) (backE e1 e vs)) QL X) X0) : wp (compF g t m vs (d :: ds) acc e) QL X := by
  unfold compF
  rw [if_pos h0]
  cases q : turnC g t m d (wipeE e vs) with
  | no => rw [q] at h; rw [wp_no] at h; exact h.elim
  | ex c fs e1 => rw [q] at h; rw [wp_ex] at h; exact h.elim
  | ok o e1 =>
    rw [q] at h
    cases o with
    | none =>
      rw [wp_ok, show acc ++ (none : Option D).toList = acc from List.append_nil acc] at h
      exact h
    | some y => with_unfolding_all exact h
theorem wp_compN {g : D → M Unit} {t : M Bool} {m : M D} {vs : List Nat} (Inv : Nat → List D → En → Prop) : ∀ (ds acc : List D) (n : Nat) (e : En), Inv n acc e →
    (∀ (i : Nat) d acc e, ds[i]? = some d → Inv (n + i) acc e → noOwn e vs = true ∧ wp (turnC g t m d (wipeE e vs)) (fun o e1 => Inv (n + i + 1) (acc ++ o.toList) (backE e1 e vs)) X0) →
    (∀ acc e, Inv (n + ds.length) acc e → QL acc e) → wp (compF g t m vs ds acc e) QL X
  | [], acc, n, e, h, _, fin => by with_unfolding_all exact fin acc e h
  | d :: ds, acc, n, e, h, st, fin => by
    obtain ⟨h0, h1⟩ := st 0 d acc e rfl h
    refine wp_comp1 h0 (wp_mono h1 (fun o e1 h2 => ?_) fun _ _ _ h => h)
    refine wp_compN Inv ds _ (n + 1) _ h2 (fun i d acc e q hi => ?_) fun acc e he => fin acc e (by rw [List.length_cons, show n + (ds.length + 1) = n + 1 + ds.length by omega]; exact he)
    have := st (i + 1) d acc e q (by rw [show n + (i + 1) = n + 1 + i by omega]; exact hi)
    rw [show n + (i + 1) + 1 = n + 1 + i + 1 by omega] at this
    exact this
theorem wp_compI {g : D → M Unit} {t : M Bool} {m : M D} {vs : List Nat} {ds : List D} (Inv : Nat → List D → En → Prop) (h : Inv 0 [] e)
    (st : ∀ (i : Nat) d acc e, ds[i]? = some d → Inv i acc e → noOwn e vs = true ∧ wp (turnC g t m d (wipeE e vs)) (fun o e1 => Inv (i + 1) (acc ++ o.toList) (backE e1 e vs)) X0)
    (fin : ∀ acc e, Inv ds.length acc e → QL acc e) : wp (compF g t m vs ds [] e) QL X :=
  wp_compN Inv ds [] 0 e h (fun i d acc e q hi => by rw [Nat.zero_add] at hi ⊢; exact st i d acc e q hi) (by rw [Nat.zero_add]; exact fin)
/-- the names stay as they are: a filter and a map -/
theorem wp_compP {g : D → M Unit} {t : M Bool} {m : M D} {vs : List Nat} {l : List α} {f : α → D} (F : α → Option D) (h0 : noOwn e vs = true)
    (st : ∀ a ∈ l, wp (turnC g t m (f a) (wipeE e vs)) (fun o e1 => o = F a ∧ backE e1 e vs = e) X0)
    (fin : QL (l.filterMap F) e) : wp (compF g t m vs (l.map f) [] e) QL X := by
  suffices ∀ (l : List α) (acc : List D), (∀ a ∈ l, wp (turnC g t m (f a) (wipeE e vs)) (fun o e1 => o = F a ∧ backE e1 e vs = e) X0) → QL (acc ++ l.filterMap F) e → wp (compF g t m vs (l.map f) acc e) QL X from this l [] st (by simpa using fin)
  intro l
  induction l with
  | nil => intro acc _ fin; rw [List.map_nil, wp_comp0]; simpa using fin
  | cons a l ih =>
    intro acc st fin
    rw [List.map_cons]
    refine wp_comp1 h0 (wp_mono (st a List.mem_cons_self) (fun o e1 h => ?_) fun _ _ _ h => h)
    obtain ⟨rfl, h2⟩ := h
    rw [h2]
    refine ih _ (fun b hb => st b (List.mem_cons_of_mem _ hb)) ?_
    rw [List.filterMap_cons] at fin
    cases q : F a with
    | none => rw [q] at fin; simpa using fin
    | some y => rw [q] at fin; simpa using fin
theorem wp_compR {g : D → M Unit} {t : M Bool} {m : M D} {vs : List Nat} {lo : Int} {k : Nat} (F : Nat → Option D) (h0 : noOwn e vs = true)
    (st : ∀ i < k, wp (turnC g t m (.int (lo + (i : Int))) (wipeE e vs)) (fun o e1 => o = F i ∧ backE e1 e vs = e) X0)
    (fin : QL ((List.range k).filterMap F) e) : wp (compF g t m vs (rngL lo k) [] e) QL X := by
  unfold rngL
  exact wp_compP F h0 (fun a ha => st a (List.mem_range.mp ha)) fin
theorem wp_rComp2 {mi : M (List D)} {g : D → M Unit} {t : M Bool} {mi1 : M (List D)} {g1 : D → M Unit} {t1 : M Bool} {m : M D} {vs vs1 : List Nat} : wp (rComp2 mi g t mi1 g1 t1 m vs vs1 e) QR X = wp (mi e) (fun ds e1 => wp (comp2F g t mi1 g1 t1 m vs vs1 ds [] e1) (fun l e2 => QR (.ow (.l l)) e2) X) X := by
  unfold rComp2; simp_arith only [wp_bnd, wp_ret]
/-! ### calls -/
theorem wp_call {sem : FS} {as : List Ar} : wp (callS sem as e) QR X = Wo (argsOf e as) fun args => (ixs as).Nodup ∧ wp (sem args) (fun r o => QR r (putBack as o e)) (fun c fs o => X c fs (putBack as o e)) := by
  unfold callS
  cases argsOf e as with
  | none => rfl
  | some args =>
    show wp (if (ixs as).Nodup then _ else .no) QR X = _
    rw [wp_iteR, Wo_some]
    congr 1
    cases sem args <;> simp only [wp_ok, wp_ex, wp_no]
theorem wp_rCall {sem : FS} {ma : M (List Ar)} : wp (rCall sem ma e) QR X = wp (ma e) (fun as e1 => wp (callS sem as e1) QR X) X := by
  unfold rCall; rw [wp_bnd]
theorem wp_rCallK {sem : FS} {n nk : Nat} {perm : List Nat} {ma mk : M (List Ar)} : wp (rCallK sem n nk perm ma mk e) QR X = wp (ma e) (fun as e1 => wp (mk e1) (fun ks e2 => (as.length = n ∧ ks.length = nk) ∧ wp (callS sem (permL (.d .non) perm (as ++ ks)) e2) QR X) X) X := by
  unfold rCallK; simp_arith only [wp_bnd, wp_iteN]
theorem argsOf_nil : argsOf e [] = some [] := (rfl)
theorem argsOf_d {d : D} {as : List Ar} : argsOf e (.d d :: as) = (argsOf e as).map (.sh d :: ·) := by
  show (match slOf e (.d d), argsOf e as with | some s, some r => some (s :: r) | _, _ => none) = _
  cases argsOf e as <;> rfl
def ioOf (s : Sl) : Option Sl := s.own.map .io
theorem ioOf_ow {x : Ct} : ioOf (.ow x) = some (.io x) := (rfl)
theorem ioOf_io {x : Ct} : ioOf (.io x) = some (.io x) := (rfl)
theorem argsOf_at {i : Nat} {as : List Ar} : argsOf e (.at i :: as) = (e[i]?.bind ioOf).bind fun s => (argsOf e as).map (s :: ·) := by
  show (match slOf e (.at i), argsOf e as with | some s, some r => some (s :: r) | _, _ => none) = _
  unfold slOf
  cases q : e[i]? with
  | none => simp only [q, Option.bind_none]
  | some s => simp only [q, Option.bind_some, ioOf]; cases s.own <;> cases argsOf e as <;> rfl
theorem ixs_nil : ixs [] = [] := (rfl)
theorem ixs_d {d : D} {as : List Ar} : ixs (.d d :: as) = ixs as := (rfl)
theorem ixs_at {i : Nat} {as : List Ar} : ixs (.at i :: as) = i :: ixs as := (rfl)
theorem putBack_nil {o : List Sl} : putBack [] o e = e := by cases o <;> rfl
theorem putBack_d {d : D} {as : List Ar} {s : Sl} {o : List Sl} : putBack (.d d :: as) (s :: o) e = putBack as o e := by rw [putBack, List.drop_one, List.tail_cons]
theorem putBack_d' {d : D} {as : List Ar} {o : List Sl} : putBack (.d d :: as) o e = putBack as (o.drop 1) e := by rw [putBack]
theorem putBack_a {i : Nat} {as : List Ar} {x : Ct} {o : List Sl} : putBack (.at i :: as) (.io x :: o) e = putBack as o (e.set i ((e.getD i .no).put x)) := by rw [putBack]
theorem endR_rt {r : Ret} : endR (.rt r) = some r := (rfl)
theorem endR_nx : endR .nx = some (.sh .non) := (rfl)
theorem wp_sFun {n k : Nat} {b : M Fl} {args : List Sl} : wp (sFun n k b args) QR X = (args.length = k ∧ wp (b (args ++ List.replicate (n - k) .no)) (fun fl e1 => Wo (endR fl) fun r => QR r (e1.take k)) (fun c fs e1 => X c fs (e1.take k))) := by
  unfold sFun; rw [wp_iteR]
  congr 1
  cases b (args ++ List.replicate (n - k) .no) with
  | no => rfl
  | ex c fs e1 => rfl
  | ok fl e1 => cases fl <;> rfl
/-! ### lists of numbers in a row -/
def asNum : D → Option Int
  | .int j => some j
  | _ => none
theorem asNum_ {j : Int} : asNum (.int j) = some j := (rfl)
theorem wp_rLR1 {m : M D} : wp (rLR1 m e) QR X = wp (m e) (fun d e1 => Wo (asNum d) fun j => rngB 0 j = true ∧ QR (.ow (.l (rngL 0 (j - 0).toNat))) e1) X := by
  unfold rLR1; simp only [wp_bnd]
  refine wp_ext fun d e1 => ?_; cases d <;> first | rfl | simp only [asNum, Wo_some, wp_iteN, wp_ret]
theorem wp_eTR1 {m : M D} : wp (eTR1 m e) QD X = wp (m e) (fun d e1 => Wo (asNum d) fun j => rngB 0 j = true ∧ QD (.tup (rngL 0 (j - 0).toNat)) e1) X := by
  unfold eTR1; simp only [wp_bnd]
  refine wp_ext fun d e1 => ?_; cases d <;> first | rfl | simp only [asNum, Wo_some, wp_iteN, wp_ret]
theorem wp_rLR2 {m n : M D} : wp (rLR2 m n e) QR X = wp (m e) (fun d e1 => wp (n e1) (fun d' e2 => Wo (int2 [d, d']) fun z => rngB z.1 z.2 = true ∧ QR (.ow (.l (rngL z.1 (z.2 - z.1).toNat))) e2) X) X := by
  unfold rLR2; simp only [wp_bnd]
  refine wp_ext fun d e1 => ?_; simp only [wp_bnd]; refine wp_ext fun d' e2 => ?_
  cases d <;> cases d' <;> first | rfl | simp only [int2, Wo_some, wp_iteN, wp_ret]
theorem wp_eTR2 {m n : M D} : wp (eTR2 m n e) QD X = wp (m e) (fun d e1 => wp (n e1) (fun d' e2 => Wo (int2 [d, d']) fun z => rngB z.1 z.2 = true ∧ QD (.tup (rngL z.1 (z.2 - z.1).toNat)) e2) X) X := by
  unfold eTR2; simp only [wp_bnd]
  refine wp_ext fun d e1 => ?_; simp only [wp_bnd]; refine wp_ext fun d' e2 => ?_
  cases d <;> cases d' <;> first | rfl | simp only [int2, Wo_some, wp_iteN, wp_ret]
/-! ### objects -/
theorem wp_eFld {tab : List CD} {f : String} {m : M D} : wp (eFld tab f m e) QD X = wp (m e) (fun d e1 => Wo (fld tab f d) fun r => QD r e1) X := by
  unfold eFld; simp_arith only [wp_bnd, wp_lift]
theorem wp_eFldV {tab : List CD} {i : Nat} {f : String} : wp (eFldV tab i f e) QD X = Wo (e[i]?.bind Sl.look) fun d => Wo (fld tab f d) fun r => QD r e := by
  unfold eFldV; simp_arith only [wp_peek, wp_lift]
def ownOb : Sl → Option (String × List (String × D))
  | .ow (.o c fs) => some (c, fs)
  | .io (.o c fs) => some (c, fs)
  | _ => none
theorem ownOb_ow {c : String} {fs : List (String × D)} : ownOb (.ow (.o c fs)) = some (c, fs) := (rfl)
theorem ownOb_io {c : String} {fs : List (String × D)} : ownOb (.io (.o c fs)) = some (c, fs) := (rfl)
theorem wp_sFldS {tab : List CD} {i : Nat} {f : String} {m : M D} : wp (sFldS tab i f m e) QF X = wp (m e) (fun d e1 => Wo (e1[i]?) fun s => Wo (ownOb s) fun z => (hasF tab z.1 f = true ∧ z.2.length < 900) ∧ QF .nx (e1.set i (s.put (.o z.1 ((f, d) :: z.2))))) X := by
  unfold sFldS; simp only [wp_bnd]
  refine wp_ext fun d e1 => ?_
  unfold putO
  cases e1[i]? with
  | none => rfl
  | some s =>
    cases s with
    | no => rfl
    | sh d => rfl
    | ow x => cases x with
      | l l => rfl
      | o c fs => simp only [Sl.own, Wo_some, ownOb, wp_iteR, wp_ok]
    | io x => cases x with
      | l l => rfl
      | o c fs => simp only [Sl.own, Wo_some, ownOb, wp_iteR, wp_ok]
theorem wp_rMeth {c m : String} {sem : FS} {mo : M D} {ma : M (List Ar)} : wp (rMeth c m sem mo ma e) QR X = wp (mo e) (fun d e1 => Wo (selfOf c m d) fun d => wp (ma e1) (fun as e2 => wp (callS sem (.d d :: as) e2) QR X) X) X := by
  unfold rMeth; simp_arith only [wp_bnd, wp_lift]
theorem wp_nox {m : M α} {Q : α → En → Prop} : wp (nox m e) Q X = wp (m e) Q X0 := by
  unfold nox; cases m e <;> rfl
/-! ### data -/
theorem add_i {i j : Int} : fAdd (.int i) (.int j) = some (.sh (.int (i + j))) := (rfl)
theorem add_l {l m : List D} : fAdd (.lst l) (.lst m) = if l.length + m.length ≤ LIM then some (.ow (.l (l ++ m))) else none := (rfl)
theorem add_t {l m : List D} : fAdd (.tup l) (.tup m) = if l.length + m.length ≤ LIM then some (.sh (.tup (l ++ m))) else none := (rfl)
theorem int0_i {g : Int → Int → Int} {i j : Int} : fInt0 g (.int i) (.int j) = some (.sh (.int (g i j))) := (rfl)
theorem cmp_i {g : Int → Int → Bool} {i j : Int} : fCmp g (.int i) (.int j) = some (.sh (.bl (g i j))) := (rfl)
theorem int2_i {C : Int → Int → Bool} {g : Int → Int → Int} {i j : Int} : fInt2 C g (.int i) (.int j) = if C i j = true then some (.sh (.int (g i j))) else none := (rfl)
theorem mul_i {i j : Int} : fMul (.int i) (.int j) = if (-18446744073709551616 < i ∧ i < 18446744073709551616) ∨ (-18446744073709551616 < j ∧ j < 18446744073709551616) then some (.sh (.int (i * j))) else none := by
  show (if mulI i j = true then _ else _) = _
  unfold mulI
  simp only [Bool.or_eq_true, Bool.and_eq_true, decide_eq_true_eq]
  rfl
theorem mul_l {l : List D} {k : Int} : fMul (.lst l) (.int k) = if -(2 ^ 63) ≤ k ∧ k < 2 ^ 63 ∧ l.length * k.toNat ≤ LIM then some (.ow (.l (List.replicate k.toNat l).flatten)) else none := (rfl)
theorem feq_ {a b : D} : fEq a b = (deq a b).map fun k => .sh (.bl k) := (rfl)
theorem fne_ {a b : D} : fNe a b = (deq a b).map fun k => .sh (.bl (!k)) := (rfl)
theorem fis_non {a : D} : fIs a .non = some (.sh (.bl a.isNon)) := (rfl)
theorem fisn_non {a : D} : fIsNot a .non = some (.sh (.bl (!a.isNon))) := (rfl)
theorem fis_bl {j k : Bool} : fIs (.bl j) (.bl k) = some (.sh (.bl (j == k))) := (rfl)
theorem non_ : D.isNon .non = true := (rfl)
theorem non_i {i : Int} : D.isNon (.int i) = false := (rfl)
theorem non_b {i : Bool} : D.isNon (.bl i) = false := (rfl)
theorem non_t {l : List D} : D.isNon (.tup l) = false := (rfl)
theorem non_l {l : List D} : D.isNon (.lst l) = false := (rfl)
theorem deqI {i j : Int} : deq (.int i) (.int j) = some (decide (i = j)) := (rfl)
theorem deqB {i j : Bool} : deq (.bl i) (.bl j) = some (i == j) := (rfl)
theorem len_l {l : List D} : gLen (.lst l) = some (.sh (.int l.length)) := (rfl)
theorem len_t {l : List D} : gLen (.tup l) = some (.sh (.int l.length)) := (rfl)
theorem abs_i {i : Int} : gAbs (.int i) = some (.sh (.int (if i < 0 then -i else i))) := (rfl)
theorem fint_i {i : Int} : gInt (.int i) = some (.sh (.int i)) := (rfl)
theorem fint_b {b : Bool} : gInt (.bl b) = some (.sh (.int (if b then 1 else 0))) := (rfl)
theorem list_l {l : List D} : gList (.lst l) = some (.ow (.l l)) := (rfl)
theorem list_t {l : List D} : gList (.tup l) = some (.ow (.l l)) := (rfl)
theorem tup_l {l : List D} : gTuple (.lst l) = some (.sh (.tup l)) := (rfl)
theorem tup_t {l : List D} : gTuple (.tup l) = some (.sh (.tup l)) := (rfl)
theorem f1_ {g : D → Option Ret} {d : D} : f1 g [d] = g d := (rfl)
theorem ix_l {l : List D} {i : Int} : fIx (.lst l) (.int i) = atI l i := (rfl)
theorem ix_t {l : List D} {i : Int} : fIx (.tup l) (.int i) = atI l i := (rfl)
theorem sl_l {l : List D} {lo hi : Option Int} : fSl (.lst l) lo hi = some (.ow (.l (cutD l lo hi))) := (rfl)
theorem sl_t {l : List D} {lo hi : Option Int} : fSl (.tup l) lo hi = some (.sh (.tup (cutD l lo hi))) := (rfl)
theorem in_l {x : D} {l : List D} : fIn x (.lst l) = (dIn x l).map fun b => .sh (.bl b) := by cases x <;> rfl
theorem in_t {x : D} {l : List D} : fIn x (.tup l) = (dIn x l).map fun b => .sh (.bl b) := by cases x <;> rfl
theorem nin_l {x : D} {l : List D} : fNotIn x (.lst l) = (dIn x l).map fun b => .sh (.bl (!b)) := by cases x <;> rfl
theorem nin_t {x : D} {l : List D} : fNotIn x (.tup l) = (dIn x l).map fun b => .sh (.bl (!b)) := by cases x <;> rfl
theorem rev_l {l : List D} : fRev (.lst l) = some (.ow (.l l.reverse)) := (rfl)
theorem rev_t {l : List D} : fRev (.tup l) = some (.sh (.tup l.reverse)) := (rfl)
theorem append_ {l : List D} {d : D} : lAppend l [d] = if l.length < LIM then some (l ++ [d], .non) else none := (rfl)
theorem extend_ {l m : List D} : lExtend l [.lst m] = if l.length + m.length ≤ LIM then some (l ++ m, .non) else none := (rfl)
theorem lset_ {l : List D} {k : Int} {d : D} : lSet l (.int k) d = (ixN l.length k).map fun j => (l.set j d, .non) := (rfl)
theorem tru_i {i : Int} : dTru (.int i) = some (decide (i ≠ 0)) := by
  unfold dTru; first | rfl | (congr 1; by_cases h : i = 0 <;> simp [h])
theorem tru_b {i : Bool} : dTru (.bl i) = some i := (rfl)
theorem fsum_ {ns : List Int} : gSum (.lst (ns.map .int)) = some (.sh (.int ns.sum)) := by
  show (asInts _).bind _ = _; rw [asInts_map]
theorem fall_ {bs : List Bool} : gAll (.lst (bs.map .bl)) = some (.sh (.bl (bs.all id))) := by
  show (asBls _).bind _ = _; rw [asBls_map]
theorem fany_ {bs : List Bool} : gAny (.lst (bs.map .bl)) = some (.sh (.bl (bs.any id))) := by
  show (asBls _).bind _ = _; rw [asBls_map]
theorem max2_ {i j : Int} : fMax [.int i, .int j] = some (.sh (.int (if j > i then j else i))) := (rfl)
theorem min2_ {i j : Int} : fMin [.int i, .int j] = some (.sh (.int (if j < i then j else i))) := (rfl)
theorem bits_i {i : Int} : gBits (.int i) = some (.int (Builtin.Int.intBits i : Nat)) := (rfl)
end
end DL
end

section
namespace DL
/-! ### a mask of the places below n that keep f -/
def msk (f : Nat → Bool) : Nat → Nat
  | 0 => 0
  | n + 1 => msk f n + if f n then 2 ^ n else 0
theorem msk_lt (f : Nat → Bool) : ∀ n, msk f n < 2 ^ n
  | 0 => by simp [msk]
  | n + 1 => by
    have := msk_lt f n
    unfold msk
    rw [Nat.pow_succ]
    split <;> omega
theorem msk_bit (f : Nat → Bool) : ∀ n b, (msk f n).testBit b = (decide (b < n) && f b)
  | 0, b => by simp [msk]
  | n + 1, b => by
    have h := msk_lt f n
    unfold msk
    by_cases hf : f n = true
    · rw [if_pos hf, Nat.add_comm]
      by_cases hb : b = n
      · subst hb
        rw [Nat.testBit_two_pow_add_eq, Nat.testBit_lt_two_pow h]
        simp [hf]
      · by_cases hlt : b < n
        · rw [Nat.testBit_two_pow_add_gt hlt, msk_bit f n b]
          simp [hlt, Nat.lt_succ_of_lt hlt]
        · have h2 : 2 ^ n + msk f n < 2 ^ b := by
            have : 2 ^ (n + 1) ≤ 2 ^ b := Nat.pow_le_pow_right (by omega) (by omega)
            rw [Nat.pow_succ] at this; omega
          rw [Nat.testBit_lt_two_pow h2]
          have : ¬ b < n + 1 := by omega
          simp [this]
    · rw [if_neg hf, Nat.add_zero, msk_bit f n b]
      by_cases hb : b = n
      · subst hb; simp [hf]
      · have : (b < n + 1) = (b < n) := by apply propext; omega
        simp only [this]
theorem msk_eq {f : Nat → Bool} {n m : Nat} (hm : m < 2 ^ n) (h : ∀ b < n, m.testBit b = f b) : msk f n = m := by
  refine Nat.eq_of_testBit_eq fun b => ?_
  rw [msk_bit]
  by_cases hb : b < n
  · simp [hb, h b hb]
  · rw [Nat.testBit_lt_two_pow (Nat.lt_of_lt_of_le hm (Nat.pow_le_pow_right (by omega) (by omega)))]
    simp [hb]
theorem msk_congr {f g : Nat → Bool} {n : Nat} (h : ∀ b < n, f b = g b) : msk f n = msk g n :=
  msk_eq (msk_lt g n) fun b hb => by rw [msk_bit]; simp [hb, h b hb]
theorem msk_sum (f : Nat → Bool) : ∀ n, (((List.range n).filter f).map fun p => 2 ^ p).sum = msk f n
  | 0 => rfl
  | n + 1 => by
    rw [List.range_succ, List.filter_append, List.map_append, List.sum_append, msk_sum f n]
    show _ = msk f n + if f n then 2 ^ n else 0
    by_cases h : f n = true <;> simp [h, List.filter_cons]
theorem msk_or (f : Nat → Bool) (n : Nat) : msk f n ||| (if f n then 2 ^ n else 0) = msk f (n + 1) := by
  refine Nat.eq_of_testBit_eq fun b => ?_
  rw [Nat.testBit_or, msk_bit, msk_bit]
  by_cases hf : f n = true
  · rw [if_pos hf, Nat.testBit_two_pow]
    by_cases hb : b = n
    · subst hb; simp [hf]
    · have h1 : (b < n + 1) = (b < n) := by apply propext; omega
      have h2 : ¬ n = b := fun z => hb z.symm
      simp [h1, h2]
  · rw [if_neg hf]
    by_cases hb : b = n
    · subst hb; simp [hf]
    · have h1 : (b < n + 1) = (b < n) := by apply propext; omega
      simp [h1]
/-! ### orders -/
abbrev Rl := Nat → Nat → Bool
/-- the relation of a list of masks -/
def rlOf (l : List Nat) : Rl := fun a b => (l.getD a 0).testBit b
def ofRel (n : Nat) (r : Rl) : List Nat := (List.range n).map fun a => msk (r a) n
theorem ofRel_len (n : Nat) (r : Rl) : (ofRel n r).length = n := by simp [ofRel]
theorem ofRel_get {n : Nat} {r : Rl} {a : Nat} (h : a < n) : (ofRel n r).getD a 0 = msk (r a) n := by
  simp [ofRel, List.getD_eq_getElem?_getD, List.getElem?_map, h]
theorem rlOf_ofRel {n : Nat} {r : Rl} {a b : Nat} (ha : a < n) (hb : b < n) : rlOf (ofRel n r) a b = r a b := by
  unfold rlOf
  rw [ofRel_get ha, msk_bit]
  simp [hb]
/-- every mask within the points -/
def Within (n : Nat) (l : List Nat) : Prop := l.length = n ∧ ∀ a < n, l.getD a 0 < 2 ^ n
theorem Within.eq {n : Nat} {l : List Nat} (h : Within n l) : l = ofRel n (rlOf l) := by
  refine List.ext_getElem (by rw [ofRel_len, h.1]) fun i h1 h2 => ?_
  have hi : i < n := by rw [← h.1]; exact h1
  have e1 : l.getD i 0 = l[i] := by simp [List.getD_eq_getElem?_getD, h1]
  have e2 := ofRel_get (r := rlOf l) hi
  rw [List.getD_eq_getElem?_getD, List.getElem?_eq_getElem h2] at e2
  simp only [Option.getD_some] at e2
  rw [e2, ← e1]
  exact (msk_eq (h.2 i hi) fun b hb => rfl).symm
theorem ofRel_within (n : Nat) (r : Rl) : Within n (ofRel n r) := ⟨ofRel_len n r, fun a ha => by rw [ofRel_get ha]; exact msk_lt _ _⟩
theorem ofRel_congr {n : Nat} {r s : Rl} (h : ∀ a < n, ∀ b < n, r a b = s a b) : ofRel n r = ofRel n s := by
  unfold ofRel
  refine List.map_congr_left fun a ha => ?_
  exact msk_congr (h a (List.mem_range.mp ha))
/-- a strict order -/
structure SO (n : Nat) (r : Rl) : Prop where
  irr : ∀ a < n, r a a = false
  tr : ∀ a < n, ∀ b < n, ∀ c < n, r a b = true → r b c = true → r a c = true
theorem SO.asym {n : Nat} {r : Rl} (h : SO n r) {a b : Nat} (ha : a < n) (hb : b < n) (x : r a b = true) : r b a = false := by
  cases q : r b a with
  | false => rfl
  | true => have := h.tr a ha b hb a ha x q; rw [h.irr a ha] at this; cases this
theorem SO.congr {n : Nat} {r s : Rl} (h : SO n r) (e : ∀ a < n, ∀ b < n, s a b = r a b) : SO n s :=
  ⟨fun a ha => by rw [e a ha a ha]; exact h.irr a ha, fun a ha b hb c hc x y => by
    rw [e a ha b hb] at x; rw [e b hb c hc] at y; rw [e a ha c hc]; exact h.tr a ha b hb c hc x y⟩
/-- a list of masks that is a strict order -/
structure Od (n : Nat) (l : List Nat) : Prop where
  w : Within n l
  so : SO n (rlOf l)
theorem Od.of {n : Nat} {r : Rl} (h : SO n r) : Od n (ofRel n r) := ⟨ofRel_within n r, h.congr fun a ha b hb => rlOf_ofRel ha hb⟩
/-! ### the transitive closure, place by place -/
def wsh (r : Rl) : Nat → Rl
  | 0 => r
  | k + 1 => fun a b => wsh r k a b || (wsh r k a k && wsh r k k b)
theorem wsh_row (r : Rl) (k b : Nat) : wsh r (k + 1) k b = wsh r k k b := by
  show (wsh r k k b || (wsh r k k k && wsh r k k b)) = _; cases wsh r k k k <;> cases wsh r k k b <;> rfl
theorem wsh_col (r : Rl) (k a : Nat) : wsh r (k + 1) a k = wsh r k a k := by
  show (wsh r k a k || (wsh r k a k && wsh r k k k)) = _; cases wsh r k k k <;> cases wsh r k a k <;> rfl
theorem wsh_tr (r : Rl) : ∀ k a j b, j < k → wsh r k a j = true → wsh r k j b = true → wsh r k a b = true
  | 0, _, _, _, h, _, _ => absurd h (Nat.not_lt_zero _)
  | k + 1, a, j, b, h, x, y => by
    show (wsh r k a b || (wsh r k a k && wsh r k k b)) = true
    by_cases hj : j = k
    · subst hj
      rw [wsh_col] at x; rw [wsh_row] at y
      simp [x, y]
    · have h' : j < k := by omega
      have x' : (wsh r k a j || (wsh r k a k && wsh r k k j)) = true := x
      have y' : (wsh r k j b || (wsh r k j k && wsh r k k b)) = true := y
      simp only [Bool.or_eq_true, Bool.and_eq_true] at x' y' ⊢
      rcases x' with x1 | ⟨x1, x2⟩ <;> rcases y' with y1 | ⟨y1, y2⟩
      · exact .inl (wsh_tr r k a j b h' x1 y1)
      · exact .inr ⟨wsh_tr r k a j k h' x1 y1, y2⟩
      · exact .inr ⟨x1, wsh_tr r k k j b h' x2 y1⟩
      · exact .inr ⟨x1, y2⟩
theorem wsh_le {r : Rl} {n : Nat} {t : Nat → Nat → Prop} (tt : ∀ a < n, ∀ b < n, ∀ c < n, t a b → t b c → t a c) (h : ∀ a < n, ∀ b < n, r a b = true → t a b) : ∀ k ≤ n, ∀ a < n, ∀ b < n, wsh r k a b = true → t a b
  | 0, _, a, ha, b, hb, x => h a ha b hb x
  | k + 1, hk, a, ha, b, hb, x => by
    have x' : (wsh r k a b || (wsh r k a k && wsh r k k b)) = true := x
    simp only [Bool.or_eq_true, Bool.and_eq_true] at x'
    rcases x' with x1 | ⟨x1, x2⟩
    · exact wsh_le tt h k (by omega) a ha b hb x1
    · exact tt a ha k (by omega) b hb (wsh_le tt h k (by omega) a ha k (by omega) x1) (wsh_le tt h k (by omega) k (by omega) b hb x2)
theorem wsh_ge {r : Rl} : ∀ k a b, r a b = true → wsh r k a b = true
  | 0, _, _, x => x
  | k + 1, a, b, x => by
    show (wsh r k a b || _) = true
    rw [wsh_ge k a b x]; rfl
/-- of an order it is the order -/
theorem wsh_so {n : Nat} {r : Rl} (h : SO n r) {a b : Nat} (ha : a < n) (hb : b < n) : wsh r n a b = r a b := by
  cases q : r a b with
  | true => exact wsh_ge n a b q
  | false =>
    cases z : wsh r n a b with
    | false => rfl
    | true =>
      have := wsh_le (t := fun a b => r a b = true) (fun a ha b hb c hc => h.tr a ha b hb c hc) (fun a _ b _ x => x) n (Nat.le_refl _) a ha b hb z
      rw [q] at this; cases this
/-- of pairs that rise it is an order -/
theorem wsh_up {n : Nat} {r : Rl} (h : ∀ a < n, ∀ b < n, r a b = true → a < b) : SO n (wsh r n) := by
  have le := wsh_le (r := r) (n := n) (t := fun a b => a < b) (fun a _ b _ c _ x y => Nat.lt_trans x y) h n (Nat.le_refl _)
  refine ⟨fun a ha => ?_, fun a ha b hb c hc x y => wsh_tr r n a b c hb x y⟩
  cases q : wsh r n a a with
  | false => rfl
  | true => exact absurd (le a ha a ha q) (Nat.lt_irrefl _)
/-- a step of it, in place: rows below a are done -/
def wstep (r : Rl) (k a : Nat) : Rl := fun x b => if x < a then wsh r (k + 1) x b else wsh r k x b
theorem wstep_0 (r : Rl) (k x b : Nat) : wstep r k 0 x b = wsh r k x b := by simp [wstep]
theorem wstep_n {n : Nat} (r : Rl) (k x b : Nat) (h : x < n) : wstep r k n x b = wsh r (k + 1) x b := by simp [wstep, h]
theorem wstep_k (r : Rl) (k a b : Nat) : wstep r k a k b = wsh r k k b := by
  unfold wstep; split
  · exact wsh_row r k b
  · rfl
/-! ### other names of the points -/
/-- p has the places below n, each once -/
def Pm' (n : Nat) (p : List Nat) : Prop := p.Perm (List.range n)
section
variable {n : Nat} {p : List Nat}
theorem Pm'.len (h : Pm' n p) : p.length = n := by rw [h.length_eq, List.length_range]
theorem Pm'.nd (h : Pm' n p) : p.Nodup := (List.Perm.nodup_iff h).mpr List.nodup_range
theorem Pm'.mem (h : Pm' n p) {x : Nat} : x ∈ p ↔ x < n := by rw [h.mem_iff, List.mem_range]
theorem Pm'.get_lt (h : Pm' n p) {a : Nat} (ha : a < n) : p.getD a 0 < n := by
  have : a < p.length := by rw [h.len]; exact ha
  rw [List.getD_eq_getElem?_getD, List.getElem?_eq_getElem this]
  exact h.mem.mp (List.getElem_mem _)
theorem nodup_inj : ∀ {l : List Nat}, l.Nodup → ∀ i j : Nat, (hi : i < l.length) → (hj : j < l.length) → l[i] = l[j] → i = j
  | [], _, i, _, hi, _, _ => absurd hi (Nat.not_lt_zero _)
  | x :: l, h, i, j, hi, hj, e => by
    have h1 := List.nodup_cons.mp h
    cases i with
    | zero => cases j with
      | zero => rfl
      | succ j =>
        simp only [List.getElem_cons_zero, List.getElem_cons_succ] at e
        exact absurd (e ▸ List.getElem_mem _) h1.1
    | succ i => cases j with
      | zero =>
        simp only [List.getElem_cons_zero, List.getElem_cons_succ] at e
        exact absurd (e ▸ List.getElem_mem _) h1.1
      | succ j =>
        simp only [List.getElem_cons_succ] at e
        rw [nodup_inj h1.2 i j (by simpa using hi) (by simpa using hj) e]
theorem Pm'.inj (h : Pm' n p) {a b : Nat} (ha : a < n) (hb : b < n) (e : p.getD a 0 = p.getD b 0) : a = b := by
  have h1 : a < p.length := by rw [h.len]; exact ha
  have h2 : b < p.length := by rw [h.len]; exact hb
  rw [List.getD_eq_getElem?_getD, List.getElem?_eq_getElem h1, List.getD_eq_getElem?_getD, List.getElem?_eq_getElem h2] at e
  exact nodup_inj h.nd a b h1 h2 e
theorem Pm'.sur (h : Pm' n p) {c : Nat} (hc : c < n) : ∃ a < n, p.getD a 0 = c := by
  have : c ∈ p := h.mem.mpr hc
  obtain ⟨i, hi, e⟩ := List.getElem_of_mem this
  exact ⟨i, by rw [← h.len]; exact hi, by rw [List.getD_eq_getElem?_getD, List.getElem?_eq_getElem hi]; exact e⟩
end
/-- the order under other names -/
def ren (n : Nat) (r : Rl) (p : List Nat) : Rl := fun x y => (List.range n).any fun a => (List.range n).any fun b => r a b && (p.getD a 0 == x && p.getD b 0 == y)
theorem ren_iff {n : Nat} {r : Rl} {p : List Nat} {x y : Nat} : ren n r p x y = true ↔ ∃ a < n, ∃ b < n, r a b = true ∧ p.getD a 0 = x ∧ p.getD b 0 = y := by
  unfold ren
  simp only [List.any_eq_true, List.mem_range, Bool.and_eq_true, beq_iff_eq]
theorem ren_so {n : Nat} {r : Rl} {p : List Nat} (hp : Pm' n p) (h : SO n r) : SO n (ren n r p) := by
  refine ⟨fun x hx => ?_, fun x hx y hy z hz h1 h2 => ?_⟩
  · cases q : ren n r p x x with
    | false => rfl
    | true =>
      obtain ⟨a, ha, b, hb, h1, h2, h3⟩ := ren_iff.mp q
      have := hp.inj ha hb (h2.trans h3.symm)
      subst this
      rw [h.irr a ha] at h1; cases h1
  · obtain ⟨a, ha, b, hb, k1, k2, k3⟩ := ren_iff.mp h1
    obtain ⟨b', hb', c, hc, g1, g2, g3⟩ := ren_iff.mp h2
    have := hp.inj hb hb' (k3.trans g2.symm)
    subst this
    exact ren_iff.mpr ⟨a, ha, c, hc, h.tr a ha b hb c hc k1 g1, k2, g3⟩
/-- the row of a named point -/
theorem ren_row {n : Nat} {r : Rl} {p : List Nat} (hp : Pm' n p) {a b : Nat} (ha : a < n) (hb : b < n) : ren n r p (p.getD a 0) (p.getD b 0) = r a b := by
  cases q : r a b with
  | true => exact ren_iff.mpr ⟨a, ha, b, hb, q, rfl, rfl⟩
  | false =>
    cases z : ren n r p (p.getD a 0) (p.getD b 0) with
    | false => rfl
    | true =>
      obtain ⟨a', ha', b', hb', k1, k2, k3⟩ := ren_iff.mp z
      have e1 := hp.inj ha' ha k2
      have e2 := hp.inj hb' hb k3
      subst e1; subst e2
      rw [q] at k1; cases k1
end DL
end

section
namespace DL
open PySem PySem.Spec L2
open PyProof.Rows hiding St
/-! ### lists written out -/
section
variable {α : Type} {a b : α} {l m : List α} {n : Nat}
theorem gq0 : (a :: l)[0]? = some a := (rfl)
theorem gqs : (a :: l)[n + 1]? = l[n]? := (rfl)
theorem st0 : (a :: l).set 0 b = b :: l := (rfl)
theorem sts : (a :: l).set (n + 1) b = a :: l.set n b := (rfl)
theorem gd0 : (a :: l).getD 0 b = a := (rfl)
theorem gds : (a :: l).getD (n + 1) b = l.getD n b := by simp
theorem rp0 : List.replicate 0 a = [] := (rfl)
theorem rps : List.replicate (n + 1) a = a :: List.replicate n a := (rfl)
theorem ap0 : [] ++ l = l := (rfl)
theorem aps : (a :: l) ++ m = a :: (l ++ m) := (rfl)
theorem tk0 : (a :: l).take 0 = [] := (rfl)
theorem tks : (a :: l).take (n + 1) = a :: l.take n := (rfl)
theorem tkn : ([] : List α).take n = [] := by simp
theorem ln0 : ([] : List α).length = 0 := (rfl)
theorem lns : (a :: l).length = l.length + 1 := (rfl)
theorem bd_some {β : Type} {f : α → Option β} : (some a).bind f = f a := (rfl)
theorem bd_none {β : Type} {f : α → Option β} : (none : Option α).bind f = none := (rfl)
theorem mp_some {β : Type} {f : α → β} : (some a).map f = some (f a) := (rfl)
theorem mp_none {β : Type} {f : α → β} : (none : Option α).map f = none := (rfl)
theorem iss_some : (some a).isSome = true := (rfl)
end
theorem wipe_nil {e : En} : wipeE e [] = e := (rfl)
theorem wipe_cons {e : En} {v : Nat} {vs : List Nat} : wipeE e (v :: vs) = (wipeE e vs).set v .no := (rfl)
theorem back_nil {e e0 : En} : backE e e0 [] = e := (rfl)
theorem back_cons {e e0 : En} {v : Nat} {vs : List Nat} : backE e e0 (v :: vs) = (backE e e0 vs).set v (e0.getD v .no) := (rfl)
theorem lim_ : LIM = 1000000 := (rfl)
theorem atN_ {α : Type} {l : List α} {i : Nat} : L2.atI l (i : Int) = l[i]? := by
  unfold L2.atI L2.ixN
  rw [if_pos (by omega : (0 : Int) ≤ (i : Int))]
  by_cases h : i < l.length
  · rw [if_pos (by omega : (i : Int) < (l.length : Int))]; rfl
  · rw [if_neg (by omega : ¬ (i : Int) < (l.length : Int)), List.getElem?_eq_none (by omega)]; rfl
theorem ixN_ {n i : Nat} : L2.ixN n (i : Int) = if i < n then some i else none := by
  unfold L2.ixN
  rw [if_pos (by omega : (0 : Int) ≤ (i : Int))]
  by_cases h : i < n
  · rw [if_pos (by omega : (i : Int) < (n : Int)), if_pos h]; rfl
  · rw [if_neg (by omega : ¬ (i : Int) < (n : Int)), if_neg h]
theorem atL0 {α : Type} {x0 : α} {l : List α} : L2.atI (x0 :: l) 0 = some x0 := (atN_ (l := x0 :: l) (i := 0)).trans rfl
theorem ixL0 {n : Nat} : L2.ixN n 0 = if 0 < n then some 0 else none := ixN_ (n := n) (i := 0)
theorem atL1 {α : Type} {x0 x1 : α} {l : List α} : L2.atI (x0 :: x1 :: l) 1 = some x1 := (atN_ (l := x0 :: x1 :: l) (i := 1)).trans rfl
theorem ixL1 {n : Nat} : L2.ixN n 1 = if 1 < n then some 1 else none := ixN_ (n := n) (i := 1)
theorem atL2 {α : Type} {x0 x1 x2 : α} {l : List α} : L2.atI (x0 :: x1 :: x2 :: l) 2 = some x2 := (atN_ (l := x0 :: x1 :: x2 :: l) (i := 2)).trans rfl
theorem ixL2 {n : Nat} : L2.ixN n 2 = if 2 < n then some 2 else none := ixN_ (n := n) (i := 2)
theorem atL3 {α : Type} {x0 x1 x2 x3 : α} {l : List α} : L2.atI (x0 :: x1 :: x2 :: x3 :: l) 3 = some x3 := (atN_ (l := x0 :: x1 :: x2 :: x3 :: l) (i := 3)).trans rfl
theorem ixL3 {n : Nat} : L2.ixN n 3 = if 3 < n then some 3 else none := ixN_ (n := n) (i := 3)
theorem atL4 {α : Type} {x0 x1 x2 x3 x4 : α} {l : List α} : L2.atI (x0 :: x1 :: x2 :: x3 :: x4 :: l) 4 = some x4 := (atN_ (l := x0 :: x1 :: x2 :: x3 :: x4 :: l) (i := 4)).trans rfl
theorem ixL4 {n : Nat} : L2.ixN n 4 = if 4 < n then some 4 else none := ixN_ (n := n) (i := 4)
theorem atL5 {α : Type} {x0 x1 x2 x3 x4 x5 : α} {l : List α} : L2.atI (x0 :: x1 :: x2 :: x3 :: x4 :: x5 :: l) 5 = some x5 := (atN_ (l := x0 :: x1 :: x2 :: x3 :: x4 :: x5 :: l) (i := 5)).trans rfl
theorem ixL5 {n : Nat} : L2.ixN n 5 = if 5 < n then some 5 else none := ixN_ (n := n) (i := 5)
theorem atL6 {α : Type} {x0 x1 x2 x3 x4 x5 x6 : α} {l : List α} : L2.atI (x0 :: x1 :: x2 :: x3 :: x4 :: x5 :: x6 :: l) 6 = some x6 := (atN_ (l := x0 :: x1 :: x2 :: x3 :: x4 :: x5 :: x6 :: l) (i := 6)).trans rfl
theorem ixL6 {n : Nat} : L2.ixN n 6 = if 6 < n then some 6 else none := ixN_ (n := n) (i := 6)
theorem atL7 {α : Type} {x0 x1 x2 x3 x4 x5 x6 x7 : α} {l : List α} : L2.atI (x0 :: x1 :: x2 :: x3 :: x4 :: x5 :: x6 :: x7 :: l) 7 = some x7 := (atN_ (l := x0 :: x1 :: x2 :: x3 :: x4 :: x5 :: x6 :: x7 :: l) (i := 7)).trans rfl
theorem ixL7 {n : Nat} : L2.ixN n 7 = if 7 < n then some 7 else none := ixN_ (n := n) (i := 7)
theorem atL8 {α : Type} {x0 x1 x2 x3 x4 x5 x6 x7 x8 : α} {l : List α} : L2.atI (x0 :: x1 :: x2 :: x3 :: x4 :: x5 :: x6 :: x7 :: x8 :: l) 8 = some x8 := (atN_ (l := x0 :: x1 :: x2 :: x3 :: x4 :: x5 :: x6 :: x7 :: x8 :: l) (i := 8)).trans rfl
theorem ixL8 {n : Nat} : L2.ixN n 8 = if 8 < n then some 8 else none := ixN_ (n := n) (i := 8)
theorem atL9 {α : Type} {x0 x1 x2 x3 x4 x5 x6 x7 x8 x9 : α} {l : List α} : L2.atI (x0 :: x1 :: x2 :: x3 :: x4 :: x5 :: x6 :: x7 :: x8 :: x9 :: l) 9 = some x9 := (atN_ (l := x0 :: x1 :: x2 :: x3 :: x4 :: x5 :: x6 :: x7 :: x8 :: x9 :: l) (i := 9)).trans rfl
theorem ixL9 {n : Nat} : L2.ixN n 9 = if 9 < n then some 9 else none := ixN_ (n := n) (i := 9)
theorem atL10 {α : Type} {x0 x1 x2 x3 x4 x5 x6 x7 x8 x9 x10 : α} {l : List α} : L2.atI (x0 :: x1 :: x2 :: x3 :: x4 :: x5 :: x6 :: x7 :: x8 :: x9 :: x10 :: l) 10 = some x10 := (atN_ (l := x0 :: x1 :: x2 :: x3 :: x4 :: x5 :: x6 :: x7 :: x8 :: x9 :: x10 :: l) (i := 10)).trans rfl
theorem ixL10 {n : Nat} : L2.ixN n 10 = if 10 < n then some 10 else none := ixN_ (n := n) (i := 10)
theorem atL11 {α : Type} {x0 x1 x2 x3 x4 x5 x6 x7 x8 x9 x10 x11 : α} {l : List α} : L2.atI (x0 :: x1 :: x2 :: x3 :: x4 :: x5 :: x6 :: x7 :: x8 :: x9 :: x10 :: x11 :: l) 11 = some x11 := (atN_ (l := x0 :: x1 :: x2 :: x3 :: x4 :: x5 :: x6 :: x7 :: x8 :: x9 :: x10 :: x11 :: l) (i := 11)).trans rfl
theorem ixL11 {n : Nat} : L2.ixN n 11 = if 11 < n then some 11 else none := ixN_ (n := n) (i := 11)
theorem atL12 {α : Type} {x0 x1 x2 x3 x4 x5 x6 x7 x8 x9 x10 x11 x12 : α} {l : List α} : L2.atI (x0 :: x1 :: x2 :: x3 :: x4 :: x5 :: x6 :: x7 :: x8 :: x9 :: x10 :: x11 :: x12 :: l) 12 = some x12 := (atN_ (l := x0 :: x1 :: x2 :: x3 :: x4 :: x5 :: x6 :: x7 :: x8 :: x9 :: x10 :: x11 :: x12 :: l) (i := 12)).trans rfl
theorem ixL12 {n : Nat} : L2.ixN n 12 = if 12 < n then some 12 else none := ixN_ (n := n) (i := 12)
theorem atL13 {α : Type} {x0 x1 x2 x3 x4 x5 x6 x7 x8 x9 x10 x11 x12 x13 : α} {l : List α} : L2.atI (x0 :: x1 :: x2 :: x3 :: x4 :: x5 :: x6 :: x7 :: x8 :: x9 :: x10 :: x11 :: x12 :: x13 :: l) 13 = some x13 := (atN_ (l := x0 :: x1 :: x2 :: x3 :: x4 :: x5 :: x6 :: x7 :: x8 :: x9 :: x10 :: x11 :: x12 :: x13 :: l) (i := 13)).trans rfl
theorem ixL13 {n : Nat} : L2.ixN n 13 = if 13 < n then some 13 else none := ixN_ (n := n) (i := 13)
theorem atL14 {α : Type} {x0 x1 x2 x3 x4 x5 x6 x7 x8 x9 x10 x11 x12 x13 x14 : α} {l : List α} : L2.atI (x0 :: x1 :: x2 :: x3 :: x4 :: x5 :: x6 :: x7 :: x8 :: x9 :: x10 :: x11 :: x12 :: x13 :: x14 :: l) 14 = some x14 := (atN_ (l := x0 :: x1 :: x2 :: x3 :: x4 :: x5 :: x6 :: x7 :: x8 :: x9 :: x10 :: x11 :: x12 :: x13 :: x14 :: l) (i := 14)).trans rfl
theorem ixL14 {n : Nat} : L2.ixN n 14 = if 14 < n then some 14 else none := ixN_ (n := n) (i := 14)
theorem atL15 {α : Type} {x0 x1 x2 x3 x4 x5 x6 x7 x8 x9 x10 x11 x12 x13 x14 x15 : α} {l : List α} : L2.atI (x0 :: x1 :: x2 :: x3 :: x4 :: x5 :: x6 :: x7 :: x8 :: x9 :: x10 :: x11 :: x12 :: x13 :: x14 :: x15 :: l) 15 = some x15 := (atN_ (l := x0 :: x1 :: x2 :: x3 :: x4 :: x5 :: x6 :: x7 :: x8 :: x9 :: x10 :: x11 :: x12 :: x13 :: x14 :: x15 :: l) (i := 15)).trans rfl
theorem ixL15 {n : Nat} : L2.ixN n 15 = if 15 < n then some 15 else none := ixN_ (n := n) (i := 15)
theorem tru_n : dTru .non = some false := (rfl)
theorem tru_l {l : List D} : dTru (.lst l) = some (!l.isEmpty) := (rfl)
theorem tru_t {l : List D} : dTru (.tup l) = some (!l.isEmpty) := (rfl)
theorem y_nodup : ([] : List Nat).Nodup = True := by simp
theorem y_ta {p : Prop} : (True ∧ p) = p := by simp
theorem y_at {p : Prop} : (p ∧ True) = p := by simp
theorem y_es {α : Sort u} {a : α} : (a = a) = True := by simp
theorem y_ba {a b : Bool} : ((a && b) = true) = (a = true ∧ b = true) := by simp
theorem y_de {p : Prop} [Decidable p] : (decide p = true) = p := by simp
theorem y_it {α : Sort u} {a b : α} : (if True then a else b) = a := by simp
theorem y_if {α : Sort u} {a b : α} : (if False then a else b) = b := by simp
theorem y_ot {p : Prop} : (p ∨ True) = True := by simp
theorem y_to {p : Prop} : (True ∨ p) = True := by simp
theorem y_tl0 {α : Type} : (none : Option α).toList = [] := (rfl)
theorem y_tl1 {α : Type} {a : α} : (some a).toList = [a] := (rfl)
theorem nodup1 {i : Nat} : [i].Nodup = True := by simp
theorem Wif_nott {k : Bool} {A B : Prop} : Wif (!k) A B = Wif k B A := Wif_not
theorem wp_use {α : Type} {r : R α} {Q Q' : α → En → Prop} {X X' : XQ} (h : wp r Q' X') (hq : ∀ a e, Q' a e → Q a e) (hx : ∀ c fs e, X' c fs e → X c fs e) : wp r Q X := wp_mono h hq hx
end DL
end

section
namespace DL
open PySem PySem.Spec L2
open PyProof.Rows hiding St
/-! ### in steps -/
theorem wp_seqC {m n : M Fl} {e : En} {QF : Fl → En → Prop} {X : XQ} (P : En → Prop) (h1 : wp (m e) (fun fl e1 => fl = .nx ∧ P e1) X0) (h2 : ∀ e1, P e1 → wp (n e1) QF X) : wp (sSeq m n e) QF X := by
  rw [wp_sSeq]
  exact wp_mono h1 (fun fl e1 ⟨a, b⟩ => by rw [a, Wfl_nx]; exact h2 e1 b) fun _ _ _ h => h.elim
theorem wp_ifD {c : M Bool} {m n : M Fl} {e : En} {QF : Fl → En → Prop} {X : XQ} (P : Prop) [Decidable P] (hc : wp (c e) (fun k e1 => k = decide P ∧ e1 = e) X0) (h1 : P → wp (m e) QF X) (h2 : ¬ P → wp (n e) QF X) : wp (sIf c m n e) QF X := by
  rw [wp_sIf]
  refine wp_mono hc (fun k e1 ⟨a, b⟩ => ?_) fun _ _ _ h => h.elim
  rw [a, b]
  exact wif_d h1 h2
theorem wp_funC {n k : Nat} {b : M Fl} {args : List Sl} {QR : Ret → En → Prop} {X : XQ} (h : args.length = k) (h' : wp (b (args ++ List.replicate (n - k) .no)) (fun fl e1 => Wo (endR fl) fun r => QR r (e1.take k)) (fun c fs e1 => X c fs (e1.take k))) : wp (sFun n k b args) QR X := by
  rw [wp_sFun]; exact ⟨h, h'⟩
/-! ### masks at given numbers -/
theorem sh1_ {b : Nat} : (1 : Int) * 2 ^ (b : Int).toNat = ((2 ^ b : Nat) : Int) := by simp
theorem shn_ {m b : Nat} : (m : Int) * 2 ^ (b : Int).toNat = ((m * 2 ^ b : Nat) : Int) := by simp
theorem or_ {a b : Nat} : Builtin.bitOr (a : Int) (b : Int) = ((a ||| b : Nat) : Int) := or_nat a b
theorem or0_ {b : Nat} : Builtin.bitOr 0 (b : Int) = ((0 ||| b : Nat) : Int) := or_nat 0 b
theorem and_ {a b : Nat} : Builtin.bitAnd (a : Int) (b : Int) = ((a &&& b : Nat) : Int) := and_nat a b
theorem andn_ {a b : Nat} : Builtin.bitAnd (a : Int) (Builtin.bitNot (b : Int)) = ((a - (a &&& b) : Nat) : Int) := andnot_nat a b
theorem bit_ {m p : Nat} : Builtin.bitAnd ((m : Int) / 2 ^ (p : Int).toNat) 1 = if m.testBit p then 1 else 0 := shr_bit m p
theorem toNat_ {m : Nat} : ((m : Int)).toNat = m := by simp
theorem sh1b_ {b : Nat} : (1 : Int) * 2 ^ b = ((2 ^ b : Nat) : Int) := by simp
theorem shnb_ {m b : Nat} : (m : Int) * 2 ^ b = ((m * 2 ^ b : Nat) : Int) := by simp
theorem bitb_ {m p : Nat} : Builtin.bitAnd ((m : Int) / 2 ^ p) 1 = if m.testBit p then 1 else 0 := by have := shr_bit m p; rwa [toNat_] at this
theorem bit_t {b : Bool} : decide ((if b = true then (1 : Int) else 0) ≠ 0) = b := by cases b <;> rfl
theorem bit_1 {b : Bool} : decide ((if b = true then (1 : Int) else 0) = 1) = b := by cases b <;> rfl
theorem bit_0 {b : Bool} : decide ((if b = true then (1 : Int) else 0) = 0) = !b := by cases b <;> rfl
theorem natAbs_ {m : Nat} : (m : Int).natAbs = m := by simp
theorem natAbs1_ : (1 : Int).natAbs = 1 := by simp
theorem nn_ {m : Nat} : (0 ≤ (m : Int)) = True := by simp
theorem toNat0_ {m : Nat} : ((m : Int) - 0).toNat = m := by simp
theorem lelit_ {m : Nat} : ((m : Int) ≤ 1000000) = (m ≤ 1000000) := by apply propext; omega
theorem lt_ {m k : Nat} : ((m : Int) < (k : Int)) = (m < k) := by simp
theorem le_ {m k : Nat} : ((m : Int) ≤ (k : Int)) = (m ≤ k) := by simp
theorem eq_ {m k : Nat} : ((m : Int) = (k : Int)) = (m = k) := propext Int.ofNat_inj
theorem eq0_ {m : Nat} : ((m : Int) = 0) = (m = 0) := by apply propext; omega
theorem zadd_ {m : Nat} : (0 : Int) + (m : Int) = (m : Int) := by simp
theorem subn_ {a b : Nat} : ((b : Int) - (a : Int)).toNat = b - a := by omega
theorem small_n {n : Nat} (h : n < 2 ^ 62) : small62 (n : Int) = true := small_of h
theorem rngB_n {n : Nat} (h : n ≤ 1000) : rngB 0 (n : Int) = true := by
  have hn : n < 2 ^ 62 := Nat.lt_of_le_of_lt h (by decide)
  unfold rngB
  rw [small_of hn, show small62 0 = true from rfl, decide_eq_true (by unfold LIM; omega)]; rfl
theorem decF_ : decide False = false := by simp
theorem decT_ : decide True = true := by simp
theorem ne_self {a : Int} : (a ≠ a) = False := by simp
theorem neI_ {a b : Int} : (decide (a = b)).not = decide (a ≠ b) := by simp
theorem zne1_ : ((1 : Int) ≠ 0) = True := by simp
theorem bft_ : (false = true) = False := by simp
theorem b_tt : (true == true) = true := (rfl)
theorem b_ff : (false == false) = true := (rfl)
theorem b_tf : (true == false) = false := (rfl)
theorem b_ft : (false == true) = false := (rfl)
theorem n_t : (!true) = false := (rfl)
theorem n_f : (!false) = true := (rfl)
theorem own_no : Sl.own .no = none := (rfl)
theorem own_sh {d : D} : Sl.own (.sh d) = none := (rfl)
/-! ### lists of numbers -/
theorem natsD_get {l : List Nat} {i : Nat} : (natsD l)[i]? = (l[i]?).map fun p : Nat => D.int p := by simp [natsD]
theorem natsD_ln {l : List Nat} : (natsD l).length = l.length := natsD_len l
theorem natsD_set {l : List Nat} {i m : Nat} : (natsD l).set i (.int (m : Int)) = natsD (l.set i m) := by simp [natsD, List.map_set]
theorem natsD_app {l m : List Nat} : natsD l ++ natsD m = natsD (l ++ m) := by simp [natsD]
theorem natsD_app1 {l : List Nat} {m : Nat} : natsD l ++ [.int (m : Int)] = natsD (l ++ [m]) := by simp [natsD]
theorem natsD_nil : natsD [] = [] := rfl
theorem natsD_erase {l : List Nat} {i : Nat} : (natsD l).eraseIdx i = natsD (l.eraseIdx i) := by
  unfold natsD; induction l generalizing i with
  | nil => rfl
  | cons a l ih => cases i with
    | zero => rfl
    | succ i => simp only [List.map_cons, List.eraseIdx_cons_succ, ih]
theorem gq_get {l : List Nat} {i : Nat} (h : i < l.length) : l[i]? = some (l.getD i 0) := by
  rw [List.getD_eq_getElem?_getD, List.getElem?_eq_getElem h]; rfl
theorem nats_ok (l : List Nat) : okD (.lst (natsD l)) = true := by rw [natsD_ints]; exact ok_lstI _
theorem nats_nil (l : List Nat) : deq (.lst (natsD l)) (.lst []) = some l.isEmpty := by
  rw [deq_nil (nats_ok l)]; cases l <;> rfl
theorem nats_sum (l : List Nat) : gSum (.lst (natsD l)) = some (.sh (.int (l.sum : Nat))) := by
  rw [natsD_ints, show intsD _ = List.map D.int _ from rfl, fsum_]
  congr 3
  induction l with
  | nil => rfl
  | cons a l ih => simp only [List.map_cons, List.sum_cons, ih]; omega
theorem nats_lenD {l : List Nat} : gLen (.lst (natsD l)) = some (.sh (.int l.length)) := by rw [len_l, natsD_len]
theorem pop_nat {l : List Nat} {r : Nat} (h : r < l.length) (h2 : l.length ≤ 1000) : lPop (natsD l) [.int (r : Int)] = some (natsD (l.eraseIdx r), .int (l.getD r 0 : Nat)) := by
  unfold lPop
  dsimp only
  rw [if_pos (small_of (Nat.lt_of_lt_of_le (Nat.lt_of_lt_of_le h h2) (by decide)))]
  have : seqIndex? (r : Int) (natsD l).length = some r := by
    have := (ixN_seq (n := (natsD l).length) (i := (r : Int)) (j := r) (by rw [ixN_, if_pos (by rw [natsD_len]; exact h)])).1
    exact this
  rw [this, bd_some, natsD_get, gq_get h, natsD_erase]
  rfl
theorem rng_nat (k : Nat) : rngL 0 k = natsD (List.range k) := rng_nats k
theorem perm_erase {l : List Nat} : ∀ {r : Nat} (h : r < l.length), (l[r] :: l.eraseIdx r).Perm l := by
  induction l with
  | nil => intro r h; exact absurd h (Nat.not_lt_zero _)
  | cons a l ih =>
    intro r h
    cases r with
    | zero => exact List.Perm.refl _
    | succ r =>
      simp only [List.getElem_cons_succ, List.eraseIdx_cons_succ]
      exact (List.Perm.swap _ _ _).trans (List.Perm.cons a (ih (by simpa using h)))
theorem muln_ {a b : Nat} : (a : Int) * (b : Int) = ((a * b : Nat) : Int) := by simp
theorem addn_ {a b : Nat} : (a : Int) + (b : Int) = ((a + b : Nat) : Int) := by simp
theorem wp_compD {g : D → M Unit} {t : M Bool} {m : M D} {vs : List Nat} {e : En} {QL : List D → En → Prop} {X : XQ} {l : List Nat} (F : Nat → Option D) (h0 : noOwn e vs = true)
    (st : ∀ a ∈ l, wp (turnC g t m (.int (a : Int)) (wipeE e vs)) (fun o e1 => o = F a ∧ backE e1 e vs = e) X0)
    (fin : QL (l.filterMap F) e) : wp (compF g t m vs (natsD l) [] e) QL X := wp_compP F h0 st fin
theorem wp_loopD {g : D → M Unit} {b : M Fl} {e : En} {QF : Fl → En → Prop} {X : XQ} {l : List Nat} (Inv : Nat → En → Prop) (h : Inv 0 e)
    (st : ∀ (i : Nat) (hi : i < l.length) e, Inv i e → wp (g (.int (l[i] : Int)) e) (fun _ e1 => wp (b e1) (fun fl e2 => Wlp fl (Inv (i + 1) e2) fun fl => QF fl e2) X) X)
    (fin : ∀ e, Inv l.length e → QF .nx e) : wp (loopF g b (natsD l) e) QF X := wp_loopM Inv h st fin
theorem wp_compRI {g : D → M Unit} {t : M Bool} {m : M D} {vs : List Nat} {e : En} {QL : List D → En → Prop} {X : XQ} {lo : Int} {k : Nat} (Inv : Nat → List D → En → Prop) (h : Inv 0 [] e)
    (st : ∀ (i : Nat), i < k → ∀ acc e, Inv i acc e → noOwn e vs = true ∧ wp (turnC g t m (.int (lo + (i : Int))) (wipeE e vs)) (fun o e1 => Inv (i + 1) (acc ++ o.toList) (backE e1 e vs)) X0)
    (fin : ∀ acc e, Inv k acc e → QL acc e) : wp (compF g t m vs (rngL lo k) [] e) QL X := by
  refine wp_compI Inv h (fun i d acc e q hi => ?_) (fun acc e hi => fin acc e (by rw [rngL_len] at hi; exact hi))
  unfold rngL at q
  rw [List.getElem?_map] at q
  cases z : (List.range k)[i]? with
  | none => rw [z] at q; cases q
  | some j =>
    obtain ⟨h1, h2⟩ := List.getElem?_eq_some_iff.mp z
    rw [List.getElem_range] at h2
    rw [z, ← h2] at q; cases q
    exact st i (by simpa using h1) acc e hi
theorem cut_to {l : List D} {m : Nat} : cutD l none (some (m : Int)) = l.take m := by
  unfold cutD
  have h1 : HT.sIx l.length 0 none = 0 := rfl
  rw [h1, List.drop_zero, Nat.sub_zero]
  have h2 : HT.sIx l.length l.length (some (m : Int)) = min m l.length := by
    unfold HT.sIx
    simp
    try omega
  rw [h2, List.take_eq_take_iff]
  omega
theorem ofRel_lt {n : Nat} {r : Rl} {m : Nat} (h : m ∈ ofRel n r) : m < 2 ^ n := by
  obtain ⟨a, _, rfl⟩ := List.mem_map.mp h
  exact msk_lt _ _
theorem pow20 {m n : Nat} (h : m < 2 ^ n) (hn : n ≤ 60) : m < 18446744073709551616 := Nat.lt_of_lt_of_le h (Nat.le_trans (Nat.pow_le_pow_right (by omega) hn) (by decide))
theorem nats_back : ∀ (l : List Int) (p : ∀ x ∈ l, 0 ≤ x), ∃ ys : List Nat, l = ys.map fun y : Nat => (y : Int)
  | [], _ => ⟨[], rfl⟩
  | x :: l, p => by
    obtain ⟨ys, e⟩ := nats_back l fun z hz => p z (List.mem_cons_of_mem _ hz)
    obtain ⟨y, rfl⟩ := Int.eq_ofNat_of_zero_le (p x List.mem_cons_self)
    exact ⟨y :: ys, by rw [e]; rfl⟩
theorem nats_sortSet {xs : List Nat} (h : xs.length ≤ 60) : ∃ ys : List Nat, gSortSet (.lst (natsD xs)) = some (.ow (.l (natsD ys))) ∧ (∀ y, y ∈ ys ↔ y ∈ xs) ∧ ys.Pairwise (· < ·) := by
  obtain ⟨ys, e⟩ := nats_back (sortU (xs.map fun y : Nat => (y : Int))) fun x hx => by
    obtain ⟨y, _, rfl⟩ := List.mem_map.mp ((sortU_mem _ _).mp hx)
    omega
  refine ⟨ys, ?_, fun y => ?_, ?_⟩
  · show (asInts (natsD xs)).bind _ = _
    rw [natsD_ints, show intsD _ = List.map D.int _ from rfl, asInts_map]
    show (if _ then _ else _) = _
    rw [if_pos (by rw [List.length_map]; exact h), e, natsD_ints]
    rfl
  · have := sortU_mem (xs.map fun y : Nat => (y : Int)) (y : Int)
    rw [e] at this
    simp only [List.mem_map] at this
    constructor
    · intro hy
      obtain ⟨z, hz, q⟩ := this.mp ⟨y, hy, rfl⟩
      rwa [← Int.ofNat_inj.mp q]
    · intro hy
      obtain ⟨z, hz, q⟩ := this.mpr ⟨y, hy, rfl⟩
      rwa [← Int.ofNat_inj.mp q]
  · have := sortU_sorted (xs.map fun y : Nat => (y : Int))
    rw [e, List.pairwise_map] at this
    exact this.imp fun q => by omega
/-! ### rows -/
theorem ofRel_set {n a m : Nat} {r : Rl} (hm : m < 2 ^ n) : (ofRel n r).set a m = ofRel n (fun x b => if x = a then m.testBit b else r x b) := by
  refine List.ext_getElem (by simp [ofRel]) fun i h1 h2 => ?_
  have hi : i < n := by simpa [ofRel] using h2
  rw [List.getElem_set]
  by_cases h : a = i
  · subst h
    rw [if_pos rfl]
    simp only [ofRel, List.getElem_map, List.getElem_range, if_true]
    exact (msk_eq hm fun b _ => rfl).symm
  · rw [if_neg h]
    simp only [ofRel, List.getElem_map, List.getElem_range, if_neg (fun z => h z.symm : ¬ i = a)]
theorem ofRel_gq {n a : Nat} {r : Rl} (h : a < n) : (ofRel n r)[a]? = some (msk (r a) n) := by
  simp [ofRel, List.getElem?_map, h]
theorem msk_orm {f g : Nat → Bool} {n : Nat} : msk f n ||| msk g n = msk (fun b => f b || g b) n := by
  refine Nat.eq_of_testBit_eq fun b => ?_
  rw [Nat.testBit_or, msk_bit, msk_bit, msk_bit]
  cases decide (b < n) <;> simp
theorem msk_one {b n : Nat} (h : b < n) : msk (fun x => x == b) n = 2 ^ b := by
  refine Nat.eq_of_testBit_eq fun x => ?_
  rw [msk_bit, Nat.testBit_two_pow]
  by_cases e : x = b
  · subst e; simp [h]
  · have e' : ¬ b = x := fun z => e z.symm
    simp [e, e']
theorem zeros (n : Nat) : (List.replicate n [D.int 0]).flatten = natsD (ofRel n fun _ _ => false) := by
  have e0 : ∀ n, msk (fun _ => false) n = 0 := fun n => msk_eq (by exact Nat.two_pow_pos n) (by simp)
  unfold natsD ofRel
  rw [List.map_map]
  refine List.ext_getElem? fun i => ?_
  have : (List.replicate n [D.int 0]).flatten = List.replicate n (D.int 0) := by
    induction n with
    | zero => rfl
    | succ n ih => rw [List.replicate_succ, List.flatten_cons, ih]; rfl
  rw [this, List.getElem?_map, List.getElem?_replicate]
  by_cases h : i < n
  · rw [if_pos h, List.getElem?_range h]
    simp [e0]
  · rw [if_neg h, List.getElem?_eq_none (by simpa using h)]
    rfl
/-- a pair of points -/
def pr (z : Nat × Nat) : D := .tup [.int z.1, .int z.2]
/-- the relation of pairs -/
def rlP (l : List (Nat × Nat)) : Rl := fun a b => decide ((a, b) ∈ l)
theorem msk_test {f : Nat → Bool} {n b : Nat} (h : b < n) : (msk f n).testBit b = f b := by rw [msk_bit]; simp [h]
theorem ofRel_ext {n : Nat} {r s : Rl} (h : ∀ a < n, ∀ b < n, r a b = s a b) : natsD (ofRel n r) = natsD (ofRel n s) := by rw [ofRel_congr h]
theorem fm_flt {l : List Nat} {f : Nat → Bool} {F : Nat → Option D} (h : ∀ a ∈ l, F a = if f a then some (.int (a : Int)) else none) : l.filterMap F = natsD (l.filter f) := by
  induction l with
  | nil => rfl
  | cons a l ih =>
    rw [List.filterMap_cons, h a List.mem_cons_self, List.filter_cons, ih fun b hb => h b (List.mem_cons_of_mem _ hb)]
    cases f a <;> rfl
theorem small9 {n : Nat} (h : n ≤ 1000) : small62 (n : Int) = true := small_of (Nat.lt_of_le_of_lt h (by decide))
theorem pow9 {n : Nat} (h : n ≤ 1000) : 2 ^ n < 2 ^ 1001 := Nat.pow_lt_pow_right (by omega) (by omega)
end DL
end

section
namespace DL
open PySem PySem.Spec L2
open PyProof.Rows hiding St
/-! ### isinstance of what is in hand -/
theorem z_isInt_non  : isiD "int" .non = some (.sh (.bl false)) := isi_int rfl
theorem z_isBl_non  : isiD "bool" .non = some (.sh (.bl false)) := isi_bool rfl
theorem z_isStr_non  : isiD "str" .non = some (.sh (.bl false)) := isi_str rfl
theorem z_isTup_non  : isiD "tuple" .non = some (.sh (.bl false)) := isi_tup rfl
theorem z_isLst_non  : isiD "list" .non = some (.sh (.bl false)) := isi_lst rfl
theorem z_isInt_bl {b : Bool} : isiD "int" (.bl b) = some (.sh (.bl true)) := isi_int rfl
theorem z_isBl_bl {b : Bool} : isiD "bool" (.bl b) = some (.sh (.bl true)) := isi_bool rfl
theorem z_isStr_bl {b : Bool} : isiD "str" (.bl b) = some (.sh (.bl false)) := isi_str rfl
theorem z_isTup_bl {b : Bool} : isiD "tuple" (.bl b) = some (.sh (.bl false)) := isi_tup rfl
theorem z_isLst_bl {b : Bool} : isiD "list" (.bl b) = some (.sh (.bl false)) := isi_lst rfl
theorem z_isInt_int {b : Int} : isiD "int" (.int b) = some (.sh (.bl true)) := isi_int rfl
theorem z_isBl_int {b : Int} : isiD "bool" (.int b) = some (.sh (.bl false)) := isi_bool rfl
theorem z_isStr_int {b : Int} : isiD "str" (.int b) = some (.sh (.bl false)) := isi_str rfl
theorem z_isTup_int {b : Int} : isiD "tuple" (.int b) = some (.sh (.bl false)) := isi_tup rfl
theorem z_isLst_int {b : Int} : isiD "list" (.int b) = some (.sh (.bl false)) := isi_lst rfl
theorem z_isInt_str {b : Str} : isiD "int" (.str b) = some (.sh (.bl false)) := isi_int rfl
theorem z_isBl_str {b : Str} : isiD "bool" (.str b) = some (.sh (.bl false)) := isi_bool rfl
theorem z_isStr_str {b : Str} : isiD "str" (.str b) = some (.sh (.bl true)) := isi_str rfl
theorem z_isTup_str {b : Str} : isiD "tuple" (.str b) = some (.sh (.bl false)) := isi_tup rfl
theorem z_isLst_str {b : Str} : isiD "list" (.str b) = some (.sh (.bl false)) := isi_lst rfl
theorem z_non_str {b : Str} : D.isNon (.str b) = false := (rfl)
theorem z_isInt_tup {b : List D} : isiD "int" (.tup b) = some (.sh (.bl false)) := isi_int rfl
theorem z_isBl_tup {b : List D} : isiD "bool" (.tup b) = some (.sh (.bl false)) := isi_bool rfl
theorem z_isStr_tup {b : List D} : isiD "str" (.tup b) = some (.sh (.bl false)) := isi_str rfl
theorem z_isTup_tup {b : List D} : isiD "tuple" (.tup b) = some (.sh (.bl true)) := isi_tup rfl
theorem z_isLst_tup {b : List D} : isiD "list" (.tup b) = some (.sh (.bl false)) := isi_lst rfl
theorem z_isInt_lst {b : List D} : isiD "int" (.lst b) = some (.sh (.bl false)) := isi_int rfl
theorem z_isBl_lst {b : List D} : isiD "bool" (.lst b) = some (.sh (.bl false)) := isi_bool rfl
theorem z_isStr_lst {b : List D} : isiD "str" (.lst b) = some (.sh (.bl false)) := isi_str rfl
theorem z_isTup_lst {b : List D} : isiD "tuple" (.lst b) = some (.sh (.bl false)) := isi_tup rfl
theorem z_isLst_lst {b : List D} : isiD "list" (.lst b) = some (.sh (.bl true)) := isi_lst rfl
theorem z_isInt_dct {b : List (Key × D)} : isiD "int" (.dct b) = some (.sh (.bl false)) := isi_int rfl
theorem z_isBl_dct {b : List (Key × D)} : isiD "bool" (.dct b) = some (.sh (.bl false)) := isi_bool rfl
theorem z_isStr_dct {b : List (Key × D)} : isiD "str" (.dct b) = some (.sh (.bl false)) := isi_str rfl
theorem z_isTup_dct {b : List (Key × D)} : isiD "tuple" (.dct b) = some (.sh (.bl false)) := isi_tup rfl
theorem z_isLst_dct {b : List (Key × D)} : isiD "list" (.dct b) = some (.sh (.bl false)) := isi_lst rfl
theorem z_non_dct {b : List (Key × D)} : D.isNon (.dct b) = false := (rfl)
theorem z_len_str {b : Str} : gLen (.str b) = if b.length ≤ LIM then some (.sh (.int b.length)) else none := (rfl)
theorem z_ix_str {b : Str} {i : Int} : fIx (.str b) (.int i) = if b.length ≤ LIM then (atI b.cps.toList i).map fun c => .str ⟨#[c]⟩ else none := (rfl)
theorem z_sl_str {b : Str} {lo hi : Option Int} : fSl (.str b) lo hi = if b.length ≤ LIM then some (.sh (.str (cutS b lo hi))) else none := (rfl)
/-! ### what the laws call the same -/
mutual
/-- a value that may be told: no object within, no great size -/
def vGood : D → Bool
  | .str z => decide (z.length ≤ 1000) && PyData.strOk z
  | .tup l => decide (l.length ≤ 1000) && vGoodL l
  | .lst l => decide (l.length ≤ 1000) && vGoodL l
  | .obj _ _ => false
  | _ => true
def vGoodL : List D → Bool
  | [] => true
  | a :: l => vGood a && vGoodL l
end
theorem vGoodL_mem : ∀ {l : List D}, vGoodL l = true → ∀ x ∈ l, vGood x = true
  | [], _, _, h => by cases h
  | a :: l, h, x, hx => by
    unfold vGoodL at h
    rw [Bool.and_eq_true] at h
    rcases List.mem_cons.mp hx with rfl | hx
    · exact h.1
    · exact vGoodL_mem h.2 x hx
theorem vGoodL_of : ∀ {l : List D}, (∀ x ∈ l, vGood x = true) → vGoodL l = true
  | [], _ => rfl
  | a :: l, h => by
    unfold vGoodL
    rw [h a List.mem_cons_self, vGoodL_of fun x hx => h x (List.mem_cons_of_mem _ hx)]; rfl
mutual
/-- a value that is due: also no dict within, of a depth less than the number -/
def dGood : Nat → D → Bool
  | 0, _ => false
  | _ + 1, .str z => decide (z.length ≤ 1000) && PyData.strOk z
  | n + 1, .tup l => decide (l.length ≤ 1000) && dGoodL n l
  | n + 1, .lst l => decide (l.length ≤ 1000) && dGoodL n l
  | _ + 1, .obj _ _ => false
  | _ + 1, .dct _ => false
  | _ + 1, _ => true
def dGoodL : Nat → List D → Bool
  | _, [] => true
  | n, a :: l => dGood n a && dGoodL n l
end
theorem dGoodL_mem {n : Nat} : ∀ {l : List D}, dGoodL n l = true → ∀ x ∈ l, dGood n x = true
  | [], _, _, h => by cases h
  | a :: l, h, x, hx => by
    unfold dGoodL at h
    rw [Bool.and_eq_true] at h
    rcases List.mem_cons.mp hx with rfl | hx
    · exact h.1
    · exact dGoodL_mem h.2 x hx
theorem dGoodL_of {n : Nat} : ∀ {l : List D}, (∀ x ∈ l, dGood n x = true) → dGoodL n l = true
  | [], _ => by unfold dGoodL; rfl
  | a :: l, h => by
    unfold dGoodL
    rw [h a List.mem_cons_self, dGoodL_of fun x hx => h x (List.mem_cons_of_mem _ hx)]; rfl
theorem sameL_all : ∀ {m l : List D}, m.length = l.length → D.sameL m l = (List.range l.length).all fun k => D.same (m.getD k .non) (l.getD k .non)
  | [], [], _ => by simp [D.sameL]
  | a :: m, b :: l, h => by
    have ih := sameL_all (m := m) (l := l) (by simpa using h)
    rw [List.length_cons, List.range_succ_eq_map, List.all_cons, List.all_map]
    simp only [D.sameL, ih]
    rfl
  | [], _ :: _, h => by simp at h
  | _ :: _, [], h => by simp at h
theorem sameL_len : ∀ {m l : List D}, m.length ≠ l.length → D.sameL m l = false
  | [], [], h => absurd rfl h
  | a :: m, b :: l, h => by
    have ih := sameL_len (m := m) (l := l) (by simpa using h)
    simp only [D.sameL, ih, Bool.and_false]
  | [], _ :: _, _ => by simp [D.sameL]
  | _ :: _, [], _ => by simp [D.sameL]
theorem str_cut {y : Str} {k : Nat} (h : k < y.length) : cutS y (some (k : Int)) (some ((k + 1 : Nat) : Int)) = ⟨#[y.cps[k]'h]⟩ := by
  unfold cutS
  have hk : k < y.cps.size := h
  have h1 : HT.sIx y.length 0 (some (k : Int)) = k := by rw [HT.sIx_nat]; omega
  have h2 : HT.sIx y.length y.length (some ((k + 1 : Nat) : Int)) = k + 1 := by rw [HT.sIx_nat]; omega
  rw [h1, h2, show k + 1 - k = 1 by omega]
  congr 1
  rw [List.take_one, List.head?_drop, Array.getElem?_toList, Array.getElem?_eq_getElem hk]
  rfl
theorem deqS {a b : Str} (ha : PyData.strOk a = true) (hb : PyData.strOk b = true) : deq (.str a) (.str b) = some (decide (a = b)) := by
  show (if _ then some (a == b) else none) = _
  rw [if_pos (by simp [okD, SeqAt.shaped, D.py, PyData.canLay0, PyData.depth, ha, hb])]
  congr 1
theorem str_ext {y z : Str} (h : y.length = z.length) (hc : ∀ k (h1 : k < y.length) (h2 : k < z.length), y.cps[k]'h1 = z.cps[k]'h2) : y = z := by
  cases y with
  | mk a => cases z with
    | mk b =>
      congr 1
      exact Array.ext h fun i h1 h2 => hc i h1 h2
theorem same_dct {a : List (Key × D)} {d : D} : D.same (.dct a) d = false := by cases d <;> rfl
/-- none left over -/
theorem fm_none {n : Nat} {f : Nat → Bool} : ((List.range n).filter fun k => !f k).isEmpty = (List.range n).all f := by
  induction List.range n with
  | nil => rfl
  | cons a l ih => rw [List.filter_cons, List.all_cons, ← ih]; cases f a <;> simp
end DL
end

section
namespace DL
open PySem PySem.Spec L2
open PyProof.Rows hiding St

/-! ### Base.__init__(self, text), Base an own class over ValueError without __init__ -/
structure BaseC (K : PySem.W.Frag) (B : Addr) : Prop where
  rd : PySem.W.readsIn K B (.type "type") = true
  ga : PySem.W.specialIn K (.ref B) "__getattribute__" = some (some (.builtin "type.__getattribute__"))
  at_ : PySem.W.findCls K (.ref B) (.type "type") "__init__" = some (.val (.builtin "ValueError.__init__"))
def baseB (K : PySem.W.Frag) (B : Addr) : Bool := PySem.W.readsIn K B (.type "type") && (decide (PySem.W.specialIn K (.ref B) "__getattribute__" = some (some (.builtin "type.__getattribute__"))) &&
  (match PySem.W.findCls K (.ref B) (.type "type") "__init__" with
    | some (.val (.builtin z)) => z == "ValueError.__init__"
    | _ => false))
theorem baseB_ok {K : PySem.W.Frag} {B : Addr} (h : baseB K B = true) : BaseC K B := by
  obtain ⟨h1, h⟩ := Bool.and_eq_true_iff.mp h
  obtain ⟨h2, h3⟩ := Bool.and_eq_true_iff.mp h
  refine ⟨h1, of_decide_eq_true h2, ?_⟩
  split at h3
  · rename_i z e
    rw [e, beq_iff_eq.mp h3]
  · cases h3
section
variable {X : Cx} {o e : Expr} {es : List Expr} {ta : TA} {p1 p2 pos : Pos} {B : Addr} {x : Str}
theorem pe_oinit {pl : Sem Bool} (hg : Gl X x) (hm : X.mg x = some (.ref B)) (hdb : (x == ("__debug__" : Str)) = false) (r : BaseC X.K B) (ha : PA X (e :: es) ta)
    (hc : eval (.Call (.Attribute (.Name x p1) "__init__" p2) (e :: es) [] pos) X.env = (do
      let ov ← eval (.Name x p1) X.env
      standAt p2.atName
      let (f, first) ← holding [ov] (getMethod ov "__init__" pl)
      callWith pos f first (backTo pos (starEach (e :: es) X.env)) (backToKw pos (keywordEach [] X.env))) := by rfl)
    (he : starEach (e :: es) X.env = (false, eval e X.env) :: starEach es X.env := by rfl) (hpl : (backTo pos (starEach es X.env)).any (·.1) = false := by rfl) :
    PE X (.Call (.Attribute (.Name x p1) "__init__" p2) (e :: es) [] pos) (tVeI X.K ta) := by
  refine ⟨fun pins s σ H Q I h => ?_⟩
  refine PySem.W.methodCall_KW (ld_glob I hg hm ?_ hdb) hc
  refine PySem.W.method_cls I.kIn r.ga (PySem.W.cls_value I.kIn r.rd r.at_ (by decide +kernel) ?_)
  show wpAny _ _ (callWith pos (Value.builtin "ValueError.__init__") [] (backTo pos (starEach (e :: es) X.env)) []) _ _ _
  refine PyProof.Rows.callWith_method1 (thn (ha.run pos pins _ σ H _ (I.tok _) h) fun us s1 ⟨vs, H1, I1, r1, a, C, ws, ev, hl, T, ea, q⟩ => ?_) he hpl
  subst ev
  cases r1 with
  | @cons _ u0 _ ur ra rw' =>
    obtain rfl : u0 = Value.ref a := ra
    have hlen : ur.length ≤ sizeLine := by
      rw [← Paired.length rw', sizeLine_eq]
      omega
    exact oinit_ok T I1 ea hlen fun s' J => ⟨.non, H1, J, rfl, q⟩
end
/-! ### an error class with one field -/
def oexB (K : PySem.W.Frag) (C : Addr) : Bool := (match K.lookup C with
  | some ⟨.type "type", _, .cls cd, sl⟩ => (match cd.mro, sl.toList with
    | .ref C' :: bm, [_, _, _, _, some (.builtin n), _] => C' == C && n == "ValueError.__new__" && !cd.hasDel && cd.hasDict && PySem.HandSPX.refsVE bm
    | _, _ => false)
  | _ => false) && (decide (PySem.W.findIn K (.ref C) "__setattr__" = some (some (.builtin "object.__setattr__"))) && (decide (PySem.W.subIn K (.ref C) (.type "BaseException") = some true) && (decide (PySem.W.typeIn K (.ref C) = some (.type "type")) && PySem.W.keepIn K (.ref C))))
theorem oexB_ok {K : PySem.W.Frag} {C : Addr} (h : oexB K C = true) : OexC K C := by
  obtain ⟨h1, h⟩ := Bool.and_eq_true_iff.mp h
  obtain ⟨h2, h⟩ := Bool.and_eq_true_iff.mp h
  obtain ⟨h3, h⟩ := Bool.and_eq_true_iff.mp h
  obtain ⟨h4, h5⟩ := Bool.and_eq_true_iff.mp h
  refine ⟨?_, of_decide_eq_true h2, of_decide_eq_true h3, of_decide_eq_true h4, h5⟩
  split at h1
  · rename_i dd cd sl ho
    split at h1
    · rename_i C' bm k0 k1 k2 k3 n k5 hm hs
      simp only [Bool.and_eq_true, beq_iff_eq, Bool.not_eq_true'] at h1
      obtain ⟨⟨⟨⟨rfl, rfl⟩, hdel⟩, hdct⟩, hr⟩ := h1
      obtain ⟨nm, bs, mro, ns, qn, hd, sn, sub, ab, col, del⟩ := cd
      dsimp only at hm hdel hdct
      subst hm hdel hdct
      have hsl : sl = #[k0, k1, k2, k3, some (.builtin "ValueError.__new__"), k5] := by
        obtain ⟨l⟩ := sl
        simp only at hs
        rw [hs]
      subst hsl
      exact ⟨nm, qn, ns, bs, bm, sn, sub, ab, col, dd, k0, k1, k2, k3, k5, ho, hr⟩
    · cases h1
  · cases h1
end DL
end

section
namespace DL
open PySem PySem.Spec L2
open PyProof.Rows hiding St
def EcF (K : PySem.W.Frag) (mg : MG) (x : String) (f qual : Str) (st : Stmt) : Prop := ∃ C fI fd, mg (Str.ofString x) = some (.ref C) ∧ OexC K C ∧ XfC K C ∧ PySem.W.findIn K (.ref C) f = some none ∧
  PySem.W.findIn K (.ref C) "__init__" = some (some (.ref fI)) ∧ PySem.W.typeIn K (.ref fI) = some (.type "function") ∧ FunD K "__init__" qual (defArgs st) (defBody st) (defScope st) [] [] fI fd ∧ PySem.W.exmOne K (.ref C) (.ref C) = some true
def BaseF (K : PySem.W.Frag) (mg : MG) (b : String) : Prop := ∃ B, mg (Str.ofString b) = some (.ref B) ∧ BaseC K B
/-- what __init__ of an error class with one field does -/
def spI (C : Addr) (f : Str) : Sp := fun vs H Q _ => ∃ (a : Addr) (v : V), vs = [.ref a, v] ∧ H a = some (exo a C none) ∧ ∀ dx, H dx = none → dx ≠ a → Q .non (upd (upd H dx (exd dx [(f, v)])) a (exo a C (some dx)))
section
variable {P : Program} {w : World} {K : PySem.W.Frag} {mg : MG} {base : Heap} {b x : String} {f g qual text : Str} {st : Stmt} {j : Nat} {p1 p2 p3 p4 p5 p6 p7 p8 p9 p10 : Pos}
theorem init_ok {C fI : Addr} {fd : FuncData} {pl : Env → Sem Bool} (BF : BaseF K mg b) (T : OexC K C) (hno : PySem.W.findIn K (.ref C) f = some none) (F : FunD K "__init__" qual (defArgs st) (defBody st) (defScope st) [] [] fI fd)
    (S : fsB ["self", g] ["self", g] (defScope st) = true) (h0 : VarOk ["self", g] (defScope st) 0 "self") (h1 : VarOk ["self", g] (defScope st) 1 g) (hg : (glB (defScope st) (Str.ofString b) && nodbg (Str.ofString b)) = true)
    (hc : ∀ env : Env, eval (.Call (.Attribute (.Name (Str.ofString b) p1) "__init__" p2) [.Name "self" p3, .Constant (.str text) j p4] [] p5) env = (do
      let ov ← eval (.Name (Str.ofString b) p1) env
      standAt p2.atName
      let (f, first) ← holding [ov] (getMethod ov "__init__" (pl env))
      callWith p5 f first (backTo p5 (starEach [.Name "self" p3, .Constant (.str text) j p4] env)) (backToKw p5 (keywordEach [] env))))
    (hbody : defBody st = [.Expr (.Call (.Attribute (.Name (Str.ofString b) p1) "__init__" p2) [.Name "self" p3, .Constant (.str text) j p4] [] p5) p6, .Assign [.Attribute (.Name "self" p7) f p8] (.Name g p9) p10]) :
    FnOk P w K mg base (L2.CX P w) 1 fI fd ["self", g] (spI C f) := by
  obtain ⟨B, hB, rB⟩ := BF
  simp only [Bool.and_eq_true] at hg
  refine F.ok (fsk S) (fun vs H Q E h => by obtain ⟨a, v, rfl, _⟩ := h; rfl) (fun cdv A outer s H vs Q E hr h => ?_)
  rw [hbody]
  obtain ⟨a, v, rfl, ha, hq⟩ := h
  refine ⟨_, pss_cons (ps_expr (pe_oinit (X := cxOf (L2.CX P w) P w K mg base ["self", g] qual (defScope st) fI cdv A outer s H E) (gl_of rfl (isG_ok hg.1)) hB (by have := hg.2; unfold nodbg at this; simpa using this) rB (pa_cons (pe_var (i := 0) h0.hN h0.hv h0.hd h0.hc) (pa_cons pe_str pa_nil)) (hc _))) (pss_one (ps_ost (pe_var (i := 0) h0.hN h0.hv h0.hd h0.hc) (pe_var (i := 1) h1.hN h1.hv h1.hd h1.hc))), ?_⟩
  refine ⟨.ref a, rfl, a, C, _, rfl, by simp, T, ha, ?_⟩
  refine ⟨v, rfl, .ref a, rfl, a, C, rfl, T, hno, .inl ⟨ha, fun dx n ne => hq dx n ne⟩⟩
end
/-! ### raise C(e) -/
def sRaise (c f : String) (m : M D) : M Fl := M.bnd m fun d => fun e => .ex c [(f, d)] e
section
variable {I : CI} {W : WX} {b x : String} {f : String} {g qual text : Str} {st : Stmt} {a : Expr} {j : Nat} {p1 p2 p3 p4 p5 p6 p7 p8 p9 p10 q1 q2 pos : Pos} {pl : Env → Sem Bool}
/-- a promise of an error class -/
def EcD (P : Program) (w : World) (K : PySem.W.Frag) (mg : MG) (base : Heap) (x f : String) : Prop := ∃ C fI fd g, mg (Str.ofString x) = some (.ref C) ∧ OexC K C ∧ PySem.W.findIn K (.ref C) "__init__" = some (some (.ref fI)) ∧ PySem.W.typeIn K (.ref fI) = some (.type "function") ∧
  FnOk P w K mg base (L2.CX P w) 1 fI fd ["self", g] (spI C (Str.ofString f)) ∧ Binds K fd ["self", g] []
theorem cx_no {P : Program} {w : World} {l : List Env} {H : Hp} {s : Shared} {u : Value} {s' : Shared} (h : L2.CX P w l H s (fun _ _ _ => False) u s') : False := by
  obtain ⟨_, _, _, _, _, _, _, _, _, _, _, _, z⟩ := h
  exact z
theorem ds_raise {m : M D} (E : EcD I.P I.w I.K I.mg I.base x f) (hk : Nat.ble 2 I.k = true) (g0 : (glB I.sc (Str.ofString x) && nodbg (Str.ofString x)) = true) (h : DE I W a m) (n : nst a = true) :
    DS I W (.Raise (some (.Call (.Name (Str.ofString x) q1) [a] [] q2)) none pos) (sRaise x f m) := by
  obtain ⟨t, h1, h2⟩ := h
  obtain ⟨C, fI, fd, g, hC, T, iC, tI, F, hb⟩ := E
  simp only [Bool.and_eq_true] at g0
  refine ⟨fun _ σ H => tMkO C (spI C (Str.ofString f)) [] (tCons t tNil) σ H fun cls d H' => W cls d σ H', fun X ok => ?_, fun p G σ H e E S w => ?_⟩
  · have F' : FnOk X.prog X.w X.K X.mg X.base (L2.CX X.prog X.w) 1 fI fd ["self", g] (spI C (Str.ofString f)) := by rw [ok.hP, ok.hw, ok.hK, ok.hmg, ok.hbase]; exact F
    exact ps_raise ok.calm ok.takes (pmk_oex (by rw [ok.hK]; exact T) (by rw [ok.hK]; exact iC) (by rw [ok.hK]; exact tI) F' (ok.room.mono (Nat.le_of_ble_eq_true hk)) (by rw [ok.hK]; exact hb) .nil (fun _ _ _ _ _ _ _ c => (cx_no c).elim) (gl_of ok.hsc (isG_ok g0.1)) (by rw [ok.hmg]; exact hC) (pa_cons (h1 X ok) pa_nil (star_of n _ _)) (by have := g0.2; unfold nodbg at this; simpa using this) (star_of n _ _) (by rfl))
  · refine h2 p G σ H e _ S (Wp.mono (Ws.bnd w) fun d G1 H1 e1 s1 S1 w1 v rv => ?_)
    refine ⟨by simp, fun ad na => ⟨ad, v, rfl, upd_same, fun dx nx ne => ?_⟩⟩
    have hdx : H1 dx = none := by rwa [upd_ne ne] at nx
    refine ⟨rfl, dx, [(Str.ofString f, v)], upd_same, ?_, hdx, ?_⟩
    · rw [upd_ne ne, upd_same]
    · have eq : upd (del (upd (upd (upd H1 ad (exo ad C none)) dx (exd dx [(Str.ofString f, v)])) ad (exo ad C (some dx))) ad) dx (.xd [(Str.ofString f, v)]) = upd H1 dx (.xd [(Str.ofString f, v)]) := by
        funext z
        by_cases hz : z = dx
        · subst hz; rw [upd_same, upd_same]
        · rw [upd_ne hz, upd_ne hz]
          by_cases ha : z = ad
          · subst ha; rw [del_same]; exact na.symm
          · rw [del_ne ha, upd_ne ha, upd_ne hz, upd_ne ha]
      rw [eq]
      obtain ⟨S2, _, _, _, _⟩ := S1.laidOw (o := .xd [(Str.ofString f, v)]) hdx
      refine w1 G1 σ _ C dx (Same.refl _) S2 hC ⟨_, upd_same, fun f' x' hl => ?_⟩
      unfold List.lookup at hl
      split at hl
      · rename_i e0
        cases hl
        exact ⟨v, by rw [show f' = f from by simpa using e0]; simp [List.lookup], rv⟩
      · cases hl
end
end DL
end

section
namespace DL
open PySem PySem.Spec L2
open PyProof.Rows hiding St
/-! ### statements of a def's own block -/
structure Frx (X : Cx) : Prop where
  hs : X.stack = X.env :: X.outer
  hf : X.env.frame = some X.env.locals
def DSf (I : CI) (W : WX) (st : Stmt) (m : M Fl) : Prop := ∃ t, (∀ X, Okx I W X → Frx X → PS X st t) ∧ SimS I W t m
def DSsf (I : CI) (W : WX) (sts : List Stmt) (m : M Fl) : Prop := ∃ t, (∀ X, Okx I W X → Frx X → PSs X sts t) ∧ SimS I W t m
section
variable {I : CI} {W : WX} {st : Stmt} {rest : List Stmt} {m n : M Fl}
theorem dsf (h : DS I W st m) : DSf I W st m := let ⟨t, h1, h2⟩ := h; ⟨t, fun X ok _ => h1 X ok, h2⟩
theorem dssf_nil : DSsf I W [] sNil := ⟨tNext, fun _ _ _ => pss_nil, fun p G σ H e E S w => w G σ H (Same.refl _) S⟩
theorem dssf_cons (h : DSf I W st m) (h' : DSsf I W rest n) : DSsf I W (st :: rest) (sSeq m n) := by
  obtain ⟨t, h1, h2⟩ := h
  obtain ⟨u, h3, h4⟩ := h'
  exact ⟨_, fun X ok fx => pss_cons (h1 X ok fx) (h3 X ok fx), seq_sim h2 h4⟩
theorem dssf_one (h : DSf I W st m) : DSsf I W [st] m := let ⟨t, h1, h2⟩ := h; ⟨t, fun X ok fx => pss_one (h1 X ok fx), h2⟩
end
theorem df_ofF {P : Program} {w : World} {K : PySem.W.Frag} {mg : MG} {base : Heap} {k : Nat} {x : Str} {st : Stmt} {N ps : List Str} {m : M Fl} (F : FD K mg x st) (Sb : fsB N ps (defScope st) = true) (hp : Nat.ble ps.length N.length = true)
    (hb : ∀ (kV doc pm : Value) (an : Option Addr) (cdv ct : Value) (us : List Value), us.length = ps.length → bindArgs (PySem.W.fnOf x x (defArgs st) (defBody st) (defScope st) .none kV doc pm an cdv ct) ⟨us, []⟩ = pure (ps.zip us))
    (body : ∀ W : WX, DSsf ⟨P, w, K, mg, base, N, defScope st, fun _ => true, k⟩ W (defBody st) m) : DF P w K mg base (k + 1) x st ps (sFun N.length ps.length m) := by
  obtain ⟨f, fd, F, hmg⟩ := F
  have S := fsk Sb
  refine ⟨f, fd, ?_, hmg, F, F.bindsN hb⟩
  refine F.ok S (fun vs H Q E h => spF_len (sem := sFun N.length ps.length m) h) (fun cdv A outer s H vs Q E hr h => ?_)
  obtain ⟨t, h1, h2⟩ := body fun cls d _ H => E cls d H
  refine ⟨t, h1 _ ⟨rfl, rfl, rfl, rfl, rfl, rfl, rfl, rfl, S.nd, rfl, hr, takes_fn, passes_fn⟩ ⟨rfl, rfl⟩, ?_⟩
  have hvl := spF_len (sem := sFun N.length ps.length m) h
  obtain ⟨ia, G, args, pre, q⟩ := h
  have hl : args.length = ps.length := pre.2.1.symm.trans hvl
  unfold sFun at q
  rw [if_pos hl] at q
  have S0 := sr_start (N := N) pre (by rw [hvl]; exact Nat.le_of_ble_eq_true hp)
  rw [hl] at S0
  exact h2 _ _ _ _ _ _ S0 (body_ends (n := N.length) pre hl _ q)
/-! ### what a suite tells of the error -/
def itemD (fs : List (String × D)) : D ⊕ String → Option D
  | .inl d => some d
  | .inr f => fs.lookup f
def itemsD (fs : List (String × D)) : List (D ⊕ String) → Option (List D)
  | [] => some []
  | x :: xs => (itemD fs x).bind fun d => (itemsD fs xs).map (d :: ·)
def DXi (I : CI) (C : Addr) (i : Nat) (e : Expr) (it : D ⊕ String) : Prop := nst e = true ∧ ∃ te : Addr → Value → Option Addr → TE,
  (∀ (X : Cx) a oe cls d pn, X.N = I.N → X.env.scope = I.sc → X.K = I.K → Zc cls d oe → (∃ vs, oe.data = .fields vs) → PE (X.suite a ((a, oe) :: pn)) e (te a cls d)) ∧
  (∀ G (σ : L2.St) H a dd fs x (Q : VK), σ[i]? = some (some (.ref a)) → Xr I.K I.mg G H dd fs → itemD fs it = some x → (∀ v, Rep I.K I.mg G v x → Q v H) → te a (.ref C) (some dd) σ H Q)
def DXs (I : CI) (C : Addr) (i : Nat) (es : List Expr) (its : List (D ⊕ String)) : Prop := ∃ ta : Addr → Value → Option Addr → TA,
  (∀ (X : Cx) a oe cls d pn, X.N = I.N → X.env.scope = I.sc → X.K = I.K → Zc cls d oe → (∃ vs, oe.data = .fields vs) → PA (X.suite a ((a, oe) :: pn)) es (ta a cls d)) ∧
  (∀ G (σ : L2.St) H a dd fs xs (Q : List V → Hp → Prop), σ[i]? = some (some (.ref a)) → Xr I.K I.mg G H dd fs → itemsD fs its = some xs → (∀ vs, Reps I.K I.mg G vs xs → Q vs H) → ta a (.ref C) (some dd) σ H Q)
section
variable {I : CI} {W : WX} {C : Addr} {i : Nat} {pos p0 : Pos} {n : Str} {e : Expr} {es : List Expr} {it : D ⊕ String} {its : List (D ⊕ String)}
theorem dx_str {y : Str} {j} : DXi I C i (.Constant (.str y) j pos) (.inl (.str y)) := ⟨rfl, fun _ _ _ => tC (.str y), fun _ _ _ _ _ _ _ _ _ _ _ => pe_str, fun G σ H a dd fs x Q h1 h2 h3 k => by cases h3; exact k _ (.str y)⟩
theorem dx_fld {f : String} (T : XfC I.K C) (hno : PySem.W.findIn I.K (.ref C) (Str.ofString f) = some none) (hv : VarOk I.N I.sc i n) (hb : ∀ env : Env, attributeBase (.Name n p0) (Str.ofString f) env (eval (.Name n p0) env) = eval (.Name n p0) env) : DXi I C i (.Attribute (.Name n p0) (Str.ofString f) pos) (.inr f) := by
  refine ⟨rfl, fun a cls d => tXf a cls d C (Str.ofString f) (tVar i), fun X a oe cls d pn h1 h2 h3 hz hf => ?_, fun G σ H a dd fs x Q h1 h2 h3 k => ?_⟩
  · exact pe_xf (by rw [h3]; exact T) (by rw [h3]; exact hno) hz hf (pe_var (X := X.suite a ((a, oe) :: pn)) (i := i) (by show X.N[i]? = _; rw [h1]; exact hv.hN) (by show Vis X.env.scope n; rw [h2]; exact hv.hv) hv.hd hv.hc) (hb _)
  · obtain ⟨ws, g1, g2⟩ := h2
    obtain ⟨v, g3, g4⟩ := g2 f x h3
    exact ⟨.ref a, h1, rfl, rfl, dd, ws, v, rfl, g1, g3, k v g4⟩
theorem dxs_nil : DXs I C i [] [] := ⟨fun _ _ _ => tNil, fun _ _ _ _ _ _ _ _ _ _ _ => pa_nil, fun G σ H a dd fs xs Q h1 h2 h3 k => by cases h3; exact k _ Reps.nil⟩
theorem reps_cons {K : PySem.W.Frag} {mg : MG} {G : Hp} {v : V} {vs : List V} {d : D} {ds : List D} (h : Rep K mg G v d) (t : Reps K mg G vs ds) : Reps K mg G (v :: vs) (d :: ds) := by
  have := (Reps.one h).append t
  exact this
theorem dxs_cons (h : DXi I C i e it) (t : DXs I C i es its) : DXs I C i (e :: es) (it :: its) := by
  obtain ⟨n, te, h1, h2⟩ := h
  obtain ⟨ta, t1, t2⟩ := t
  refine ⟨fun a cls d => tCons (te a cls d) (ta a cls d), fun X a oe cls d pn g1 g2 g3 hz hf => pa_cons (h1 X a oe cls d pn g1 g2 g3 hz hf) (t1 X a oe cls d pn g1 g2 g3 hz hf) (star_of n _ _), fun G σ H a dd fs xs Q g1 g2 g3 k => ?_⟩
  unfold itemsD at g3
  cases q : itemD fs it with
  | none => rw [q] at g3; cases g3
  | some x =>
    rw [q, Option.bind_some] at g3
    cases q2 : itemsD fs its with
    | none => rw [q2] at g3; cases g3
    | some ys =>
      rw [q2] at g3
      cases g3
      exact h2 G σ H a dd fs x _ g1 g2 q fun v rv => t2 G σ H a dd fs ys _ g1 g2 q2 fun vs rvs => k _ (reps_cons rv rvs)
/-! ### try: body, except C as n: return [..] -/
def sTry (c : String) (mb : M Fl) (ms : List (String × D) → M Fl) : M Fl := fun e => match mb e with
  | .ok fl e' => .ok fl e'
  | .ex c' fs e' => if c' = c then ms fs e' else .no
  | .no => .no
def sSuL (its : List (D ⊕ String)) (i : Nat) (fs : List (String × D)) : M Fl := fun e => match itemsD fs its with
  | some ds => if ds.length ≤ LIM ∧ i < e.length then .ok (.rt (.ow (.l ds))) (e.set i .no) else .no
  | none => .no
def sSuT (its : List (D ⊕ String)) (i : Nat) (fs : List (String × D)) : M Fl := fun e => match itemsD fs its with
  | some ds => if ds.length ≤ LIM ∧ i < e.length then .ok (.rt (.sh (.tup ds))) (e.set i .no) else .no
  | none => .no
theorem kind_of {X : Cx} {sc : Scope} (h : X.env.scope = sc) (g : sc.names.lookup n = some .local) : X.env.kindOf n = some .local := by
  show X.env.scope.names.lookup n = _
  rw [h]; exact g
theorem dsf_try {c : String} {mb : M Fl} {ms : List (String × D) → M Fl} {body suite : List Stmt} {b₀ : Stmt} {np pos' : Pos} {ts : Addr → Addr → Value → Option Addr → TS}
    (hE : ∃ C, I.mg (Str.ofString c) = some (.ref C) ∧ PySem.W.exmOne I.K (.ref C) (.ref C) = some true)
    (hb : ∀ W', DSs I W' body mb) (hi : I.N[i]? = some n) (hk : I.sc.names.lookup n = some .local) (hg : (glB I.sc (Str.ofString c) && nodbg (Str.ofString c)) = true)
    (hsu : ∀ C, I.mg (Str.ofString c) = some (.ref C) → ∀ (X : Cx) (a : Addr) (oe : Obj) (cls : Value) (d : Option Addr) (pn : List (Addr × Obj)), X.N = I.N → X.env.scope = I.sc → X.K = I.K → Zc cls d oe → (∃ vs, oe.data = .fields vs) → PSs (X.suite a ((a, oe) :: pn)) (b₀ :: suite) (ts C a cls d))
    (hsim : ∀ C, I.mg (Str.ofString c) = some (.ref C) → ∀ (p : Pm) G σ H e fs a dd (E E' : Ends), E'.rt = E.rt → Srp I.K I.mg p G σ H e → Xr I.K I.mg G H dd fs → H a = none → Ws I.K I.mg W p G (ms fs e) E → ts C a (.ref C) (some dd) E' (σ.set i (some (.ref a))) H) :
    DSf I W (.Try body [.ExceptHandler (some (.Name (Str.ofString c) np)) (some n) (b₀ :: suite) pos'] [] [] pos) (sTry c mb ms) := by
  obtain ⟨C, hC, hx⟩ := hE
  simp only [Bool.and_eq_true] at hg
  refine ⟨fun D σ H => (Classical.choose (hb (wAs I.K (.ref C) i (ts C) W D))) D σ H, fun X ok fx => ?_, fun p G σ H e E S w => ?_⟩
  · have := ps_try_as (X := X) (c := .ref C) (ts := ts C) (tb := fun W' => Classical.choose (hb W')) (Wout := W) (pos := pos) (pos' := pos') (np := np) (x := Str.ofString c) (suite := suite) (b₀ := b₀) fx.hs fx.hf (by rw [ok.hN]; exact ok.nd) (by rw [ok.hN]; exact hi) (kind_of ok.hsc hk)
      ⟨gl_of ok.hsc (isG_ok hg.1), by have := hg.2; unfold nodbg at this; simpa using this, .inl (by rw [ok.hmg]; exact hC)⟩ ok.takes
      (fun W' pn xe tk pa => (Classical.choose_spec (hb W')).1 (X.tr pn xe) ⟨ok.hP, ok.hw, ok.hK, ok.hmg, ok.hbase, ok.hN, ok.hsc, ok.hfn, ok.nd, ok.calm, ok.room, tk, pa⟩)
      (fun a oe cls d pn hz hf => hsu C hC X a oe cls d pn ok.hN ok.hsc ok.hK hz hf)
    rw [ok.hK] at this
    exact this
  · refine (Classical.choose_spec (hb (wAs I.K (.ref C) i (ts C) W E))).2 p G σ H e E S ?_
    unfold sTry at w
    cases z : mb e with
    | no => rw [z] at w; exact w.elim
    | ok fl e' => rw [z] at w; exact w
    | ex c' fs e' =>
      rw [z] at w
      dsimp only at w
      by_cases hc : c' = c
      · rw [if_pos hc] at w
        subst hc
        intro G' σ' H' C' d s S' hC' X'
        rw [hC] at hC'
        cases hC'
        exact ⟨true, hx, fun _ a na => hsim C hC p G' σ' H' e' fs a d E _ rfl S' X' na (Ws.up w s), fun q => nomatch q⟩
      · rw [if_neg hc] at w; exact w.elim
theorem dsf_tryL {c : String} {mb : M Fl} {body : List Stmt} {np pos' lp rp : Pos}
    (hE : ∃ C, I.mg (Str.ofString c) = some (.ref C) ∧ PySem.W.exmOne I.K (.ref C) (.ref C) = some true ∧ DXs I C i es its)
    (hb : ∀ W', DSs I W' body mb) (hi : I.N[i]? = some n) (hk : I.sc.names.lookup n = some .local) (hg : (glB I.sc (Str.ofString c) && nodbg (Str.ofString c)) = true) :
    DSf I W (.Try body [.ExceptHandler (some (.Name (Str.ofString c) np)) (some n) [.Return (some (.List es lp)) rp] pos'] [] [] pos) (sTry c mb (sSuL its i)) := by
  obtain ⟨C, hC, hx, ta, t1, t2⟩ := hE
  refine dsf_try (ts := fun _ a cls d => tRet (tLst (ta a cls d))) ⟨C, hC, hx⟩ hb hi hk hg (fun C' hC' X a oe cls d pn g1 g2 g3 hz hf => pss_one (ps_ret (pe_lst (t1 X a oe cls d pn g1 g2 g3 hz hf)))) (fun C' hC' p G σ H e fs a dd E E' hrt S hX na w => ?_)
  rw [hC] at hC'
  cases hC'
  unfold sSuL at w
  cases q : itemsD fs its with
  | none => rw [q] at w; exact w.elim
  | some ds =>
    rw [q] at w
    dsimp only at w
    split at w
    case isFalse => exact w.elim
    rename_i hlim
    have hlen : i < σ.length := by rw [S.len]; exact hlim.2
    show tLst (ta a (.ref C) (some dd)) (σ.set i (some (.ref a))) H E'.rt
    refine t2 G _ H a dd fs ds _ (by rw [List.getElem?_set_self hlen]) hX q fun vs rv => ?_
    have ll := lim_line
    refine ⟨by rw [rv.1]; omega, fun q0 nq => ?_⟩
    rw [hrt]
    obtain ⟨S4, gn, h0, hF, ap⟩ := (S.wipe1 i).laidOw (o := .lst vs) nq
    exact w G _ _ (Same.refl _) S4 q0 gn ⟨vs, upd_same, rv⟩ h0 hF ap
theorem dsf_tryT {c : String} {mb : M Fl} {body : List Stmt} {np pos' lp rp : Pos} {kk}
    (hE : ∃ C, I.mg (Str.ofString c) = some (.ref C) ∧ PySem.W.exmOne I.K (.ref C) (.ref C) = some true ∧ DXs I C i es its)
    (hb : ∀ W', DSs I W' body mb) (hi : I.N[i]? = some n) (hk : I.sc.names.lookup n = some .local) (hg : (glB I.sc (Str.ofString c) && nodbg (Str.ofString c)) = true) :
    DSf I W (.Try body [.ExceptHandler (some (.Name (Str.ofString c) np)) (some n) [.Return (some (.Tuple es kk lp)) rp] pos'] [] [] pos) (sTry c mb (sSuT its i)) := by
  obtain ⟨C, hC, hx, ta, t1, t2⟩ := hE
  refine dsf_try (ts := fun _ a cls d => tRet (tTup (ta a cls d))) ⟨C, hC, hx⟩ hb hi hk hg (fun C' hC' X a oe cls d pn g1 g2 g3 hz hf => pss_one (ps_ret (pe_tup (t1 X a oe cls d pn g1 g2 g3 hz hf)))) (fun C' hC' p G σ H e fs a dd E E' hrt S hX na w => ?_)
  rw [hC] at hC'
  cases hC'
  unfold sSuT at w
  cases q : itemsD fs its with
  | none => rw [q] at w; exact w.elim
  | some ds =>
    rw [q] at w
    dsimp only at w
    split at w
    case isFalse => exact w.elim
    rename_i hlim
    have hlen : i < σ.length := by rw [S.len]; exact hlim.2
    show tTup (ta a (.ref C) (some dd)) (σ.set i (some (.ref a))) H E'.rt
    refine t2 G _ H a dd fs ds _ (by rw [List.getElem?_set_self hlen]) hX q fun vs rv => ?_
    have ll := lim_line
    refine ⟨by rw [rv.1]; omega, fun q0 nq => ?_⟩
    rw [hrt]
    obtain ⟨s4, S4⟩ := (S.wipe1 i).laid (o := .tup vs) nq
    exact w _ _ _ s4 S4 _ (.mk_tup (.of upd_same) (Reps.mono s4 rv))
end
end DL
namespace DL
open PySem PySem.Spec L2
open PyProof.Rows hiding St
section
variable {P : Program} {w : World} {K : PySem.W.Frag} {mg : MG} {base : Heap} {b x f : String} {g qual text : Str} {st : Stmt} {j : Nat} {p1 p2 p3 p4 p5 p6 p7 p8 p9 p10 : Pos} {pl : Env → Sem Bool}
theorem ecd_of (BF : BaseF K mg b) (E : EcF K mg x (Str.ofString f) qual st)
    (S : fsB ["self", g] ["self", g] (defScope st) = true) (h0 : varB ["self", g] (defScope st) 0 "self" = true) (h1 : varB ["self", g] (defScope st) 1 g = true) (hg : (glB (defScope st) (Str.ofString b) && nodbg (Str.ofString b)) = true)
    (hbody : defBody st = [.Expr (.Call (.Attribute (.Name (Str.ofString b) p1) "__init__" p2) [.Name "self" p3, .Constant (.str text) j p4] [] p5) p6, .Assign [.Attribute (.Name "self" p7) (Str.ofString f) p8] (.Name g p9) p10])
    (hc : ∀ env : Env, eval (.Call (.Attribute (.Name (Str.ofString b) p1) "__init__" p2) [.Name "self" p3, .Constant (.str text) j p4] [] p5) env = (do
      let ov ← eval (.Name (Str.ofString b) p1) env
      standAt p2.atName
      let (f, first) ← holding [ov] (getMethod ov "__init__" (pl env))
      callWith p5 f first (backTo p5 (starEach [.Name "self" p3, .Constant (.str text) j p4] env)) (backToKw p5 (keywordEach [] env))))
    (hb : ∀ (kV doc pm : Value) (an : Option Addr) (cdv ct : Value) (us : List Value), us.length = 2 → bindArgs (PySem.W.fnOf "__init__" qual (defArgs st) (defBody st) (defScope st) .none kV doc pm an cdv ct) ⟨us, []⟩ = pure ((["self", g] : List Str).zip us)) :
    EcD P w K mg base x f := by
  obtain ⟨C, fI, fd, e1, e2, e3, e4, e5, e6, F, e7⟩ := E
  exact ⟨C, fI, fd, g, e1, e2, e5, e6, init_ok BF e2 e4 F S (vk h0) (vk h1) hg hc hbody, F.bindsN hb⟩
/-- the class, for an except clause that tells a field -/
theorem exm_of {I : CI} {i : Nat} {es : List Expr} {its : List (D ⊕ String)} (E : EcF I.K I.mg x (Str.ofString f) qual st) (d : ∀ C, XfC I.K C → PySem.W.findIn I.K (.ref C) (Str.ofString f) = some none → DXs I C i es its) :
    ∃ C, I.mg (Str.ofString x) = some (.ref C) ∧ PySem.W.exmOne I.K (.ref C) (.ref C) = some true ∧ DXs I C i es its := by
  obtain ⟨C, fI, fd, e1, e2, e3, e4, e5, e6, F, e7⟩ := E
  exact ⟨C, e1, e7, d C e3 e4⟩
end
end DL
end

section
namespace DL
open PySem PySem.Spec L2
open PyProof.Rows hiding St
/-! ### f(g(..)), where f changes the new list that it is handed -/
def endC (n : Nat) : R Ret → R Ret
  | .ok (.sh d) e => .ok (.sh d) (e.take n)
  | .ok _ _ => .no
  | .ex c fs e => .ex c fs (e.take n)
  | .no => .no
def fresh1 (sem : FS) : Ret → M Ret
  | .ow (.l l) => fun e => endC e.length (callS sem [.at e.length] (e ++ [.ow (.l l)]))
  | _ => fun _ => .no
def rCallF (sem : FS) (m : M Ret) : M Ret := M.bnd m (fresh1 sem)
section
variable {I : CI} {W : WX} {a : Expr} {pos p0 : Pos} {x : Str}
theorem fresh_sim {sem : FS} {t : TE} {m : M Ret} (h2 : SimR I W t m) : SimR I W (tCallS (spF I.K I.mg sem) (WE W) (tCons t tNil)) (rCallF sem m) := by
  intro p G σ H e Q S w
  refine h2 p G σ H e _ S (Wp.mono (Wp.bnd w) fun r G1 H1 e1 s1 S1 w1 => ?_)
  cases r with
  | sh d => intro v _; exact w1.elim
  | ow z =>
    cases z with
    | o _ _ => intro q _ _ _ _ _; exact w1.elim
    | l l =>
      intro q gq c h0 hF ap
      have Sc := S1.push gq c h0 hF ap
      have el : e1.length = σ.length := S1.len.symm
      have ra : ArsOk I.K I.mg G1 (σ ++ [some (.ref q)]) [.ref q] [.at e1.length] := ⟨rfl, fun j v b q1 q2 => by
        cases j with
        | zero =>
          simp at q1 q2
          subst q1 q2
          show (σ ++ [some (V.ref q)])[e1.length]? = _
          rw [el]; simp
        | succ j => simp at q1⟩
      have wc : Wp I.K I.mg (fun cls d _ H => W cls d σ H) p G1 (σ ++ [some (.ref q)]) (callS sem [.at e1.length] (e1 ++ [.ow (.l l)])) (fun r G' H' e' => RetK I.K I.mg p G' (σ ++ [some (.ref q)]) H' e' Q r) := by
        have w1' : Wp I.K I.mg W p G1 σ (endC e1.length (callS sem [.at e1.length] (e1 ++ [.ow (.l l)]))) (fun r G' H' e' => RetK I.K I.mg p G' σ H' e' Q r) := w1
        cases z : callS sem [.at e1.length] (e1 ++ [.ow (.l l)]) with
        | no => rw [z] at w1'; exact w1'.elim
        | ex c' fs e2 =>
          rw [z] at w1'
          intro G' H' C' d' s' S' hC' hX
          have := S'.pop
          rw [← el] at this
          exact w1' G' H' C' d' s' this hC' hX
        | ok r e2 =>
          rw [z] at w1'
          intro G' H' s' S'
          cases r with
          | ow y => exact w1'.elim
          | sh d =>
            have := S'.pop
            rw [← el] at this
            exact w1' G' H' s' this
      exact call_sim (W := fun cls d _ H => W cls d σ H) Sc ra wc
theorem dr_callF {st : Stmt} {ps : List Str} {sem : FS} {k : Nat} {m : M Ret} (F : DF I.P I.w I.K I.mg I.base k x st ps sem) (hk : Nat.ble k I.k = true) (g : (glB I.sc x && nodbg x) = true)
    (ha : DR I W a m) (n : nst a = true) (hp : ∀ env : Env, (backTo pos (starEach ([] : List Expr) env)).any (·.1) = false) : DR I W (.Call (.Name x p0) [a] [] pos) (rCallF sem m) := by
  obtain ⟨f, fd, F1, F2, F3, F4⟩ := F.ex
  obtain ⟨t, h1, h2⟩ := ha
  simp only [Bool.and_eq_true] at g
  refine ⟨tCallS (spF I.K I.mg sem) (WE W) (tCons t tNil), fun X ok => ?_, fresh_sim h2⟩
  obtain ⟨P, ww, K, mg, base, N, sc, fn, kk⟩ := I
  obtain ⟨e1, e2, e3, e4, e5, e6, e7, e8, nd, calm, room, takes, passes⟩ := id ok
  dsimp only at *
  subst e1 e2 e3 e4 e5
  exact pe_callS F1 (room.mono (Nat.le_of_ble_eq_true hk)) (gl_of e7 (isG_ok g.1)) F2 F3.kp F4 (fun σ => passAt takes σ) (pa_cons (h1 X ok) pa_nil (star_of n _ _)) (by have := g.2; unfold nodbg at this; simpa using this) (star_of n _ _) (hp _)
end
end DL
end

section
namespace DL
open PySem PySem.Spec L2
open PyProof.Rows hiding St
/-! ### orders by places -/
def leL (p q : List Nat) : Bool := (p.zip q).all fun z => decide (z.1 ≤ z.2)
theorem leL_cons {a b : Nat} {p q : List Nat} : leL (a :: p) (b :: q) = (decide (a ≤ b) && leL p q) := rfl
theorem leL_tr : ∀ {p q s : List Nat}, p.length = q.length → q.length = s.length → leL p q = true → leL q s = true → leL p s = true
  | [], [], _, _, _, _, _ => rfl
  | a :: p, b :: q, [], _, h, _, _ => by simp at h
  | a :: p, b :: q, c :: s, h1, h2, x, y => by
    rw [leL_cons, Bool.and_eq_true, decide_eq_true_eq] at x y ⊢
    exact ⟨Nat.le_trans x.1 y.1, leL_tr (by simpa using h1) (by simpa using h2) x.2 y.2⟩
  | [], _ :: _, _, h, _, _, _ => by simp at h
  | _ :: _, [], _, h, _, _, _ => by simp at h
theorem leL_anti : ∀ {p q : List Nat}, p.length = q.length → leL p q = true → leL q p = true → p = q
  | [], [], _, _, _ => rfl
  | a :: p, b :: q, h, x, y => by
    rw [leL_cons, Bool.and_eq_true, decide_eq_true_eq] at x y
    rw [Nat.le_antisymm x.1 y.1, leL_anti (by simpa using h) x.2 y.2]
  | [], _ :: _, h, _, _ => by simp at h
  | _ :: _, [], h, _, _ => by simp at h
/-- a less in some place, and nowhere more -/
def cellR (ps : List (List Nat)) : Rl := fun a b => decide (ps.getD a [] ≠ ps.getD b []) && leL (ps.getD a []) (ps.getD b [])
theorem cellR_so {n m : Nat} {ps : List (List Nat)} (h : ∀ a < n, (ps.getD a []).length = m) : SO n (cellR ps) := by
  refine ⟨fun a ha => by simp [cellR], fun a ha b hb c hc x y => ?_⟩
  unfold cellR at x y ⊢
  rw [Bool.and_eq_true, decide_eq_true_eq] at x y ⊢
  have l1 := (h a ha).trans (h b hb).symm
  have l2 := (h b hb).trans (h c hc).symm
  refine ⟨fun e => ?_, leL_tr l1 l2 x.2 y.2⟩
  have y2 := y.2
  rw [← e] at y2
  exact x.1 (leL_anti l1 x.2 y2)
/-! ### one above the other, or beside -/
def serR (low : Nat) (way : Bool) (r s : Rl) : Rl := fun a b => if a < low then (if b < low then r a b else way) else (if b < low then false else s (a - low) (b - low))
theorem serR_so {low k : Nat} {way : Bool} {r s : Rl} (h : SO low r) (h' : SO k s) : SO (low + k) (serR low way r s) := by
  refine ⟨fun a ha => ?_, fun a ha b hb c hc x y => ?_⟩
  · unfold serR
    by_cases q : a < low
    · rw [if_pos q, if_pos q]; exact h.irr a q
    · rw [if_neg q, if_neg q]; exact h'.irr _ (by omega)
  · unfold serR at x y ⊢
    by_cases qa : a < low
    · rw [if_pos qa] at x ⊢
      by_cases qb : b < low
      · rw [if_pos qb] at x y
        by_cases qc : c < low
        · rw [if_pos qc] at y ⊢; exact h.tr a qa b qb c qc x y
        · rw [if_neg qc] at y ⊢; exact y
      · rw [if_neg qb] at x y
        by_cases qc : c < low
        · rw [if_pos qc] at y; cases y
        · rw [if_neg qc]; exact x
    · rw [if_neg qa] at x ⊢
      by_cases qb : b < low
      · rw [if_pos qb] at x; cases x
      · rw [if_neg qb] at x y
        by_cases qc : c < low
        · rw [if_pos qc] at y; cases y
        · rw [if_neg qc] at y ⊢
          exact h'.tr _ (by omega) _ (by omega) _ (by omega) x y
theorem msk_shift (f : Nat → Bool) (low k : Nat) : msk f k * 2 ^ low = msk (fun b => decide (low ≤ b) && f (b - low)) (low + k) := by
  refine Nat.eq_of_testBit_eq fun b => ?_
  rw [Nat.mul_comm, Nat.testBit_two_pow_mul, msk_bit, msk_bit]
  by_cases h : low ≤ b
  · have : (b - low < k) = (b < low + k) := by apply propext; omega
    simp [h, this]
  · simp [h]
theorem msk_wide {f : Nat → Bool} {n k : Nat} (h : ∀ b, n ≤ b → f b = false) : msk f n = msk f (n + k) := by
  refine Nat.eq_of_testBit_eq fun b => ?_
  rw [msk_bit, msk_bit]
  by_cases q : b < n
  · have : b < n + k := by omega
    simp [q, this]
  · rw [h b (by omega)]; simp
theorem serR_rows {low k : Nat} {way : Bool} {r s : Rl} :
    ((ofRel low r).map fun m => m ||| (if way then 1 else 0) * msk (fun b => decide (low ≤ b)) (low + k)) ++ ((ofRel k s).map fun m => m * 2 ^ low) = ofRel (low + k) (serR low way r s) := by
  unfold ofRel
  rw [List.map_map, List.map_map, List.range_add, List.map_append, List.map_map]
  congr 1
  · refine List.map_congr_left fun a ha => ?_
    have ha' := List.mem_range.mp ha
    refine Nat.eq_of_testBit_eq fun b => ?_
    simp only [Function.comp]
    rw [msk_bit, Nat.testBit_or, msk_bit]
    unfold serR
    rw [if_pos ha']
    by_cases hb : b < low
    · have h2 : ¬ low ≤ b := by omega
      have h3 : b < low + k := by omega
      cases way
      · simp [hb, h3]
      · rw [if_pos rfl, Nat.one_mul, msk_bit]
        simp [hb, h2, h3]
    · have h2 : low ≤ b := by omega
      cases way
      · simp [hb]
      · rw [if_pos rfl, Nat.one_mul, msk_bit]
        simp [hb, h2]
  · refine List.map_congr_left fun a ha => ?_
    simp only [Function.comp]
    rw [msk_shift]
    refine msk_congr fun b hb => ?_
    unfold serR
    have h1 : ¬ low + a < low := by omega
    have e1 : low + a - low = a := by omega
    rw [if_neg h1, e1]
    by_cases h : b < low
    · have : ¬ low ≤ b := by omega
      simp [h, this]
    · have : low ≤ b := by omega
      simp [h, this]
/-! ### sets under sets -/
def latR (l : List Nat) : Rl := fun a b => decide (l.getD a 0 ≠ l.getD b 0) && decide (l.getD a 0 - (l.getD a 0 &&& l.getD b 0) = 0)
theorem sub_and {x y : Nat} : x - (x &&& y) = 0 ↔ x &&& y = x := by
  have : x &&& y ≤ x := Nat.and_le_left
  omega
theorem latR_so {n : Nat} {l : List Nat} : SO n (latR l) := by
  refine ⟨fun a ha => by simp [latR], fun a ha b hb c hc x y => ?_⟩
  unfold latR at x y ⊢
  rw [Bool.and_eq_true, decide_eq_true_eq, decide_eq_true_eq, sub_and] at x y ⊢
  have e : l.getD a 0 &&& l.getD c 0 = l.getD a 0 := by
    have := x.2
    rw [← this, Nat.and_assoc, y.2]
  refine ⟨fun z => ?_, e⟩
  have y2 := y.2
  rw [← z, Nat.and_comm] at y2
  exact x.1 (x.2.symm.trans y2)
/-! ### ends -/
def endR' (es : List (Nat × Nat)) : Rl := fun a b => decide ((es.getD a (0, 0)).1 + (es.getD a (0, 0)).2 < (es.getD b (0, 0)).1)
theorem endR'_so {n : Nat} {es : List (Nat × Nat)} : SO n (endR' es) := by
  refine ⟨fun a ha => by simp [endR'], fun a ha b hb c hc x y => ?_⟩
  unfold endR' at x y ⊢
  rw [decide_eq_true_eq] at x y ⊢
  omega
theorem fm_some {α : Type} (l : List α) (f : α → D) : l.filterMap (fun x => some (f x)) = l.map f := congrFun List.filterMap_eq_map' _
/-- the masks of a row, summed -/
theorem fm_pow {n : Nat} {f : Nat → Bool} : (List.range n).filterMap (fun b => if f b then some (D.int ((2 ^ b : Nat) : Int)) else none) = natsD (((List.range n).filter f).map fun b => 2 ^ b) := by
  induction List.range n with
  | nil => rfl
  | cons a l ih =>
    rw [List.filterMap_cons, List.filter_cons, ih]
    cases f a <;> rfl
theorem sum_pow {n : Nat} {f : Nat → Bool} : gSum (.lst ((List.range n).filterMap (fun b => if f b then some (D.int ((2 ^ b : Nat) : Int)) else none))) = some (.sh (.int (msk f n : Nat))) := by
  rw [fm_pow, nats_sum, msk_sum]
theorem rows_map {n : Nat} {r : Rl} : (List.range n).filterMap (fun a => some (D.int (msk (r a) n : Nat))) = natsD (ofRel n r) := by
  rw [fm_some]; unfold natsD ofRel; rw [List.map_map]; rfl
end DL
end

section
namespace DL
open PySem PySem.Spec L2
open PyProof.Rows hiding St
local macro_rules | `(tactic| simp_arith only [$xs,*]) => `(tactic| repeat' (first | (with_reducible exact Eq.refl _) | simp only [$xs,*] | (refine wp_ext fun _ _ => ?_) | (refine Wo_ext fun _ => ?_) | (refine congrArg (And _) ?_) | (refine Wif_ext ?_ ?_)))
local macro_rules | `(tactic| rfl) => `(tactic| with_unfolding_all exact Eq.refl _)
def owS : Sl → Option Ct
  | .ow x => some x
  | _ => none
def nonR : Ret → Bool
  | .sh .non => true
  | _ => false
section
variable {α β : Type} {e : En} {X : XQ} {QD : D → En → Prop} {QR : Ret → En → Prop} {QF : Fl → En → Prop} {QL : List D → En → Prop}
theorem wp_sRaise {c f : String} {m : M D} : wp (sRaise c f m e) QF X = wp (m e) (fun d e1 => X c [(f, d)] e1) X := by
  unfold sRaise; rw [wp_bnd]
theorem wp_sTry {c : String} {mb : M Fl} {ms : List (String × D) → M Fl} : wp (sTry c mb ms e) QF X = wp (mb e) QF (fun c' fs e' => c' = c ∧ wp (ms fs e') QF X) := by
  unfold sTry
  cases mb e with
  | no => rfl
  | ok fl e' => rfl
  | ex c' fs e' =>
    show wp (if c' = c then ms fs e' else .no) QF X = _
    rw [wp_iteR]
theorem wp_sSuL {its : List (D ⊕ String)} {i : Nat} {fs : List (String × D)} : wp (sSuL its i fs e) QF X = Wo (itemsD fs its) fun ds => (ds.length ≤ LIM ∧ i < e.length) ∧ QF (.rt (.ow (.l ds))) (e.set i .no) := by
  unfold sSuL
  cases itemsD fs its with
  | none => rfl
  | some ds => show wp (if _ then _ else .no) QF X = _; rw [wp_iteR]
theorem wp_sSuT {its : List (D ⊕ String)} {i : Nat} {fs : List (String × D)} : wp (sSuT its i fs e) QF X = Wo (itemsD fs its) fun ds => (ds.length ≤ LIM ∧ i < e.length) ∧ QF (.rt (.sh (.tup ds))) (e.set i .no) := by
  unfold sSuT
  cases itemsD fs its with
  | none => rfl
  | some ds => show wp (if _ then _ else .no) QF X = _; rw [wp_iteR]
theorem itemsD_nil {fs : List (String × D)} : itemsD fs [] = some [] := (rfl)
theorem itemsD_l {fs : List (String × D)} {d : D} {xs : List (D ⊕ String)} : itemsD fs (.inl d :: xs) = (itemsD fs xs).map (d :: ·) := (rfl)
theorem itemsD_r {fs : List (String × D)} {f : String} {xs : List (D ⊕ String)} : itemsD fs (.inr f :: xs) = (fs.lookup f).bind fun d => (itemsD fs xs).map (d :: ·) := (rfl)
theorem lookup_one {f : String} {d : D} : List.lookup f [(f, d)] = some d := by simp [List.lookup]
theorem permL_n {z : Ar} {l : List Ar} : permL z [] l = [] := (rfl)
theorem permL_c {z : Ar} {j : Nat} {p : List Nat} {l : List Ar} : permL z (j :: p) l = l.getD j z :: permL z p l := (rfl)
theorem owS_ow {x : Ct} : owS (.ow x) = some x := (rfl)
theorem nonR_ : nonR (.sh .non) = true := (rfl)
theorem wp_rMake {c : String} {sem : FS} {ma : M (List Ar)} : wp (rMake c sem ma e) QR X = wp (ma e) (fun as e1 => wp (callS sem (.at e1.length :: as) (e1 ++ [.ow (.o c [])])) (fun r e2 => nonR r = true ∧ Wo (e2[e1.length]?) fun s => Wo (owS s) fun x => QR (.ow x) (e2.take e1.length)) (fun c fs e2 => X c fs (e2.take e1.length))) X := by
  unfold rMake; rw [wp_bnd]
  refine wp_ext fun as e1 => ?_
  cases callS sem (.at e1.length :: as) (e1 ++ [.ow (.o c [])]) with
  | no => rfl
  | ex c fs e2 => rfl
  | ok r e2 =>
    with_unfolding_all show wp (endM e1.length (.ok r e2)) QR X = (nonR r = true ∧ _)
    cases r with
    | ow x => simp [endM, nonR, wp]
    | sh d =>
      cases d with
      | non =>
        unfold endM
        dsimp only [nonR]
        cases e2[e1.length]? with
        | none => simp [wp, Wo]
        | some s => cases s <;> simp [wp, Wo, owS]
      | _ => simp [endM, nonR, wp]
def lstOf : Ret → Option (List D)
  | .ow (.l l) => some l
  | _ => none
theorem lstOf_ {l : List D} : lstOf (.ow (.l l)) = some l := (rfl)
theorem wp_rCallF {sem : FS} {m : M Ret} : wp (rCallF sem m e) QR X = wp (m e) (fun r e1 => Wo (lstOf r) fun l => wp (callS sem [.at e1.length] (e1 ++ [.ow (.l l)])) (fun r' e2 => Wo (asSh r') fun d => QR (.sh d) (e2.take e1.length)) (fun c fs e2 => X c fs (e2.take e1.length))) X := by
  unfold rCallF; rw [wp_bnd]
  refine wp_ext fun r e1 => ?_
  cases r with
  | sh d => rfl
  | ow x =>
    cases x with
    | o c fs => rfl
    | l l =>
      show wp (endC e1.length (callS sem [.at e1.length] (e1 ++ [.ow (.l l)]))) QR X = wp (callS sem [.at e1.length] (e1 ++ [.ow (.l l)])) _ _
      cases callS sem [.at e1.length] (e1 ++ [.ow (.l l)]) with
      | no => rfl
      | ex c fs e2 => rfl
      | ok r' e2 => cases r' <;> rfl
/-! ### comprehensions -/
theorem wp_compPA {g : D → M Unit} {t : M Bool} {m : M D} {vs : List Nat} {l : List α} {f : α → D} {acc : List D} (F : α → Option D) (h0 : noOwn e vs = true)
    (st : ∀ a ∈ l, wp (turnC g t m (f a) (wipeE e vs)) (fun o e1 => o = F a ∧ backE e1 e vs = e) X0)
    (fin : QL (acc ++ l.filterMap F) e) : wp (compF g t m vs (l.map f) acc e) QL X := by
  induction l generalizing acc with
  | nil => rw [List.map_nil, wp_comp0]; simpa using fin
  | cons a l ih =>
    rw [List.map_cons]
    refine wp_comp1 h0 (wp_mono (st a List.mem_cons_self) (fun o e1 h => ?_) fun _ _ _ h => h)
    obtain ⟨rfl, h2⟩ := h
    rw [h2]
    refine ih (fun b hb => st b (List.mem_cons_of_mem _ hb)) ?_
    rw [List.filterMap_cons] at fin
    cases q : F a with
    | none => rw [q] at fin; simpa using fin
    | some y => rw [q] at fin; simpa using fin
theorem wp_comp2P {g : D → M Unit} {t : M Bool} {mi1 : M (List D)} {g1 : D → M Unit} {t1 : M Bool} {m : M D} {vs vs1 : List Nat} {f : α → D} (F : α → List D) (B : Nat) (h0 : noOwn e vs = true) : ∀ (l : List α) (acc : List D),
    acc.length + (l.flatMap F).length ≤ B →
    (∀ a ∈ l, ∀ acc : List D, acc.length ≤ B → wp (g (f a) (wipeE e vs)) (fun _ ea => wp (t ea) (fun k e2 => k = true ∧ wp (mi1 e2) (fun ds1 e3 => acc.length + ds1.length ≤ LIM ∧ wp (compF g1 t1 m vs1 ds1 acc e3) (fun acc' e4 => acc' = acc ++ F a ∧ backE e4 e vs = e) X0) X0) X0) X0) →
    QL (acc ++ l.flatMap F) e → wp (comp2F g t mi1 g1 t1 m vs vs1 (l.map f) acc e) QL X
  | [], acc, _, _, fin => by
    have : comp2F g t mi1 g1 t1 m vs vs1 (([] : List α).map f) acc e = .ok acc e := rfl
    rw [this, wp_ok]; simpa using fin
  | a :: l, acc, hB, st, fin => by
    rw [List.flatMap_cons, List.length_append] at hB
    have h1 := st a List.mem_cons_self acc (by omega)
    rw [List.map_cons]
    unfold comp2F
    rw [if_pos h0]
    unfold M.bnd
    cases q : g (f a) (wipeE e vs) with
    | no => rw [q, wp_no] at h1; exact h1.elim
    | ex c fs e1 => rw [q, wp_ex] at h1; exact h1.elim
    | ok u ea =>
      rw [q, wp_ok] at h1
      have h2 := (show wp (t ea) _ X0 from h1)
      dsimp only
      cases q2 : t ea with
      | no => rw [q2, wp_no] at h2; exact h2.elim
      | ex c fs e1 => rw [q2, wp_ex] at h2; exact h2.elim
      | ok k e2 =>
        rw [q2, wp_ok] at h2
        obtain ⟨hk, h3⟩ := (show k = true ∧ wp (mi1 e2) _ X0 from h2)
        subst hk
        dsimp only
        cases q3 : mi1 e2 with
        | no => rw [q3, wp_no] at h3; exact h3.elim
        | ex c fs e1 => rw [q3, wp_ex] at h3; exact h3.elim
        | ok ds1 e3 =>
          rw [q3, wp_ok] at h3
          obtain ⟨hl, h4⟩ := (show _ ∧ wp (compF g1 t1 m vs1 ds1 acc e3) _ X0 from h3)
          dsimp only
          rw [if_pos hl]
          cases q4 : compF g1 t1 m vs1 ds1 acc e3 with
          | no => rw [q4, wp_no] at h4; exact h4.elim
          | ex c fs e1 => rw [q4, wp_ex] at h4; exact h4.elim
          | ok acc' e4 =>
            rw [q4, wp_ok] at h4
            obtain ⟨ha, hb⟩ := (show _ ∧ _ from h4)
            dsimp only
            rw [hb, ha]
            exact wp_comp2P F B h0 l _ (by rw [List.length_append]; omega) (fun b hb => st b (List.mem_cons_of_mem _ hb)) (by rw [List.append_assoc, ← List.flatMap_cons]; exact fin)
end
end DL
end

section
namespace DL
open PySem PySem.Spec L2
open PyProof.Rows hiding St
/-! ### an own list is read, and stays one's own -/
/-- no list within -/
inductive Pure : D → Prop where
  | non : Pure .non
  | bl (b : Bool) : Pure (.bl b)
  | int (i : Int) : Pure (.int i)
  | str (x : Str) : Pure (.str x)
  | tup (l : List D) : (∀ d ∈ l, Pure d) → Pure (.tup l)
def hid (i : Nat) (x : Ct) (e : En) : En := (e.map fun s => match s with
  | .ow _ => .no
  | .io _ => .no
  | s => s).set i (.sh x.d)
open Classical in
/-- what a reading of the list in i gives: nobody keeps the list -/
noncomputable def lend (i : Nat) (m : M D) : M D := fun e => match e[i]? with
  | some (.ow (.l l)) => match m (hid i (.l l) e) with
    | .ok d e' => if e' = hid i (.l l) e ∧ Pure d then .ok d e else .no
    | _ => .no
  | _ => m e
theorem rep_drop {K : PySem.W.Frag} {mg : MG} {G G' : Hp} {a : Addr} {vs : List V} (ga : G a = some (.lst vs)) (hs : ∀ b o, b ≠ a → G b = some o → G' b = some o) : ∀ {v : V} {d : D}, Rep K mg G v d → Pure d → Rep K mg G' v d := by
  intro v d h
  induction h with
  | non => exact fun _ => .non
  | bl b => exact fun _ => .bl b
  | int i => exact fun _ => .int i
  | str x => exact fun _ => .str x
  | @tup b ws l h1 h2 h3 ih =>
    intro hp
    cases hp with
    | tup _ hp =>
      refine .tup ?_ h2 fun j v d q1 q2 => ih j v d q1 q2 (hp d (List.mem_of_getElem? q2))
      rcases h1 with (h | ⟨o, h⟩) | h
      · exact .inl (.inl (hs _ _ (fun z => by rw [z, ga] at h; cases h) h))
      · exact .inl (.inr ⟨o, hs _ _ (fun z => by rw [z, ga] at h; cases h) h⟩)
      · exact .inr h
  | lst _ _ _ _ => intro hp; cases hp
  | dct _ _ _ _ _ => intro hp; cases hp
  | obj _ _ _ _ _ _ _ => intro hp; cases hp
theorem hid_get {i j : Nat} {x : Ct} {e : En} {s : Sl} (h : (hid i x e)[j]? = some s) : (j = i ∧ s = .sh x.d) ∨ (j ≠ i ∧ (s = .no ∨ ∃ d, s = .sh d ∧ e[j]? = some (.sh d))) := by
  unfold hid at h
  by_cases q : i = j
  · subst q
    rw [List.getElem?_set] at h
    simp at h
    exact .inl ⟨rfl, h.2.symm⟩
  · rw [List.getElem?_set_ne q, List.getElem?_map] at h
    refine .inr ⟨fun z => q z.symm, ?_⟩
    cases w : e[j]? with
    | none => rw [w] at h; cases h
    | some t =>
      rw [w] at h
      simp at h
      cases t with
      | no => exact .inl h.symm
      | sh d => exact .inr ⟨d, h.symm, rfl⟩
      | ow _ => exact .inl h.symm
      | io _ => exact .inl h.symm
theorem hid_own {i j : Nat} {x y : Ct} {e : En} {s : Sl} (h : (hid i x e)[j]? = some s) (h' : s.own = some y) : False := by
  rcases hid_get h with ⟨_, rfl⟩ | ⟨_, rfl | ⟨d, rfl, _⟩⟩ <;> cases h'
open Classical in
theorem simE_lend {I : CI} {W : WX} {t : TE} {m : M D} (h : SimE I W t m) (i : Nat) : SimE I W t (lend i m) := by
  intro p G σ H e Q S w
  unfold lend at w
  cases q : e[i]? with
  | none => rw [q] at w; exact h p G σ H e Q S w
  | some s =>
    rw [q] at w
    cases s with
    | no => exact h p G σ H e Q S w
    | sh d => exact h p G σ H e Q S w
    | io x => exact h p G σ H e Q S w
    | ow x =>
      cases x with
      | o c fs => exact h p G σ H e Q S w
      | l l =>
        obtain ⟨a, ha, ga, vs, hvs, rvs⟩ := S.ow i _ _ q rfl
        have h0a := S.of i _ a q ha
        have hFa := S.ka i _ _ a q rfl ha
        have sG : Same G (upd G a (.lst vs)) := fun b u z => by
          rw [upd_ne (fun y => by rw [y, ga] at z; cases z)]; exact z
        let OC : Addr → Prop := fun b => ∃ j s x c, e[j]? = some s ∧ s.own = some x ∧ σ[j]? = some (some (.ref c)) ∧ j ≠ i ∧ (b = c ∨ ∃ C ws, H c = some (.ins C b ws))
        have oc : ∀ b, OC b → b ≠ a ∧ G b = none ∧ ∃ o, H b = some o := by
          rintro b ⟨j, s, x, c, q1, q2, q3, ne, hb⟩
          obtain ⟨c', k1, k2, k3⟩ := S.ow j s x q1 q2
          rw [q3] at k1; cases k1
          have ca : c ≠ a := fun z => ne (S.ap j i s _ x _ c q1 q q2 rfl q3 (by rw [z]; exact ha))
          rcases hb with rfl | ⟨C, ws, hb⟩
          · obtain ⟨o, ho, _⟩ := k3.at
            exact ⟨ca, k2, o, ho⟩
          · cases x with
            | l l' => obtain ⟨us, hus, _⟩ := k3; rw [hus] at hb; cases hb
            | o cn fs =>
              obtain ⟨C', dx, ws', hc, hdx, gdx, _⟩ := k3
              rw [hc] at hb; cases hb
              exact ⟨fun z => by (rw [z, hvs] at hdx; cases hdx), gdx, _, hdx⟩
        let F' : Hp := fun b => if OC b then H b else p.F b
        have F1 : ∀ b, OC b → F' b = H b := fun b z => by show (if _ then _ else _) = _; rw [if_pos z]
        have F2 : ∀ b, ¬ OC b → F' b = p.F b := fun b z => by show (if _ then _ else _) = _; rw [if_neg z]
        let p' : Pm := { p with F := F' }
        have S1 : Srp I.K I.mg p' (upd G a (.lst vs)) σ H (hid i (.l l) e) := by
          refine ⟨?_, by rw [S.len]; simp [hid], ?_, ?_, ?_, ?_, S.fr, ?_, ?_, S.dm, ?_, ?_⟩
          · intro b u z
            by_cases hb : b = a
            · subst hb; rw [upd_same] at z; cases z; exact hvs
            · rw [upd_ne hb] at z; exact S.sub _ _ z
          · intro j d z
            rcases hid_get z with ⟨rfl, e1⟩ | ⟨_, e1 | ⟨d', e1, e2⟩⟩
            · cases e1
              exact ⟨_, ha, .mk_lst (.inl (.inl upd_same)) (rvs.mono sG)⟩
            · cases e1
            · cases e1
              obtain ⟨v, k1, k2⟩ := S.sh j d e2
              exact ⟨v, k1, k2.mono sG⟩
          · intro j s x z1 z2; exact (hid_own z1 z2).elim
          · intro j x z; exact (hid_own z rfl).elim
          · intro j k s t x y b z1 z2 z3 z4 _ _; exact (hid_own z1 z3).elim
          · intro b u z
            by_cases hb : b = a
            · subst hb; exact .inr h0a
            · rw [upd_ne hb] at z; exact S.nw _ _ z
          · intro j x b z _; exact (hid_own z rfl).elim
          · intro b u z
            by_cases hb : OC b
            · obtain ⟨n1, n2, _⟩ := oc b hb
              have z' : H b = some u := by rw [← F1 b hb]; exact z
              exact ⟨z', by rw [upd_ne n1]; exact n2⟩
            · have z' : p.F b = some u := by rw [← F2 b hb]; exact z
              obtain ⟨k1, k2⟩ := S.kp b u z'
              exact ⟨k1, by rw [upd_ne (fun y => by rw [y, hFa] at z'; cases z')]; exact k2⟩
          · intro j s x b z1 z2 _; exact (hid_own z1 z2).elim
        refine h p' _ σ H _ Q S1 ?_
        cases r : m (hid i (.l l) e) with
        | no => simp only [r] at w; exact w.elim
        | ex c fs e' => simp only [r] at w; exact w.elim
        | ok d e' =>
          simp only [r] at w
          by_cases hc : e' = hid i (.l l) e ∧ Pure d
          · rw [if_pos hc] at w
            obtain ⟨rfl, hp⟩ := hc
            intro G'' H'' s'' S'' v rv
            have gaa : G'' a = some (.lst vs) := s'' _ _ upd_same
            have g3 : ∀ b, b ≠ a → (fun b => if b = a then none else G'' b : Hp) b = G'' b := fun b hb => by show (if _ then _ else _) = _; rw [if_neg hb]
            have g3a : (fun b => if b = a then none else G'' b : Hp) a = none := by show (if _ then _ else _) = _; rw [if_pos rfl]
            obtain ⟨G3, hG3⟩ : ∃ G3 : Hp, G3 = fun b => if b = a then none else G'' b := ⟨_, rfl⟩
            rw [← hG3] at g3 g3a
            have g3s : ∀ b o, G3 b = some o → b ≠ a ∧ G'' b = some o := fun b o z => by
              have hb : b ≠ a := fun y => by rw [y, g3a] at z; cases z
              exact ⟨hb, by rw [← g3 b hb]; exact z⟩
            have g3n : ∀ b, G'' b = none → G3 b = none := fun b z => by
              by_cases hb : b = a
              · rw [hb]; exact g3a
              · rw [g3 b hb]; exact z
            have sG3 : Same G G3 := fun b o z => by
              rw [g3 b (fun y => by rw [y, ga] at z; cases z)]
              exact s'' _ _ (sG _ _ z)
            refine w G3 H'' sG3 ?_ v (rep_drop gaa (fun b o hb z => by rw [g3 b hb]; exact z) rv hp)
            refine ⟨fun b u z => S''.sub _ _ (g3s b u z).2, S.len, fun j d z => ?_, fun j s x z1 z2 => ?_, S.io, S.ap, S''.fr, fun b u z => S''.nw _ _ (g3s b u z).2, S.of, S''.dm, fun b u z => ?_, S.ka⟩
            · obtain ⟨v, k1, k2⟩ := S.sh j d z
              exact ⟨v, k1, k2.mono sG3⟩
            · by_cases hj : j = i
              · subst hj
                rw [q] at z1; cases z1; cases z2
                exact ⟨a, ha, g3a, vs, S''.sub _ _ gaa, rvs.mono sG3⟩
              · obtain ⟨c, k1, k2, k3⟩ := S.ow j s x z1 z2
                have cell : ∀ b o, H b = some o → (b = c ∨ ∃ C ws, H c = some (.ins C b ws)) → H'' b = some o ∧ G'' b = none := fun b o hb hc => by
                  have : OC b := ⟨j, s, x, c, z1, z2, k1, hj, hc⟩
                  exact S''.kp b o (by show F' b = _; rw [F1 b this]; exact hb)
                cases x with
                | l l' =>
                  obtain ⟨us, hus, rus⟩ := k3
                  obtain ⟨n1, n2⟩ := cell c _ hus (.inl rfl)
                  exact ⟨c, k1, g3n _ n2, us, n1, rus.mono sG3⟩
                | o cn fs =>
                  obtain ⟨C, dx, ws, hc, hdx, gdx, h4, h5, vf, h6, h7⟩ := k3
                  obtain ⟨n1, n2⟩ := cell c _ hc (.inl rfl)
                  obtain ⟨n3, n4⟩ := cell dx _ hdx (.inr ⟨C, ws, hc⟩)
                  exact ⟨c, k1, g3n _ n2, C, dx, ws, n1, n3, g3n _ n4, h4, h5, vf, fun f d y => ⟨(h6 f d y).1, (h6 f d y).2.mono sG3⟩, h7⟩
            · by_cases hb : OC b
              · have hH := (S.kp b u z).1
                obtain ⟨n1, n2⟩ := S''.kp b u (by show F' b = _; rw [F1 b hb]; exact hH)
                exact ⟨n1, g3n _ n2⟩
              · obtain ⟨n1, n2⟩ := S''.kp b u (by show F' b = _; rw [F2 b hb]; exact z)
                exact ⟨n1, g3n _ n2⟩
          · rw [if_neg hc] at w; exact w.elim
theorem de_lend {I : CI} {W : WX} {a : Expr} {m : M D} (h : DE I W a m) (i : Nat) : DE I W a (lend i m) := let ⟨t, h1, h2⟩ := h; ⟨t, h1, simE_lend h2 i⟩
end DL
end

section
namespace DL
open PySem PySem.Spec L2
open PyProof.Rows hiding St
/-! ### isinstance(x, C), C a class of the program -/
/-- what has to be known of such a class -/
structure IsaC (K : PySem.W.Frag) (C : Addr) : Prop where
  cl : Cls K C
  ha : PySem.W.findIn K (.ref C) "__class__" = some (some (.builtin "object.__class__"))
  hn : PySem.W.specialIn K (.builtin "object.__class__") "__get__" = some (some (.builtin "getset_descriptor.__get__"))
  tk : PySem.W.takesIn K (.builtin "object.__class__") = some true
  mr : PySem.W.mroIn K C (.type "object") = some true
  ne : PySem.W.findIn K (.ref C) "__ne__" = some (some (.builtin "object.__ne__"))
  no : ∀ T ∈ ["NoneType", "bool", "int", "str", "tuple", "list", "dict"], PySem.W.kitOne K (.type T) (.ref C) = some false
def IsaF (K : PySem.W.Frag) (mg : MG) (c : String) : Prop := ∃ C, mg (Str.ofString c) = some (.ref C) ∧ IsaC K C
def isaD (c : String) : D → Option Ret
  | .obj c' _ => if c' = c then some (.sh (.bl true)) else none
  | _ => some (.sh (.bl false))
theorem dty_mem {d : D} {T : String} (h : d.ty = some T) : T ∈ ["NoneType", "bool", "int", "str", "tuple", "list", "dict"] := by
  cases d <;> cases h <;> decide
section
variable {I : CI} {W : WX} {a : Expr} {p0 p1 pos : Pos} {c : String}
theorem c_isa {m : M D} (F : IsaF I.K I.mg c) (g : I.sc.names.lookup ("isinstance" : Str) = some .globalImplicit) (hm : I.mg ("isinstance" : Str) = none) (g2 : (glB I.sc (Str.ofString c) && nodbg (Str.ofString c)) = true) (ha : DE I W a m) (n : nst a = true) :
    DR I W (.Call (.Name "isinstance" p0) [a, .Name (Str.ofString c) p1] [] pos) (rOne m (isaD c)) := by
  obtain ⟨t, h1, h2⟩ := ha
  obtain ⟨C, hC, F⟩ := F
  simp only [Bool.and_eq_true] at g2
  refine ⟨tCB (rIsi I.K) (tCons t (tCons (tC (.ref C)) tNil)), fun X ok => pe_callB (by have := call_isi (X := X); rw [ok.hK] at this; exact this) (gl_of ok.hsc g) (by rw [ok.hmg]; exact hm) boot_isinstance
    (pa_cons (h1 X ok) (pa_cons (pe_gv (gl_of ok.hsc (isG_ok g2.1)) (by rw [ok.hmg]; exact hC) rfl (by have := g2.2; unfold nodbg at this; simpa using this)) pa_nil) (star_of n _ _)) (by decide) (by decide) (star_of n _ _) rfl, fun p G σ H e Q S w => ?_⟩
  refine h2 p G σ H e _ S (Wp.mono (Wp.bnd w) fun d G1 H1 e1 s1 S1 w1 v r => ?_)
  obtain ⟨res, hf, k⟩ := lift_wp w1
  have plain : ∀ T, d.ty = some T → isaD c d = some (.sh (.bl false)) → rIsi I.K [v, .ref C] H1 Q := fun T hT hf' => by
    rw [hf'] at hf; cases hf
    exact ⟨v, .ref C, _, _, false, rfl, .own C, tyx_of r S1.sub hT, F.no T (dty_mem hT), k G1 H1 (Same.refl _) S1 _ (.bl _)⟩
  cases d with
  | non => exact plain _ rfl rfl
  | bl b => exact plain _ rfl rfl
  | int i => exact plain _ rfl rfl
  | str z => exact plain _ rfl rfl
  | tup l => exact plain _ rfl rfl
  | lst l => exact plain _ rfl rfl
  | dct l => exact plain _ rfl rfl
  | obj c' fs =>
    dsimp only [isaD] at hf
    by_cases q : c' = c
    · rw [if_pos q] at hf; cases hf
      subst q
      cases r with
      | @obj a C' dx ws _ _ vf e1 e2 _ _ _ =>
        rw [hC] at e2; cases e2
        exact ⟨_, .ref C, _, _, true, rfl, .own C, .base (.ins (S1.sub _ _ e1) F.cl F.ha F.hn F.tk F.mr), by unfold PySem.W.kitOne; rw [if_pos (by simp)], k G1 H1 (Same.refl _) S1 _ (.bl _)⟩
    · rw [if_neg q] at hf; cases hf
end
end DL
end

section
namespace L2
open PySem PySem.Spec PyProof.Rows
/-! ### several clauses, each with a name of its own -/
/-- a clause's end: its name is gone -/
def goneE (i : Nat) (D : Ends) : Ends := ⟨fun σ H => D.nx (σ.set i none) H, D.rt, fun σ H => D.bk (σ.set i none) H, fun σ H => D.ct (σ.set i none) H⟩
abbrev Cl := Value × Nat × (Addr → Value → Option Addr → TS)
def wCls (K : PySem.W.Frag) (Wo : WX) (D : Ends) : List Cl → WX
  | [] => Wo
  | z :: r => fun cls d σ H => ∃ b, PySem.W.exmOne K cls z.1 = some b ∧ (b = true → ∀ a, H a = none → z.2.2 a cls d (goneE z.2.1 D) (σ.set z.2.1 (some (.ref a))) H) ∧ (b = false → wCls K Wo D r cls d σ H)
inductive ClsOk (X : Cx) : List ExceptHandler → List Cl → Prop
  | nil : ClsOk X [] []
  | cons {x n : Str} {c : Value} {i : Nat} {ts : Addr → Value → Option Addr → TS} {b₀ : Stmt} {suite : List Stmt} {p1 p2 : Pos} {hr : List ExceptHandler} {l : List Cl} (hi : X.N[i]? = some n) (hl : X.env.kindOf n = some .local) (hc : Names X x c)
      (hu : ∀ (a : Addr) (oe : Obj) (cls : Value) (d : Option Addr) (pn : List (Addr × Obj)), Zc cls d oe → (∃ vs, oe.data = .fields vs) → PSs (X.suite a ((a, oe) :: pn)) (b₀ :: suite) (ts a cls d)) (r : ClsOk X hr l) :
      ClsOk X (.ExceptHandler (some (.Name x p1)) (some n) (b₀ :: suite) p2 :: hr) ((c, i, ts) :: l)
section
variable {X : Cx} {body : List Stmt} {h₀ : ExceptHandler} {hr : List ExceptHandler} {l : List Cl} {pos : Pos} {tb : WX → TS} {Wo : WX}
theorem ps_try_cls (hs : X.stack = X.env :: X.outer) (hf : X.env.frame = some X.env.locals) (hN : X.N.Nodup) (tk : Takes X Wo)
    (hb : ∀ (W : WX) (pn : List (Addr × Obj)) (xe : Value → Shared → Prop), Takes (X.tr pn xe) W → PassesOwn (model X.prog X.w) X.A X.env xe → PSs (X.tr pn xe) body (tb W))
    (hh : ClsOk X (h₀ :: hr) l) : PS X (.Try body (h₀ :: hr) [] [] pos) (fun D σ H => tb (wCls X.K Wo D l) D σ H) := by
  constructor
  intro pins s σ H D I h
  have ok := I.ok
  have frm : X.A.frames = some (X.env :: X.outer) := by rw [ok.frames, hs]
  let E2 : Value → Shared → Prop := fun e s₁ => wpAny (model X.prog X.w) X.A (noteFrame e X.env) (fun _ s₂ => wpAny (model X.prog X.w) X.A (setFlight e none) (fun _ s₃ => wpAny (model X.prog X.w) X.A (handleBy e X.env (h₀ :: hr)) (SP X pins D) X.xe s₃) X.xe s₂) X.xe s₁
  have T2 : Takes (X.tr (X.pn ++ pins) E2) (wCls X.K Wo D l) := by
    rintro u s' ⟨a, B, sI, pins', σ', H', cls, d, rfl, J', nb, up, sky, na, os, ag, w⟩
    have J : Inv X pins σ' H' sI := J'.ofTry ok
    have sk : Sky B (X.env :: X.outer) a (Zc cls d) X.env.locals s'.heap := by rw [← hs]; exact sky
    show wpAny (model X.prog X.w) X.A (noteFrame (.ref a) X.env) _ _ _
    refine Sky.land Zc.steady frm hf sk fun h3 fl3 up3 => ?_
    have up13 := up.trans up3
    have J3 : Inv X pins σ' H' { s' with heap := h3 } := J.landed nb fl3.1 up13 os ag
    obtain ⟨o3, v3, he3, hz3, hd3⟩ := fl3.there
    have away : ∀ {g : Heap} {o : Obj} {vs : Array Value}, g.FunFrames B (X.env :: X.outer) → g.get? a = some o → o.data = .fields vs → a ∉ frs (X.env :: X.outer) := fun {g o vs} z1 z2 z3 z4 => by
      obtain ⟨_, o', z5, z6⟩ := z1.mem z4
      rw [z2] at z5
      cases z5
      exact z6 _ z3
    have nfr := away fl3.2.2.1 he3 hd3
    have nl : a ≠ X.env.locals := fun z => nfr (List.mem_filterMap.mpr ⟨X.env, List.mem_cons_self, by rw [hf, z]⟩)
    have nf : a ∉ X.fs := fun hm => by
      obtain ⟨e, z1, z2⟩ := List.mem_filterMap.mp hm
      exact nfr (List.mem_filterMap.mpr ⟨e, List.mem_cons_of_mem _ z1, z2⟩)
    have S3 := J3.suite he3 hd3 na nl nf
    have walk : ∀ {hr' : List ExceptHandler} {l' : List Cl}, ClsOk X hr' l' → wCls X.K Wo D l' cls d σ' H' → wpAny (model X.prog X.w) X.A (handleBy (.ref a) X.env hr') (SP X pins D) X.xe { s' with heap := h3 } := by
      intro hr' l' hk
      induction hk with
      | nil =>
        intro w
        obtain ⟨_, _, _, oe, vs, T, oT, ts', he, _, hd, h1, _⟩ := id fl3
        have fin : wpAny (model X.prog X.w) X.A (setFlight (.ref a) X.env.frame) (fun _ s4 => wpAny (model X.prog X.w) X.A (throw (.ref a) : Sem Flow) (SP X pins D) X.xe s4) X.xe { s' with heap := h3 } := by
          rw [hf]
          refine HandSPX.setFlight_upZ fl3 fun h4 z4 up4 => wpAny_throw (tk _ _ ?_)
          refine ⟨a, B, sI, pins, σ', H', cls, d, rfl, J, nb, up13.trans up4, .inr (.inr ?_), na, os, ag, w⟩
          rw [hs]; exact z4
        apply wpAny_handleBy_nil
        unfold PySem.passOn
        apply wpAny_bind
        refine wpAny_field he hd h1 ?_
        rw [if_neg (by simp : ¬ ((Value.ref T == Value.none) = true))]
        first | exact wpAny_bind (wpAny_pure (wpAny_bind fin)) | exact wpAny_bind fin
      | @cons x n c i ts b₀ suite p1 p2 hr2 l2 hi hl hc hu r ih =>
        intro ⟨b, hb1, hyes, hno⟩
        refine wpAny_handleBy_cons (codeAny_handlers_test ?_) (by intro q; cases q)
        have looks : PySem.W.Looks (model X.prog X.w) h3 (typeOf (.ref a)) cls := fun A Q E s k q => wpAny_typeOf_ref (k _ _ he3) (by rw [hz3.1]; exact q)
        have told := PySem.W.exm_one (M := model X.prog X.w) (J3.kIn) looks hb1
        have named : ∀ {Q E : Value → Shared → Prop}, Q c { s' with heap := h3 } → wpAny (model X.prog X.w) (X.A.mark (some (.ref a))) (eval (.Name x p1) X.env) Q E { s' with heap := h3 } := fun {Q E} q => by
          rcases hc with ⟨z1, z2, z3 | ⟨z3, z4, z5⟩⟩
          · exact ld_glob (X := X.suite a ((a, o3) :: (X.pn ++ pins))) S3 z1 z3 q z2
          · exact ld_blt (X := X.suite a ((a, o3) :: (X.pn ++ pins))) S3 z1 z3 z4 q z5 z2
        refine named (told.here ?_)
        cases b with
        | false => exact ih (hno rfl)
        | true =>
          refine codeAny_handlers_suite_as ?_
          refine HandSPX.lands_againZ fl3 fun h4 fl4 up4 => ?_
          have J4 : Inv X pins σ' H' { s' with heap := h4 } := J.landed nb fl4.1 (up13.trans up4) os ag
          obtain ⟨o4, v4, he4, hz4, hd4⟩ := fl4.there
          have S4 := J4.suite he4 hd4 na nl nf
          refine store_ok (X := X.suite a ((a, o4) :: (X.pn ++ pins))) (v := .ref a) S4 hN hi (.inl hl) rfl (fun s5 S5 => ?_) (.inr hl)
          refine wpAny_mono ((hu a o4 cls d (X.pn ++ pins) hz4 ⟨_, hd4⟩).run [] s5 _ H' _ S5 (hyes rfl a na)) (fun f s6 hsp => ?_) (fun _ _ z => z.elim)
          have off : ∀ {σ6 : St} {H6 : Hp} {Q : Shared → Prop}, Inv (X.suite a ((a, o4) :: (X.pn ++ pins))) [] σ6 H6 s6 → (∀ s7, Inv X pins (σ6.set i none) H6 s7 → Q s7) →
              wpAny (model X.prog X.w) X.A (do bindName X.env n .none; unbindBehindTheSuite X.env n p2) (fun _ s7 => Q s7) X.xe s6 := fun {σ6 H6 Q} S6 hq => gone_ok (S6.unsuite ok) hN hi hl hq
          cases f with
          | ret u =>
            obtain ⟨v6, σ6, H6, S6, r6, q6⟩ := hsp
            refine off S6 fun s7 J7 => ?_
            exact ⟨v6, _, _, J7, r6, q6⟩
          | next => exact let ⟨_, _, S6, q6⟩ := hsp; off S6 fun s7 J7 => ⟨_, _, J7, q6⟩
          | brk => exact let ⟨_, _, S6, q6⟩ := hsp; off S6 fun s7 J7 => ⟨_, _, J7, q6⟩
          | cont => exact let ⟨_, _, S6, q6⟩ := hsp; off S6 fun s7 J7 => ⟨_, _, J7, q6⟩
    exact walk hh w
  refine wpAny_Try_except ?_
  refine wpAny_mono ((hb (wCls X.K Wo D l) (X.pn ++ pins) E2 T2 PassesOwn.looking).run [] s σ H D (I.toTry _) h) (fun f s1 hsp => ?_) (fun e s1 he => he)
  cases f with
  | ret u => exact let ⟨v, _, _, J', r, q⟩ := hsp; ⟨v, _, _, J'.ofTry ok, r, q⟩
  | next => exact let ⟨_, _, J', q⟩ := hsp; wpAny_execs_nil ⟨_, _, J'.ofTry ok, q⟩
  | brk => exact let ⟨_, _, J', q⟩ := hsp; ⟨_, _, J'.ofTry ok, q⟩
  | cont => exact let ⟨_, _, J', q⟩ := hsp; ⟨_, _, J'.ofTry ok, q⟩
end
end L2
end

section
namespace DL
open PySem PySem.Spec L2
open PyProof.Rows hiding St

/-! ### the head's facts of classes -/
def faC (tab : List CD) : List He.Fa := tab.flatMap fun cd => .glo (Str.ofString cd.nm) :: .cls (Str.ofString cd.nm) :: cd.fl.map fun f => .noat (Str.ofString cd.nm) (Str.ofString f)
/-- a class's def, as a datum -/
def ddm (c m : String) (qual : Str) (st : Stmt) : He.DefD := ⟨(Str.ofString c, some (Str.ofString m)), Str.ofString m, qual, defArgs st, defBody st, defScope st, [], []⟩
section
variable {K : PySem.W.Frag} {h : Heap} {mg : MG} {fa : List He.Fa} {fn : List He.DefD} {tab : List CD} {c m : String} {qual : Str} {st : Stmt}
theorem clt_of (X : K.In h) (G : h.Ns mainGlobals mg) (s : He.SaysD fa fn K) (hs : ∀ f ∈ faC tab, f ∈ fa) : ClT K mg tab := by
  intro cd hcd
  have g : ∀ f ∈ He.Fa.glo (Str.ofString cd.nm) :: .cls (Str.ofString cd.nm) :: cd.fl.map (fun f => .noat (Str.ofString cd.nm) (Str.ofString f)), f.ok K = true := fun f hf => says_fact s (hs f (List.mem_flatMap.mpr ⟨cd, hcd, hf⟩))
  refine ⟨_, He.glo_ok X G (g _ List.mem_cons_self), He.cls_ok (g _ (List.mem_cons_of_mem _ List.mem_cons_self)), fun f hf => He.noat_ok (g _ (List.mem_cons_of_mem _ (List.mem_cons_of_mem _ (List.mem_map.mpr ⟨f, hf, rfl⟩))))⟩
theorem fm_of (X : K.In h) (G : h.Ns mainGlobals mg) (s : He.SaysD fa fn K) (i : Nat) (hi : fn[i]? = some (ddm c m qual st)) (h1 : He.Fa.glo (Str.ofString c) ∈ fa) (h2 : He.Fa.cls (Str.ofString c) ∈ fa) (h3 : He.Fa.meth (Str.ofString c) (Str.ofString m) ∈ fa) : FM K mg c m qual st := by
  obtain ⟨fd, F⟩ := s.def_ i (d := ddm c m qual st) hi
  exact ⟨_, _, fd, He.glo_ok X G (says_fact s h1), He.cls_ok (says_fact s h2), He.meth_ok (says_fact s h3), F⟩
theorem fi_of (X : K.In h) (G : h.Ns mainGlobals mg) (s : He.SaysD fa fn K) (i : Nat) (hi : fn[i]? = some (ddm c "__init__" qual st)) (h1 : He.Fa.glo (Str.ofString c) ∈ fa) (h3 : He.Fa.mkr (Str.ofString c) ∈ fa) : FI K mg c qual st := by
  obtain ⟨fd, F⟩ := s.def_ i (d := ddm c "__init__" qual st) hi
  exact ⟨_, _, fd, He.glo_ok X G (says_fact s h1), He.mkr_ok (says_fact s h3), F⟩
theorem gi_of (X : K.In h) (G : h.Ns mainGlobals mg) (s : He.SaysD fa fn K) {x : Str} {i : Int} (hf : He.Fa.int x i ∈ fa) : ∃ t, mg x = some (.int i t) := He.int_ok X G (says_fact s hf)
theorem gs_of (X : K.In h) (G : h.Ns mainGlobals mg) (s : He.SaysD fa fn K) {x z : Str} (hf : He.Fa.str x z ∈ fa) : ∃ t, mg x = some (.str z t) := He.str_ok X G (says_fact s hf)
end
end DL
end

section
namespace DL
open PySem PySem.Spec L2
open PyProof.Rows hiding St
/-! ### the head's facts of error classes -/
def exB (K : PySem.W.Frag) (xf : String × String) : Bool :=
  oexB K (He.ga K (Str.ofString xf.1)) && (xfB K (He.ga K (Str.ofString xf.1)) && (He.eqO (PySem.W.findIn K (.ref (He.ga K (Str.ofString xf.1))) (Str.ofString xf.2)) (some none) &&
    (He.eqO (PySem.W.findIn K (.ref (He.ga K (Str.ofString xf.1))) "__init__") (some (some (.ref (He.ma K (He.ga K (Str.ofString xf.1)) "__init__")))) &&
      (decide (PySem.W.typeIn K (.ref (He.ma K (He.ga K (Str.ofString xf.1)) "__init__")) = some (.type "function")) && decide (PySem.W.exmOne K (.ref (He.ga K (Str.ofString xf.1))) (.ref (He.ga K (Str.ofString xf.1))) = some true)))))
abbrev AlX : Type := He.AlD × Bool
def exAll (ecs : List (String × String)) (bs : List String) (K : PySem.W.Frag) : Bool := ecs.all (exB K) && bs.all fun b => baseB K (He.ga K (Str.ofString b))
def obsX (fa : List He.Fa) (fn : List He.DefD) (ecs : List (String × String)) (bs : List String) (K : PySem.W.Frag) : AlX := (He.obsD fa fn K, exAll ecs bs K)
def obsXG (n : Nat) (fa : List He.Fa) (fn : List He.DefD) (ecs : List (String × String)) (bs : List String) (g : Addr → Option Obj) : AlX := obsX fa fn ecs bs (He.frG g (cStatics :: He.asD g n))
def SaysX (fa : List He.Fa) (fn : List He.DefD) (ecs : List (String × String)) (bs : List String) (K : PySem.W.Frag) : Prop := He.SaysD fa fn K ∧ exAll ecs bs K = true
def hookX (n : Nat) (fa : List He.Fa) (fn : List He.DefD) (ecs : List (String × String)) (bs : List String) : PySem.W.Hook where
  α := AlX
  obs := fun s => obsXG n fa fn ecs bs s.heap.get?
  val := fun _ => (He.valD fn, true)
  says := fun _ h => ∃ K : PySem.W.Frag, K.In h ∧ SaysX fa fn ecs bs K
  of := fun _ _ e => ⟨_, He.frG_in, congrArg (fun z : AlX => z.1) e, congrArg (fun z : AlX => z.2) e⟩
  keeps := fun _ _ _ ⟨K, hK, c⟩ k => ⟨K, PySem.W.Frag.In.keeps hK k, c⟩
theorem obsXG_eq {n : Nat} {fa : List He.Fa} {fn : List He.DefD} {ecs : List (String × String)} {bs : List String} {g : Addr → Option Obj} {s : Shared} (h : ∀ a, g a = s.heap.get? a) : obsXG n fa fn ecs bs g = (hookX n fa fn ecs bs).obs s := by
  have e : g = s.heap.get? := funext h
  rw [e] <;> rfl
section
variable {K : PySem.W.Frag} {h : Heap} {mg : MG} {fa : List He.Fa} {fn : List He.DefD} {ecs : List (String × String)} {bs : List String} {x f b : String} {qual : Str} {st : Stmt}
theorem ec_of (X : K.In h) (G : h.Ns mainGlobals mg) (s : He.SaysD fa fn K) (c : exAll ecs bs K = true) (i : Nat) (hi : fn[i]? = some (ddm x "__init__" qual st)) (h1 : He.Fa.glo (Str.ofString x) ∈ fa) (h2 : (x, f) ∈ ecs) : EcF K mg x (Str.ofString f) qual st := by
  obtain ⟨fd, F⟩ := s.def_ i (d := ddm x "__init__" qual st) hi
  unfold exAll at c
  have e := List.all_eq_true.mp (Bool.and_eq_true_iff.mp c).1 (x, f) h2
  unfold exB at e
  obtain ⟨e1, e⟩ := Bool.and_eq_true_iff.mp e
  obtain ⟨e2, e⟩ := Bool.and_eq_true_iff.mp e
  obtain ⟨e3, e⟩ := Bool.and_eq_true_iff.mp e
  obtain ⟨e4, e⟩ := Bool.and_eq_true_iff.mp e
  obtain ⟨e5, e6⟩ := Bool.and_eq_true_iff.mp e
  exact ⟨_, _, fd, He.glo_ok X G (says_fact s h1), oexB_ok e1, xfB_ok e2, He.eqO_ok e3, He.eqO_ok e4, of_decide_eq_true e5, F, of_decide_eq_true e6⟩
theorem bc_of (X : K.In h) (G : h.Ns mainGlobals mg) (s : He.SaysD fa fn K) (c : exAll ecs bs K = true) (h1 : He.Fa.glo (Str.ofString b) ∈ fa) (h2 : b ∈ bs) : BaseF K mg b := by
  unfold exAll at c
  exact ⟨_, He.glo_ok X G (says_fact s h1), baseB_ok (List.all_eq_true.mp (Bool.and_eq_true_iff.mp c).2 b h2)⟩
end
end DL
end

section
namespace DL
open PySem PySem.Spec L2
open PyProof.Rows hiding St
/-! ### the head's facts, with any check beside -/
def obsY (fa : List He.Fa) (fn : List He.DefD) (chk : PySem.W.Frag → Bool) (K : PySem.W.Frag) : AlX := (He.obsD fa fn K, chk K)
def obsYG (n : Nat) (fa : List He.Fa) (fn : List He.DefD) (chk : PySem.W.Frag → Bool) (g : Addr → Option Obj) : AlX := obsY fa fn chk (He.frG g (cStatics :: He.asD g n))
def SaysY (fa : List He.Fa) (fn : List He.DefD) (chk : PySem.W.Frag → Bool) (K : PySem.W.Frag) : Prop := He.SaysD fa fn K ∧ chk K = true
def hookY (n : Nat) (fa : List He.Fa) (fn : List He.DefD) (chk : PySem.W.Frag → Bool) : PySem.W.Hook where
  α := AlX
  obs := fun s => obsYG n fa fn chk s.heap.get?
  val := fun _ => (He.valD fn, true)
  says := fun _ h => ∃ K : PySem.W.Frag, K.In h ∧ SaysY fa fn chk K
  of := fun _ _ e => ⟨_, He.frG_in, congrArg (fun z : AlX => z.1) e, congrArg (fun z : AlX => z.2) e⟩
  keeps := fun _ _ _ ⟨K, hK, c⟩ k => ⟨K, PySem.W.Frag.In.keeps hK k, c⟩
theorem obsYG_eq {n : Nat} {fa : List He.Fa} {fn : List He.DefD} {chk : PySem.W.Frag → Bool} {g : Addr → Option Obj} {s : Shared} (h : ∀ a, g a = s.heap.get? a) : obsYG n fa fn chk g = (hookY n fa fn chk).obs s := by
  have e : g = s.heap.get? := funext h
  rw [e] <;> rfl
def isaB (K : PySem.W.Frag) (c : String) : Bool :=
  He.eqO (PySem.W.findIn K (.ref (He.ga K (Str.ofString c))) "__class__") (some (some (.builtin "object.__class__"))) &&
    (He.eqO (PySem.W.specialIn K (.builtin "object.__class__") "__get__") (some (some (.builtin "getset_descriptor.__get__"))) &&
      (decide (PySem.W.takesIn K (.builtin "object.__class__") = some true) && (decide (PySem.W.mroIn K (He.ga K (Str.ofString c)) (.type "object") = some true) &&
        (He.eqO (PySem.W.findIn K (.ref (He.ga K (Str.ofString c))) "__ne__") (some (some (.builtin "object.__ne__"))) && ["NoneType", "bool", "int", "str", "tuple", "list", "dict"].all fun T => decide (PySem.W.kitOne K (.type T) (.ref (He.ga K (Str.ofString c))) = some false)))))
/-- of two classes of errors: whether the one's clause takes the other -/
def exmB (K : PySem.W.Frag) (x : String × String × Bool) : Bool := decide (PySem.W.exmOne K (.ref (He.ga K (Str.ofString x.1))) (.ref (He.ga K (Str.ofString x.2.1))) = some x.2.2)
def chkB (ecs : List (String × String)) (bs is : List String) (xs : List (String × String × Bool)) (K : PySem.W.Frag) : Bool := exAll ecs bs K && (is.all (isaB K) && xs.all (exmB K))
def ExmF (K : PySem.W.Frag) (mg : MG) (x y : String) (b : Bool) : Prop := ∃ C D, mg (Str.ofString x) = some (.ref C) ∧ mg (Str.ofString y) = some (.ref D) ∧ PySem.W.exmOne K (.ref C) (.ref D) = some b
section
variable {K : PySem.W.Frag} {h : Heap} {mg : MG} {fa : List He.Fa} {fn : List He.DefD} {ecs : List (String × String)} {bs is : List String} {xs : List (String × String × Bool)} {x y c : String} {b : Bool}
theorem chk_ex (s : chkB ecs bs is xs K = true) : exAll ecs bs K = true := (Bool.and_eq_true_iff.mp s).1
theorem isa_of (X : K.In h) (G : h.Ns mainGlobals mg) (s : He.SaysD fa fn K) (k : chkB ecs bs is xs K = true) (h1 : He.Fa.glo (Str.ofString c) ∈ fa) (h2 : He.Fa.cls (Str.ofString c) ∈ fa) (h3 : c ∈ is) : IsaF K mg c := by
  have e := List.all_eq_true.mp (Bool.and_eq_true_iff.mp (Bool.and_eq_true_iff.mp k).2).1 c h3
  unfold isaB at e
  obtain ⟨e1, e⟩ := Bool.and_eq_true_iff.mp e
  obtain ⟨e2, e⟩ := Bool.and_eq_true_iff.mp e
  obtain ⟨e3, e⟩ := Bool.and_eq_true_iff.mp e
  obtain ⟨e4, e⟩ := Bool.and_eq_true_iff.mp e
  obtain ⟨e6, e5⟩ := Bool.and_eq_true_iff.mp e
  exact ⟨_, He.glo_ok X G (says_fact s h1), He.cls_ok (says_fact s h2), He.eqO_ok e1, He.eqO_ok e2, of_decide_eq_true e3, of_decide_eq_true e4, He.eqO_ok e6, fun T hT => of_decide_eq_true (List.all_eq_true.mp e5 T hT)⟩
theorem exm_fact (X : K.In h) (G : h.Ns mainGlobals mg) (s : He.SaysD fa fn K) (k : chkB ecs bs is xs K = true) (h1 : He.Fa.glo (Str.ofString x) ∈ fa) (h2 : He.Fa.glo (Str.ofString y) ∈ fa) (h3 : (x, y, b) ∈ xs) : ExmF K mg x y b := by
  have e := List.all_eq_true.mp (Bool.and_eq_true_iff.mp (Bool.and_eq_true_iff.mp k).2).2 _ h3
  exact ⟨_, _, He.glo_ok X G (says_fact s h1), He.glo_ok X G (says_fact s h2), of_decide_eq_true e⟩
end
end DL
end

section
namespace DL
open PySem PySem.Spec L2
open PyProof.Rows hiding St
/-! ### try: body, except C1 as e: return .., except C2 as e: return .. -/
abbrev Ms := List (String × D) → M Fl
/-- the clause that takes the error: xt tells which classes are apart -/
def pick (xt : List (String × String)) (c' : String) : List (String × Ms) → Option Ms
  | [] => none
  | z :: r => if c' = z.1 then some z.2 else if (c', z.1) ∈ xt then pick xt c' r else none
def sTryM (xt : List (String × String)) (hs : List (String × Ms)) (mb : M Fl) : M Fl := fun e => match mb e with
  | .ok fl e' => .ok fl e'
  | .ex c' fs e' => match pick xt c' hs with
    | some ms => ms fs e'
    | none => .no
  | .no => .no
structure HdOk (I : CI) (W : WX) (h : ExceptHandler) (c : String) (ms : Ms) (C : Addr) (i : Nat) (ts : Addr → Value → Option Addr → TS) : Prop where
  sh : ∃ n b₀ suite p1 p2, h = .ExceptHandler (some (.Name (Str.ofString c) p1)) (some n) (b₀ :: suite) p2 ∧ I.N[i]? = some n ∧ I.sc.names.lookup n = some .local ∧ (glB I.sc (Str.ofString c) && nodbg (Str.ofString c)) = true ∧
    ∀ (X : Cx) (a : Addr) (oe : Obj) (cls : Value) (d : Option Addr) (pn : List (Addr × Obj)), X.N = I.N → X.env.scope = I.sc → X.K = I.K → Zc cls d oe → (∃ vs, oe.data = .fields vs) → PSs (X.suite a ((a, oe) :: pn)) (b₀ :: suite) (ts a cls d)
  hC : I.mg (Str.ofString c) = some (.ref C)
  hx : PySem.W.exmOne I.K (.ref C) (.ref C) = some true
  sim : ∀ (p : Pm) G σ H e fs a dd (E E' : Ends), E'.rt = E.rt → Srp I.K I.mg p G σ H e → Xr I.K I.mg G H dd fs → H a = none → Ws I.K I.mg W p G (ms fs e) E → ts a (.ref C) (some dd) E' (σ.set i (some (.ref a))) H
inductive HsOk (I : CI) (W : WX) : List ExceptHandler → List (String × Ms) → List Cl → Prop
  | nil : HsOk I W [] [] []
  | cons {h : ExceptHandler} {c : String} {ms : Ms} {C : Addr} {i : Nat} {ts : Addr → Value → Option Addr → TS} {hr : List ExceptHandler} {r : List (String × Ms)} {l : List Cl} (z : HdOk I W h c ms C i ts) (t : HsOk I W hr r l) : HsOk I W (h :: hr) ((c, ms) :: r) ((.ref C, i, ts) :: l)
def DHs (I : CI) (W : WX) (hr : List ExceptHandler) (hs : List (String × Ms)) : Prop := ∃ l, HsOk I W hr hs l
def DHd (I : CI) (W : WX) (h : ExceptHandler) (c : String) (ms : Ms) : Prop := ∃ C i ts, HdOk I W h c ms C i ts
section
variable {I : CI} {W : WX} {i : Nat} {pos p0 np pos' lp rp : Pos} {n : Str} {e : Expr} {es : List Expr} {it : D ⊕ String} {its : List (D ⊕ String)} {c : String}
theorem dhs_nil : DHs I W [] [] := ⟨_, .nil⟩
theorem dhs_cons {h : ExceptHandler} {ms : Ms} {hr : List ExceptHandler} {hs : List (String × Ms)} (z : DHd I W h c ms) (t : DHs I W hr hs) : DHs I W (h :: hr) ((c, ms) :: hs) := let ⟨_, _, _, z⟩ := z; let ⟨_, t⟩ := t; ⟨_, .cons z t⟩
theorem clsOk {X : Cx} {hr : List ExceptHandler} {hs : List (String × Ms)} {l : List Cl} (ok : Okx I W X) (z : HsOk I W hr hs l) : ClsOk X hr l := by
  induction z with
  | nil => exact .nil
  | cons z _ ih =>
    obtain ⟨⟨n, b₀, suite, p1, p2, rfl, h2, h3, h4, h5⟩, hC, _, _⟩ := z
    simp only [Bool.and_eq_true] at h4
    exact .cons (by rw [ok.hN]; exact h2) (kind_of ok.hsc h3) ⟨gl_of ok.hsc (isG_ok h4.1), by have := h4.2; unfold nodbg at this; simpa using this, .inl (by rw [ok.hmg]; exact hC)⟩ (fun a oe cls d pn hz hf => h5 X a oe cls d pn ok.hN ok.hsc ok.hK hz hf) ih
theorem cls_sim {xt : List (String × String)} (hx : ∀ x ∈ xt, ExmF I.K I.mg x.1 x.2 false) {hr : List ExceptHandler} {hs : List (String × Ms)} {l : List Cl} (z : HsOk I W hr hs l) {c' : String} {ms : Ms} (hp : pick xt c' hs = some ms)
    {p : Pm} {G σ H e} {fs : List (String × D)} {C' dd : Addr} {E : Ends} (hC' : I.mg (Str.ofString c') = some (.ref C')) (S : Srp I.K I.mg p G σ H e) (X : Xr I.K I.mg G H dd fs) (w : Ws I.K I.mg W p G (ms fs e) E) : wCls I.K W E l (.ref C') (some dd) σ H := by
  induction z with
  | nil => cases hp
  | @cons h c ms0 C i ts hr r l z _ ih =>
    unfold pick at hp
    dsimp only at hp
    by_cases q : c' = c
    · rw [if_pos q] at hp
      cases hp
      subst q
      obtain ⟨_, hC, hxx, sim⟩ := z
      rw [hC] at hC'
      cases hC'
      exact ⟨true, hxx, fun _ a na => sim p G σ H e fs a dd E _ rfl S X na w, fun z => nomatch z⟩
    · rw [if_neg q] at hp
      by_cases q2 : (c', c) ∈ xt
      · rw [if_pos q2] at hp
        obtain ⟨C1, D1, g1, g2, g3⟩ := hx _ q2
        dsimp only at g1 g2
        rw [hC'] at g1; cases g1
        rw [z.hC] at g2; cases g2
        exact ⟨false, g3, fun z => (nomatch z), fun _ => ih hp⟩
      · rw [if_neg q2] at hp; cases hp
theorem dsf_tryM {xt : List (String × String)} {hs : List (String × Ms)} {mb : M Fl} {body : List Stmt} {h₀ : ExceptHandler} {hr : List ExceptHandler} (hx : ∀ x ∈ xt, ExmF I.K I.mg x.1 x.2 false) (hb : ∀ W', DSs I W' body mb) (hh : DHs I W (h₀ :: hr) hs) :
    DSf I W (.Try body (h₀ :: hr) [] [] pos) (sTryM xt hs mb) := by
  obtain ⟨l, z⟩ := hh
  refine ⟨fun D σ H => (Classical.choose (hb (wCls I.K W D l))) D σ H, fun X ok fx => ?_, fun p G σ H e E S w => ?_⟩
  · have := ps_try_cls (X := X) (tb := fun W' => Classical.choose (hb W')) (Wo := W) (pos := pos) (body := body) (l := l) fx.hs fx.hf (by rw [ok.hN]; exact ok.nd) ok.takes
      (fun W' pn xe tk pa => (Classical.choose_spec (hb W')).1 (X.tr pn xe) ⟨ok.hP, ok.hw, ok.hK, ok.hmg, ok.hbase, ok.hN, ok.hsc, ok.hfn, ok.nd, ok.calm, ok.room, tk, pa⟩) (clsOk ok z)
    rw [ok.hK] at this
    exact this
  · refine (Classical.choose_spec (hb (wCls I.K W E l))).2 p G σ H e E S ?_
    unfold sTryM at w
    cases q : mb e with
    | no => rw [q] at w; exact w.elim
    | ok fl e' => rw [q] at w; exact w
    | ex c' fs e' =>
      rw [q] at w
      dsimp only at w
      cases q2 : pick xt c' hs with
      | none => rw [q2] at w; exact w.elim
      | some ms =>
        rw [q2] at w
        intro G' σ' H' C' d s S' hC' X'
        exact cls_sim hx z q2 hC' S' X' (Ws.up w s)
/-- except C as n: return [..] -/
theorem dhd_L (hE : ∃ C, I.mg (Str.ofString c) = some (.ref C) ∧ PySem.W.exmOne I.K (.ref C) (.ref C) = some true ∧ DXs I C i es its) (hi : I.N[i]? = some n) (hk : I.sc.names.lookup n = some .local) (hg : (glB I.sc (Str.ofString c) && nodbg (Str.ofString c)) = true) :
    DHd I W (.ExceptHandler (some (.Name (Str.ofString c) np)) (some n) [.Return (some (.List es lp)) rp] pos') c (sSuL its i) := by
  obtain ⟨C, hC, hx, ta, t1, t2⟩ := hE
  refine ⟨C, i, fun a cls d => tRet (tLst (ta a cls d)), ⟨n, _, [], np, pos', rfl, hi, hk, hg, fun X a oe cls d pn g1 g2 g3 hz hf => pss_one (ps_ret (pe_lst (t1 X a oe cls d pn g1 g2 g3 hz hf)))⟩, hC, hx, fun p G σ H e fs a dd E E' hrt S hX na w => ?_⟩
  unfold sSuL at w
  cases q : itemsD fs its with
  | none => rw [q] at w; exact w.elim
  | some ds =>
    rw [q] at w
    dsimp only at w
    split at w
    case isFalse => exact w.elim
    rename_i hlim
    have hlen : i < σ.length := by rw [S.len]; exact hlim.2
    show tLst (ta a (.ref C) (some dd)) (σ.set i (some (.ref a))) H E'.rt
    refine t2 G _ H a dd fs ds _ (by rw [List.getElem?_set_self hlen]) hX q fun vs rv => ?_
    have ll := lim_line
    refine ⟨by rw [rv.1]; omega, fun q0 nq => ?_⟩
    rw [hrt]
    obtain ⟨S4, gn, h0, hF, ap⟩ := (S.wipe1 i).laidOw (o := .lst vs) nq
    exact w G _ _ (Same.refl _) S4 q0 gn ⟨vs, upd_same, rv⟩ h0 hF ap
/-- .. return (..) -/
theorem dhd_T {kk} (hE : ∃ C, I.mg (Str.ofString c) = some (.ref C) ∧ PySem.W.exmOne I.K (.ref C) (.ref C) = some true ∧ DXs I C i es its) (hi : I.N[i]? = some n) (hk : I.sc.names.lookup n = some .local) (hg : (glB I.sc (Str.ofString c) && nodbg (Str.ofString c)) = true) :
    DHd I W (.ExceptHandler (some (.Name (Str.ofString c) np)) (some n) [.Return (some (.Tuple es kk lp)) rp] pos') c (sSuT its i) := by
  obtain ⟨C, hC, hx, ta, t1, t2⟩ := hE
  refine ⟨C, i, fun a cls d => tRet (tTup (ta a cls d)), ⟨n, _, [], np, pos', rfl, hi, hk, hg, fun X a oe cls d pn g1 g2 g3 hz hf => pss_one (ps_ret (pe_tup (t1 X a oe cls d pn g1 g2 g3 hz hf)))⟩, hC, hx, fun p G σ H e fs a dd E E' hrt S hX na w => ?_⟩
  unfold sSuT at w
  cases q : itemsD fs its with
  | none => rw [q] at w; exact w.elim
  | some ds =>
    rw [q] at w
    dsimp only at w
    split at w
    case isFalse => exact w.elim
    rename_i hlim
    have hlen : i < σ.length := by rw [S.len]; exact hlim.2
    show tTup (ta a (.ref C) (some dd)) (σ.set i (some (.ref a))) H E'.rt
    refine t2 G _ H a dd fs ds _ (by rw [List.getElem?_set_self hlen]) hX q fun vs rv => ?_
    have ll := lim_line
    refine ⟨by rw [rv.1]; omega, fun q0 nq => ?_⟩
    rw [hrt]
    obtain ⟨s4, S4⟩ := (S.wipe1 i).laid (o := .tup vs) nq
    exact w _ _ _ s4 S4 _ (.mk_tup (.of upd_same) (Reps.mono s4 rv))
end
end DL
end

section
namespace DL
open PySem PySem.Spec L2
open PyProof.Rows hiding St
/-! ### range with a step -/
def rngC (lo c : Int) (n : Nat) : List D := (List.range n).map fun i : Nat => .int (lo + (i : Nat) * c)
def rgcB (i j c : Int) : Bool := decide (c ≠ 0) && (decide (c.natAbs < 1073741824) && (Builtin.Range.small i j c && decide (0 ≤ Builtin.Range.rangeSize i j c)))
def iRng3M (m : M (List Ar)) : M (List D) := M.bnd (aVals m) fun ds => match ds with
  | [.int i, .int j, .int c] => if rgcB i j c then M.ret (rngC i c (Builtin.Range.rangeSize i j c).toNat) else fun _ => .no
  | _ => fun _ => .no
theorem rgcB_ok {i j c : Int} (h : rgcB i j c = true) : RgC i j c (Builtin.Range.rangeSize i j c).toNat := by
  unfold rgcB at h
  simp only [Bool.and_eq_true, decide_eq_true_eq] at h
  exact ⟨h.1, h.2.1, h.2.2.1, (Int.toNat_of_nonneg h.2.2.2).symm⟩
theorem iter_rngC {K : PySem.W.Frag} {mg : MG} {G : Hp} {lo c : Int} {k : Nat} : IterOk K mg (Itc lo c k) G (rngC lo c k) := by
  intro p G' σ H e s S i
  refine ⟨fun ei => ?_, fun d hd => ?_⟩
  · show k ≤ i
    rw [ei]; simp [rngC]
  · unfold rngC at hd
    rw [List.getElem?_map] at hd
    cases z : (List.range k)[i]? with
    | none => rw [z] at hd; cases hd
    | some j =>
      rw [z] at hd
      obtain ⟨hj, ej⟩ := List.getElem?_eq_some_iff.mp z
      simp at hj ej
      subst ej
      have : d = .int (lo + (i : Nat) * c) := (Option.some.inj hd).symm
      subst this
      refine ⟨hj, fun x H2 y => ?_⟩
      obtain ⟨rfl, rfl⟩ := y
      exact ⟨G', Same.refl _, S, .int _, fun _ _ h => h⟩
section
variable {I : CI} {W : WX} {a b c tg : Expr} {pos p0 : Pos}
theorem di_rng3 {m : M (List Ar)} (g : I.sc.names.lookup ("range" : Str) = some .globalImplicit) (hm : I.mg ("range" : Str) = none) (h : DP I W [a, b, c] m) : DI I W tg (.Call (.Name "range" p0) [a, b, c] [] pos) (iRng3M m) := by
  obtain ⟨n, t, h1, h2⟩ := h
  have n2 : nst a = true ∧ nst b = true ∧ nst c = true := by simpa using n
  refine ⟨iRng3 t, fun X ok => pi_range3 (gl_of ok.hsc g) (by rw [ok.hmg]; exact hm) (h1 X ok) (star_of n2.1 _ _) (by rw [no_back]; exact no_star (by simp [n2.2]) _), fun p G σ H e R S w => ?_⟩
  refine simA_of h2 p G σ H e _ S (Wp.mono (Wp.bnd w) fun ds G1 H1 e1 s1 S1 w1 vs r => ?_)
  match ds, w1, r with
  | [.int i, .int j, .int k], w1, r =>
    obtain ⟨v, vr, rfl, rv, t⟩ := r.uncons
    obtain ⟨v', v'', rfl, rv', rv''⟩ := reps2 t
    have := rep_int rv; subst this
    have := rep_int rv'; subst this
    have := rep_int rv''; subst this
    dsimp only at w1
    split at w1
    · rename_i z
      exact ⟨i, j, k, _, rfl, rgcB_ok z, w1 G1 H1 (Same.refl _) S1 _ iter_rngC⟩
    · exact w1.elim
theorem c_rng3 {mp : M (List Ar)} (B : Bs I.mg) (g : glB I.sc "range" = true) (h : DP I W [a, b, c] mp) : DI I W tg (.Call (.Name "range" p0) [a, b, c] [] pos) (iRng3M mp) := di_rng3 (isG_ok g) (B _ (by simp [bnames])) h
end
end DL
end

section
namespace DL
open PySem PySem.Spec L2
open PyProof.Rows hiding St
section
variable {I : CI} {W : WX} {a b : Expr} {es : List Expr} {pos p0 p1 : Pos} {c : String}
theorem c_isaB {m : M D} (F : IsaF I.K I.mg c) (B : Bs I.mg) (g : glB I.sc "isinstance" = true) (g2 : (glB I.sc (Str.ofString c) && nodbg (Str.ofString c)) = true) (ha : DE I W a m) (n : nst a = true) :
    DR I W (.Call (.Name "isinstance" p0) [a, .Name (Str.ofString c) p1] [] pos) (rOne m (isaD c)) := c_isa F (isG_ok g) (B _ (by simp [bnames])) g2 ha n
theorem exms_nil {K : PySem.W.Frag} {mg : MG} : ∀ x ∈ ([] : List (String × String)), ExmF K mg x.1 x.2 false := fun x h => by cases h
theorem exms_cons {K : PySem.W.Frag} {mg : MG} {x y : String} {l : List (String × String)} (h : ExmF K mg x y false) (t : ∀ z ∈ l, ExmF K mg z.1 z.2 false) : ∀ z ∈ (x, y) :: l, ExmF K mg z.1 z.2 false := fun z hz => by
  rcases List.mem_cons.mp hz with rfl | hz
  · exact h
  · exact t z hz
theorem dr_lstQ {m : M (List Ar)} (h : DQ I W es m) : DR I W (.List es pos) (rLst m) := by
  obtain ⟨t, h1, h2⟩ := h
  refine ⟨_, fun X ok => pe_lst (h1 X ok), fun p G σ H e Q S w => ?_⟩
  refine simA_of h2 p G σ H e _ S (Wp.mono (Wp.bnd w) fun ds G1 H1 e1 s1 S1 w1 vs r => ?_)
  have ll := lim_line
  split at w1
  · refine ⟨by rw [r.1]; omega, fun q n => ?_⟩
    obtain ⟨S2, gn, h0, hF, ap⟩ := S1.laidOw (o := .lst vs) n
    exact w1 G1 _ (Same.refl _) S2 q gn ⟨vs, upd_same, r⟩ h0 hF ap
  · exact w1.elim
/-! ### xs.index(i), ints -/
theorem asInts_ok : ∀ {l : List D} {ns : List Int}, asInts l = some ns → l = ns.map .int
  | [], ns, h => by cases h; rfl
  | d :: l, ns, h => by
    cases d <;> first | cases h | skip
    rename_i i
    have h' : (asInts l).map (i :: ·) = some ns := h
    cases q : asInts l with
    | none => rw [q] at h'; cases h'
    | some m => rw [q] at h'; cases h'; rw [asInts_ok q]; rfl
theorem reps_intsX {K : PySem.W.Frag} {mg : MG} {G : Hp} {vs : List V} {ns : List Int} (r : Reps K mg G vs (ns.map .int)) : vs = ns.map V.int := by
  refine List.ext_getElem? fun i => ?_
  by_cases hi : i < ns.length
  · obtain ⟨v, h1, h2⟩ := r.get (i := i) (d := .int ns[i]) (by rw [List.getElem?_map, List.getElem?_eq_getElem hi]; rfl)
    have := rep_int h2; subst this
    rw [h1, List.getElem?_map, List.getElem?_eq_getElem hi]; rfl
  · rw [List.getElem?_eq_none (by rw [r.1]; simpa using hi), List.getElem?_eq_none (by simpa using hi)]
theorem upd_selfL {H : Hp} {a : Addr} {o : HO} (h : H a = some o) : upd H a o = H := by
  funext b
  by_cases e : b = a
  · rw [e, upd_same, h]
  · rw [upd_ne e]
/-- x.m(..), x a name with a list that is only read -/
def OrL (I : CI) (W : WX) (id : String) (f : List D → List D → Option D) : Prop :=
  ∃ r : V → List V → Hp → VK → Prop, (∀ X, Okx I W X → MtR X id r) ∧ ∀ (G H : Hp) (q : Addr) (vs xs : List V) (l ds : List D) (d : D) (Q : VK), SqL I.K H q vs → Reps I.K I.mg G vs l → Reps I.K I.mg G xs ds → f l ds = some d →
    (∀ v, Rep I.K I.mg G v d → Q v H) → r (.ref q) xs H Q
def lstIn (e : En) (i : Nat) : Option (List D) := match e[i]?.bind Sl.look with
  | some (.lst l) => some l
  | _ => none
def eRdL (i : Nat) (f : List D → List D → Option D) (m : M (List Ar)) : M D := fun e => match lstIn e i with
  | some _ => (M.bnd (aVals m) fun ds => fun e1 => match (lstIn e1 i).bind fun l => f l ds with
    | some d => .ok d e1
    | none => .no) e
  | none => .no
theorem lstIn_at {p : Pm} {G H : Hp} {σ : L2.St} {e : En} (S : Srp I.K I.mg p G σ H e) {i : Nat} {l : List D} (h : lstIn e i = some l) : ∃ q vs, σ[i]? = some (some (V.ref q)) ∧ SqL I.K H q vs ∧ Reps I.K I.mg G vs l := by
  unfold lstIn at h
  cases q : e[i]? with
  | none => rw [q] at h; cases h
  | some s =>
    rw [q] at h
    cases s with
    | no => cases h
    | sh d =>
      cases d <;> cases h
      obtain ⟨v, h1, h2⟩ := S.sh i _ q
      obtain ⟨a, vs, rfl, h3, h4⟩ := h2.ref_lst
      exact ⟨a, vs, h1, LsT.sq (Same.ls S.sub h3), h4⟩
    | ow x =>
      cases x <;> cases h
      obtain ⟨b, h1, _, vs, h3, h4⟩ := S.ow i _ _ q rfl
      exact ⟨b, vs, h1, .inl (.inl h3), h4⟩
    | io x =>
      cases x <;> cases h
      obtain ⟨b, h1, _, vs, h3, h4⟩ := S.ow i _ _ q rfl
      exact ⟨b, vs, h1, .inl (.inl h3), h4⟩
theorem de_rdL {id : String} {x name : Str} {apos : Pos} {f : List D → List D → Option D} {i : Nat} {m : M (List Ar)} (F : OrL I W id f) (slot : Slot "list" name id) (hty : typeOf (.builtin id) = pure (.type "method_descriptor")) (hx : VarOk I.N I.sc i x) (ha : DP I W (a :: es) m)
    (hb : ∀ env : Env, attributeBase (.Name x p0) name env (eval (.Name x p0) env) = eval (.Name x p0) env)
    (hfew : ∀ env : Env, ((backTo pos (starEach (a :: es) env)).all (fun x => !x.1) && (backToKw pos (keywordEach [] env)).all (fun x => x.1.isSome) && decide ((a :: es).length + ([] : List Keyword).length + (if ([] : List Keyword).isEmpty then 0 else 1) < 30)) = true)
    (hl : (apos.endLine == pos.line) = true) : DE I W (.Call (.Attribute (.Name x p0) name apos) (a :: es) [] pos) (eRdL i f m) := by
  obtain ⟨r, f1, f2⟩ := F
  obtain ⟨n, t, h1, h2⟩ := ha
  have n2 : nst a = true ∧ es.all nst = true := by simpa using n
  refine ⟨tBM I.K "list" r (tVar i) t, fun X ok => (by
    have := pe_bm (cpos := pos) (apos := apos) PySem.F.plainAttrs_list slot hty (f1 X ok) (pe_slot (p0 := p0) hx X ok) (h1 X ok) (hb X.env) (hfew X.env) hl (star_of n2.1 _ _) (by rw [no_back]; exact no_star n2.2 _)
    rw [ok.hK] at this
    exact this), fun p G σ H e Q S w => ?_⟩
  unfold eRdL at w
  cases q0 : lstIn e i with
  | none => rw [q0] at w; exact w.elim
  | some l0 =>
    rw [q0] at w
    dsimp only at w
    obtain ⟨q, vs0, hσ, hs, _⟩ := lstIn_at S q0
    refine ⟨_, hσ, .inl ⟨rfl, vs0, hs⟩, simA_of h2 p G σ H e _ S (Wp.mono (Wp.bnd w) fun ds G1 H1 e1 s1 S1 w1 xs rs => ?_)⟩
    cases q1 : lstIn e1 i with
    | none => rw [q1] at w1; exact w1.elim
    | some l =>
      rw [q1] at w1
      dsimp only [Option.bind] at w1
      cases q2 : f l ds with
      | none => rw [q2] at w1; exact w1.elim
      | some d =>
        rw [q2] at w1
        obtain ⟨q', vs, hσ', hs', r'⟩ := lstIn_at S1 q1
        rw [hσ] at hσ'; cases hσ'
        exact f2 G1 H1 q vs xs l ds d Q hs' r' rs q2 fun v rv => w1 G1 H1 (Same.refl _) S1 v rv
def lIndex (l ds : List D) : Option D := match ds with
  | [.int y] => (asInts l).bind fun ns => (ns.findIdx? fun z => z == y).map fun j => .int (j : Nat)
  | _ => none
theorem or_index : OrL I W "list.index" lIndex := by
  refine ⟨rIndex I.K, fun X ok => by have := mt_index (X := X); rw [ok.hK] at this; exact this, fun G H q vs xs l ds d Q hs r rs hf k => ?_⟩
  match ds, rs, hf with
  | [.int y], rs, hf =>
    obtain ⟨v, rfl, rv⟩ := reps1 rs
    have := rep_int rv; subst this
    unfold lIndex at hf
    dsimp only at hf
    cases qa : asInts l with
    | none => rw [qa] at hf; cases hf
    | some ns =>
      rw [qa] at hf
      dsimp only [Option.bind] at hf
      cases qf : ns.findIdx? (fun z => z == y) with
      | none => rw [qf] at hf; cases hf
      | some j =>
        rw [qf] at hf
        cases hf
        have el := asInts_ok qa
        subst el
        have ev := reps_intsX r
        obtain ⟨hj, h1, h2⟩ := List.findIdx?_eq_some_iff_getElem.mp qf
        refine ⟨q, vs, .int y, j, .int ns[j], rfl, rfl, hs, rfl, ?_, ?_, ?_, fun m z' hm hz => ?_, k _ (.int (j : Nat))⟩
        · rw [ev]; exact List.all_eq_true.mpr fun x hx => by obtain ⟨i, _, rfl⟩ := List.mem_map.mp hx; rfl
        · rw [ev, List.getElem?_map, List.getElem?_eq_getElem hj]; rfl
        · show (ns[j] == y) = true; exact h1
        · rw [ev, List.getElem?_map, List.getElem?_eq_getElem (by omega)] at hz
          cases hz
          show (ns[m] == y) = false
          have := h2 m hm
          simpa using this
theorem sl_index : Slot "list" "index" "list.index" := PySem.F.slot_list_index
end
end DL
end

section
namespace DL
open PySem PySem.Spec L2
open PyProof.Rows hiding St
/-! ### an own list lent to a test -/
open Classical in
noncomputable def lendT (i : Nat) (m : M Bool) : M Bool := fun e => match e[i]? with
  | some (.ow (.l l)) => match m (hid i (.l l) e) with
    | .ok d e' => if e' = hid i (.l l) e then .ok d e else .no
    | _ => .no
  | _ => m e
open Classical in
theorem simT_lend {I : CI} {W : WX} {t : TT} {m : M Bool} (h : SimT I W t m) (i : Nat) : SimT I W t (lendT i m) := by
  intro p G σ H e Q S w
  unfold lendT at w
  cases q : e[i]? with
  | none => rw [q] at w; exact h p G σ H e Q S w
  | some s =>
    rw [q] at w
    cases s with
    | no => exact h p G σ H e Q S w
    | sh d => exact h p G σ H e Q S w
    | io x => exact h p G σ H e Q S w
    | ow x =>
      cases x with
      | o c fs => exact h p G σ H e Q S w
      | l l =>
        obtain ⟨a, ha, ga, vs, hvs, rvs⟩ := S.ow i _ _ q rfl
        have h0a := S.of i _ a q ha
        have hFa := S.ka i _ _ a q rfl ha
        have sG : Same G (upd G a (.lst vs)) := fun b u z => by
          rw [upd_ne (fun y => by rw [y, ga] at z; cases z)]; exact z
        let OC : Addr → Prop := fun b => ∃ j s x c, e[j]? = some s ∧ s.own = some x ∧ σ[j]? = some (some (.ref c)) ∧ j ≠ i ∧ (b = c ∨ ∃ C ws, H c = some (.ins C b ws))
        have oc : ∀ b, OC b → b ≠ a ∧ G b = none ∧ ∃ o, H b = some o := by
          rintro b ⟨j, s, x, c, q1, q2, q3, ne, hb⟩
          obtain ⟨c', k1, k2, k3⟩ := S.ow j s x q1 q2
          rw [q3] at k1; cases k1
          have ca : c ≠ a := fun z => ne (S.ap j i s _ x _ c q1 q q2 rfl q3 (by rw [z]; exact ha))
          rcases hb with rfl | ⟨C, ws, hb⟩
          · obtain ⟨o, ho, _⟩ := k3.at
            exact ⟨ca, k2, o, ho⟩
          · cases x with
            | l l' => obtain ⟨us, hus, _⟩ := k3; rw [hus] at hb; cases hb
            | o cn fs =>
              obtain ⟨C', dx, ws', hc, hdx, gdx, _⟩ := k3
              rw [hc] at hb; cases hb
              exact ⟨fun z => by (rw [z, hvs] at hdx; cases hdx), gdx, _, hdx⟩
        let F' : Hp := fun b => if OC b then H b else p.F b
        have F1 : ∀ b, OC b → F' b = H b := fun b z => by show (if _ then _ else _) = _; rw [if_pos z]
        have F2 : ∀ b, ¬ OC b → F' b = p.F b := fun b z => by show (if _ then _ else _) = _; rw [if_neg z]
        let p' : Pm := { p with F := F' }
        have S1 : Srp I.K I.mg p' (upd G a (.lst vs)) σ H (hid i (.l l) e) := by
          refine ⟨?_, by rw [S.len]; simp [hid], ?_, ?_, ?_, ?_, S.fr, ?_, ?_, S.dm, ?_, ?_⟩
          · intro b u z
            by_cases hb : b = a
            · subst hb; rw [upd_same] at z; cases z; exact hvs
            · rw [upd_ne hb] at z; exact S.sub _ _ z
          · intro j d z
            rcases hid_get z with ⟨rfl, e1⟩ | ⟨_, e1 | ⟨d', e1, e2⟩⟩
            · cases e1
              exact ⟨_, ha, .mk_lst (.inl (.inl upd_same)) (rvs.mono sG)⟩
            · cases e1
            · cases e1
              obtain ⟨v, k1, k2⟩ := S.sh j d e2
              exact ⟨v, k1, k2.mono sG⟩
          · intro j s x z1 z2; exact (hid_own z1 z2).elim
          · intro j x z; exact (hid_own z rfl).elim
          · intro j k s t x y b z1 z2 z3 z4 _ _; exact (hid_own z1 z3).elim
          · intro b u z
            by_cases hb : b = a
            · subst hb; exact .inr h0a
            · rw [upd_ne hb] at z; exact S.nw _ _ z
          · intro j x b z _; exact (hid_own z rfl).elim
          · intro b u z
            by_cases hb : OC b
            · obtain ⟨n1, n2, _⟩ := oc b hb
              have z' : H b = some u := by rw [← F1 b hb]; exact z
              exact ⟨z', by rw [upd_ne n1]; exact n2⟩
            · have z' : p.F b = some u := by rw [← F2 b hb]; exact z
              obtain ⟨k1, k2⟩ := S.kp b u z'
              exact ⟨k1, by rw [upd_ne (fun y => by rw [y, hFa] at z'; cases z')]; exact k2⟩
          · intro j s x b z1 z2 _; exact (hid_own z1 z2).elim
        refine h p' _ σ H _ Q S1 ?_
        cases r : m (hid i (.l l) e) with
        | no => simp only [r] at w; exact w.elim
        | ex c fs e' => simp only [r] at w; exact w.elim
        | ok d e' =>
          simp only [r] at w
          by_cases hc : e' = hid i (.l l) e
          · rw [if_pos hc] at w
            subst hc
            intro G'' H'' s'' S''
            have gaa : G'' a = some (.lst vs) := s'' _ _ upd_same
            have g3 : ∀ b, b ≠ a → (fun b => if b = a then none else G'' b : Hp) b = G'' b := fun b hb => by show (if _ then _ else _) = _; rw [if_neg hb]
            have g3a : (fun b => if b = a then none else G'' b : Hp) a = none := by show (if _ then _ else _) = _; rw [if_pos rfl]
            obtain ⟨G3, hG3⟩ : ∃ G3 : Hp, G3 = fun b => if b = a then none else G'' b := ⟨_, rfl⟩
            rw [← hG3] at g3 g3a
            have g3s : ∀ b o, G3 b = some o → b ≠ a ∧ G'' b = some o := fun b o z => by
              have hb : b ≠ a := fun y => by rw [y, g3a] at z; cases z
              exact ⟨hb, by rw [← g3 b hb]; exact z⟩
            have g3n : ∀ b, G'' b = none → G3 b = none := fun b z => by
              by_cases hb : b = a
              · rw [hb]; exact g3a
              · rw [g3 b hb]; exact z
            have sG3 : Same G G3 := fun b o z => by
              rw [g3 b (fun y => by rw [y, ga] at z; cases z)]
              exact s'' _ _ (sG _ _ z)
            refine w G3 H'' sG3 ?_
            refine ⟨fun b u z => S''.sub _ _ (g3s b u z).2, S.len, fun j d z => ?_, fun j s x z1 z2 => ?_, S.io, S.ap, S''.fr, fun b u z => S''.nw _ _ (g3s b u z).2, S.of, S''.dm, fun b u z => ?_, S.ka⟩
            · obtain ⟨v, k1, k2⟩ := S.sh j d z
              exact ⟨v, k1, k2.mono sG3⟩
            · by_cases hj : j = i
              · subst hj
                rw [q] at z1; cases z1; cases z2
                exact ⟨a, ha, g3a, vs, S''.sub _ _ gaa, rvs.mono sG3⟩
              · obtain ⟨c, k1, k2, k3⟩ := S.ow j s x z1 z2
                have cell : ∀ b o, H b = some o → (b = c ∨ ∃ C ws, H c = some (.ins C b ws)) → H'' b = some o ∧ G'' b = none := fun b o hb hc => by
                  have : OC b := ⟨j, s, x, c, z1, z2, k1, hj, hc⟩
                  exact S''.kp b o (by show F' b = _; rw [F1 b this]; exact hb)
                cases x with
                | l l' =>
                  obtain ⟨us, hus, rus⟩ := k3
                  obtain ⟨n1, n2⟩ := cell c _ hus (.inl rfl)
                  exact ⟨c, k1, g3n _ n2, us, n1, rus.mono sG3⟩
                | o cn fs =>
                  obtain ⟨C, dx, ws, hc, hdx, gdx, h4, h5, vf, h6, h7⟩ := k3
                  obtain ⟨n1, n2⟩ := cell c _ hc (.inl rfl)
                  obtain ⟨n3, n4⟩ := cell dx _ hdx (.inr ⟨C, ws, hc⟩)
                  exact ⟨c, k1, g3n _ n2, C, dx, ws, n1, n3, g3n _ n4, h4, h5, vf, fun f d y => ⟨(h6 f d y).1, (h6 f d y).2.mono sG3⟩, h7⟩
            · by_cases hb : OC b
              · have hH := (S.kp b u z).1
                obtain ⟨n1, n2⟩ := S''.kp b u (by show F' b = _; rw [F1 b hb]; exact hH)
                exact ⟨n1, g3n _ n2⟩
              · obtain ⟨n1, n2⟩ := S''.kp b u (by show F' b = _; rw [F2 b hb]; exact z)
                exact ⟨n1, g3n _ n2⟩
          · rw [if_neg hc] at w; exact w.elim
theorem dt_lend {I : CI} {W : WX} {a : Expr} {m : M Bool} (h : DT I W a m) (i : Nat) : DT I W a (lendT i m) := let ⟨t, h1, h2⟩ := h; ⟨t, h1, simT_lend h2 i⟩
end DL
end

section
namespace DL
open PySem PySem.Spec L2
open PyProof.Rows hiding St
section
variable {α β : Type} {e : En} {X : XQ} {QD : D → En → Prop} {QR : Ret → En → Prop} {QF : Fl → En → Prop} {QL : List D → En → Prop}
theorem isa_obj {c c' : String} {l : List (String × D)} : isaD c (.obj c' l) = if c' = c then some (.sh (.bl true)) else none := (rfl)
theorem isa_non {c : String} : isaD c .non = some (.sh (.bl false)) := (rfl)
theorem isa_bl {c : String} {k : Bool} : isaD c (.bl k) = some (.sh (.bl false)) := (rfl)
theorem isa_int {c : String} {k : Int} : isaD c (.int k) = some (.sh (.bl false)) := (rfl)
theorem isa_str {c : String} {k : Str} : isaD c (.str k) = some (.sh (.bl false)) := (rfl)
theorem isa_tup {c : String} {k : List D} : isaD c (.tup k) = some (.sh (.bl false)) := (rfl)
theorem isa_lst {c : String} {k : List D} : isaD c (.lst k) = some (.sh (.bl false)) := (rfl)
theorem isa_dct {c : String} {k : List (Key × D)} : isaD c (.dct k) = some (.sh (.bl false)) := (rfl)
theorem wp_sTryM {xt : List (String × String)} {hs : List (String × Ms)} {mb : M Fl} : wp (sTryM xt hs mb e) QF X = wp (mb e) QF (fun c fs e' => Wo (pick xt c hs) fun ms => wp (ms fs e') QF X) := by
  unfold sTryM
  cases mb e with
  | ok fl e' => simp only [wp_ok]
  | no => simp only [wp_no]
  | ex c fs e' =>
    dsimp only
    rw [wp_ex]
    cases pick xt c hs with
    | none => simp only [wp_no, Wo_none]
    | some ms => rfl
theorem pick_nil {xt : List (String × String)} {c : String} : pick xt c [] = none := (rfl)
theorem pick_cons {xt : List (String × String)} {c c' : String} {ms : Ms} {hs : List (String × Ms)} : pick xt c ((c', ms) :: hs) = if c = c' then some ms else if (c, c') ∈ xt then pick xt c hs else none := (rfl)
def noOw : Sl → Sl
  | .ow _ => .no
  | .io _ => .no
  | s => s
theorem noOw_ow {x : Ct} : noOw (.ow x) = .no := (rfl)
theorem noOw_io {x : Ct} : noOw (.io x) = .no := (rfl)
theorem noOw_sh {d : D} : noOw (.sh d) = .sh d := (rfl)
theorem noOw_no : noOw .no = .no := (rfl)
theorem noOw_none {s : Sl} (h : s.own = none) : noOw s = s := by cases s <;> first | rfl | cases h
def hids (e : En) : En := e.map noOw
theorem hids_nil : hids [] = [] := (rfl)
theorem hids_cons {s : Sl} {e : En} : hids (s :: e) = noOw s :: hids e := (rfl)
theorem hid_eq {i : Nat} {x : Ct} {e : En} : hid i x e = (hids e).set i (.sh x.d) := by
  unfold hid hids; congr 1
/-- what an own list lent to a reading comes to -/
def Wlend (s : Sl) (A : Prop) (B : List D → Prop) : Prop := match s with
  | .ow (.l l) => B l
  | _ => A
theorem Pure.nats (l : List Nat) : Pure (.tup (natsD l)) := .tup _ fun d hd => by
  unfold natsD at hd; obtain ⟨n, _, rfl⟩ := List.mem_map.mp hd; exact .int _
open Classical in
theorem wp_lend_l {i : Nat} {m : M D} {l : List D} (h : e[i]? = some (.ow (.l l))) (h1 : wp (m ((hids e).set i (.sh (.lst l)))) (fun d e' => e' = (hids e).set i (.sh (.lst l)) ∧ Pure d ∧ QD d e) X0) : wp (lend i m e) QD X := by
  unfold lend
  rw [h]
  dsimp only
  rw [hid_eq]
  show wp (match m ((hids e).set i (.sh (.lst l))) with | .ok d e' => if e' = (hids e).set i (.sh (.lst l)) ∧ Pure d then .ok d e else .no | _ => .no) QD X
  cases q : m ((hids e).set i (.sh (.lst l))) with
  | no => rw [q, wp_no] at h1; exact h1.elim
  | ex c fs e' => rw [q, wp_ex] at h1; exact h1.elim
  | ok d e' =>
    rw [q, wp_ok] at h1
    dsimp only
    rw [if_pos ⟨h1.1, h1.2.1⟩, wp_ok]
    exact h1.2.2
theorem wp_lend_s {i : Nat} {m : M D} {s : Sl} (h : e[i]? = some s) (hs : ∀ x, s ≠ .ow x) (h1 : wp (m e) QD X) : wp (lend i m e) QD X := by
  unfold lend
  rw [h]
  cases s with
  | ow x => exact absurd rfl (hs x)
  | no => exact h1
  | sh d => exact h1
  | io x => exact h1
open Classical in
theorem wp_lendT_l {i : Nat} {m : M Bool} {QB : Bool → En → Prop} {l : List D} (h : e[i]? = some (.ow (.l l))) (h1 : wp (m ((hids e).set i (.sh (.lst l)))) (fun d e' => e' = (hids e).set i (.sh (.lst l)) ∧ QB d e) X0) : wp (lendT i m e) QB X := by
  unfold lendT
  rw [h]
  dsimp only
  rw [hid_eq]
  show wp (match m ((hids e).set i (.sh (.lst l))) with | .ok d e' => if e' = (hids e).set i (.sh (.lst l)) then .ok d e else .no | _ => .no) QB X
  cases q : m ((hids e).set i (.sh (.lst l))) with
  | no => rw [q, wp_no] at h1; exact h1.elim
  | ex c fs e' => rw [q, wp_ex] at h1; exact h1.elim
  | ok d e' =>
    rw [q, wp_ok] at h1
    dsimp only
    rw [if_pos h1.1, wp_ok]
    exact h1.2
theorem wp_lendT_s {i : Nat} {m : M Bool} {QB : Bool → En → Prop} {s : Sl} (h : e[i]? = some s) (hs : ∀ x, s ≠ .ow x) (h1 : wp (m e) QB X) : wp (lendT i m e) QB X := by
  unfold lendT
  rw [h]
  cases s with
  | ow x => exact absurd rfl (hs x)
  | no => exact h1
  | sh d => exact h1
  | io x => exact h1
theorem pure_bl {k : Bool} : Pure (.bl k) = True := by simp [Pure.bl]
theorem pure_int {k : Int} : Pure (.int k) = True := by simp [Pure.int]
theorem pure_non : Pure .non = True := by simp [Pure.non]
theorem pure_str {k : Str} : Pure (.str k) = True := by simp [Pure.str]
theorem index_ {l : List Nat} {y : Nat} : lIndex (natsD l) [.int (y : Int)] = (l.findIdx? fun z => z == y).map fun j => .int (j : Nat) := by
  show (asInts (natsD l)).bind _ = _
  rw [show asInts (natsD l) = some (l.map fun p : Nat => (p : Int)) from by rw [natsD_ints, show intsD _ = List.map D.int _ from rfl, asInts_map]]
  show (List.findIdx? (fun z => z == (y : Int)) (l.map fun p : Nat => (p : Int))).map _ = _
  rw [List.findIdx?_map]
  congr 1
  refine congrArg (fun f => List.findIdx? f l) (funext fun z => ?_)
  show ((z : Int) == (y : Int)) = (z == y)
  rw [Bool.eq_iff_iff, beq_iff_eq, beq_iff_eq]; omega
theorem wp_eRdL {i : Nat} {f : List D → List D → Option D} {m : M (List Ar)} : wp (eRdL i f m e) QD X = ((lstIn e i).isSome = true ∧ wp (m e) (fun as e1 => Wo (dVals as) fun ds => Wo (lstIn e1 i) fun l => Wo (f l ds) fun d => QD d e1) X) := by
  unfold eRdL
  cases lstIn e i with
  | none => simp [wp_no]
  | some l0 =>
    simp only [Option.isSome_some, true_and, wp_bnd, wp_aVals]
    refine wp_ext fun as e1 => ?_
    cases dVals as with
    | none => rfl
    | some ds =>
      simp only [Wo_some]
      cases lstIn e1 i with
      | none => simp [wp_no, Wo_none]
      | some l =>
        simp only [Option.bind_some, Wo_some]
        cases f l ds with
        | none => simp [wp_no, Wo_none]
        | some d => simp [wp_ok, Wo_some]
def lstOfD : D → Option (List D)
  | .lst l => some l
  | _ => none
theorem lstIn_ {i : Nat} : lstIn e i = (e[i]?.bind Sl.look).bind lstOfD := by
  unfold lstIn; cases e[i]?.bind Sl.look with
  | none => rfl
  | some d => cases d <;> rfl
theorem lstOfD_ {l : List D} : lstOfD (.lst l) = some l := (rfl)
end
end DL
end

section
namespace DL
open PySem PySem.Spec L2
open PyProof.Rows hiding St
/-! ### {s: i, ..} of texts and numbers; d.get(k, z) -/
def kvC (l : List (Str × Int)) : List (Key × V) := l.map fun p => (.inr p.1, .int p.2)
def kdC (l : List (Str × Int)) : List (Key × D) := l.map fun p => (.inr p.1, .int p.2)
theorem putK_fresh {kvs : List (Key × V)} {k : Key} {v : V} (h : k ∉ kvs.map (·.1)) : putK kvs k v = kvs ++ [(k, v)] := by
  unfold putK
  rw [if_neg]
  intro c
  rw [List.any_eq_true] at c
  obtain ⟨x, hx, e⟩ := c
  exact h (List.mem_map.mpr ⟨x, hx, of_decide_eq_true e⟩)
theorem mergeK_nd : ∀ (more kvs : List (Key × V)), ((kvs ++ more).map (·.1)).Nodup → mergeK kvs more = kvs ++ more
  | [], kvs, _ => by simp [mergeK]
  | p :: r, kvs, h => by
    have h1 : p.1 ∉ kvs.map (·.1) := by
      intro c
      rw [List.map_append, List.nodup_append] at h
      exact h.2.2 _ c _ (by simp) rfl
    show mergeK (putK kvs p.1 p.2) r = _
    rw [putK_fresh h1, mergeK_nd r _ (by simpa using h)]
    simp
section
variable {I : CI} {W : WX} {o f x : Expr} {pos apos cpos : Pos} {keys : List (Option Expr)} {values : List Expr}
def trC (l : List (Str × Int)) : List (TE × TE) := l.map fun p => (tC (.str p.1), tC (.int p.2))
theorem tPairsC {σ : L2.St} {H : Hp} : ∀ (l : List (Str × Int)) {Q : List (V × V) → Hp → Prop}, Q (l.map fun p => (V.str p.1, V.int p.2)) H → tPairs (trC l) σ H Q
  | [], Q, h => h
  | p :: r, Q, h => tPairsC r (Q := fun ps H3 => Q ((V.str p.1, V.int p.2) :: ps) H3) h
theorem de_dictC {l : List (Str × Int)} (h : ∀ X, PPs X pos keys values (trC l)) (hall : keys.all (·.isSome) = true) (hl : keys.length = values.length) (h0 : keys ≠ []) (h15 : keys.length ≤ 15) (hk : l.length ≤ 15) (nd : (l.map (·.1)).Nodup) :
    DE I W (.Dict keys values pos) (eC (.dct (kdC l))) := by
  refine ⟨tDisp (trC l), fun X ok => pe_disp (h X) hall hl h0 h15, fun p G σ H e Q S w => fun q n => ?_⟩
  refine tPairsC l ⟨upd_same, kvC l, by simp [kvC, kV], by simpa [kvC] using hk, ?_⟩
  have e1 : mergeK [] (kvC l) = kvC l := by
    refine (mergeK_nd (kvC l) [] ?_).trans (List.nil_append _)
    have : ((([] : List (Key × V)) ++ kvC l).map fun x => x.1) = (l.map fun x => x.1).map (Sum.inr : Str → Key) := by simp [kvC, List.map_map, Function.comp_def]
    rw [this]
    exact List.Pairwise.map _ (fun a b c d => c (Sum.inr.inj d)) nd
  rw [e1]
  have hu : upd (upd H q (.dK [])) q (.dK (kvC l)) = upd H q (.dK (kvC l)) := by
    funext b
    by_cases hb : b = q
    · subst hb; rw [upd_same, upd_same]
    · rw [upd_ne hb, upd_ne hb, upd_ne hb]
  rw [hu]
  obtain ⟨s2, S2⟩ := S.laid (o := .dK (kvC l)) n
  refine w _ _ s2 S2 _ (.dct upd_same (by simp [kvC, kdC]) (fun i kv kd h1 h2 => ?_) (fun i kv kd h1 h2 => ?_))
  · unfold kvC at h1; unfold kdC at h2
    rw [List.getElem?_map] at h1 h2
    cases q : l[i]? with
    | none => rw [q] at h1; cases h1
    | some z => rw [q] at h1 h2; cases h1; cases h2; rfl
  · unfold kvC at h1; unfold kdC at h2
    rw [List.getElem?_map] at h1 h2
    cases q : l[i]? with
    | none => rw [q] at h1; cases h1
    | some z => rw [q] at h1 h2; cases h1; cases h2; exact .int _
def keyD : D → Option Key
  | .int i => some (.inl i)
  | .str s => some (.inr s)
  | _ => none
def dGet : List (Key × D) → Key → Option D
  | [], _ => none
  | p :: r, k => if p.1 = k then some p.2 else dGet r k
theorem dGet_valV {K : PySem.W.Frag} {mg : MG} {G : Hp} : ∀ {kvs : List (Key × V)} {l : List (Key × D)} (k : Key), kvs.length = l.length → (∀ (i : Nat) kv kd, kvs[i]? = some kv → l[i]? = some kd → kv.1 = kd.1) →
    (∀ (i : Nat) kv kd, kvs[i]? = some kv → l[i]? = some kd → Rep K mg G kv.2 kd.2) → ∀ {v : V} {z : D}, Rep K mg G v z → Rep K mg G ((valV kvs k).getD v) ((dGet l k).getD z)
  | [], [], k, _, _, _, v, z, r => r
  | a :: kvs, b :: l, k, hl, h1, h2, v, z, r => by
    have e := h1 0 a b rfl rfl
    by_cases c : b.1 = k
    · rw [valV_pos (e.trans c)]
      show Rep K mg G _ (((if b.1 = k then some b.2 else dGet l k) : Option D).getD z)
      rw [if_pos c]
      exact h2 0 a b rfl rfl
    · rw [valV_neg (by rw [e]; exact c)]
      show Rep K mg G _ (((if b.1 = k then some b.2 else dGet l k) : Option D).getD z)
      rw [if_neg c]
      exact dGet_valV k (by simpa using hl) (fun i kv kd q1 q2 => h1 (i + 1) kv kd (by simpa using q1) (by simpa using q2)) (fun i kv kd q1 q2 => h2 (i + 1) kv kd (by simpa using q1) (by simpa using q2)) r
def dctOf : D → Option (List (Key × D))
  | .dct l => some l
  | _ => none
def fDGet2 (d y z : D) : Option D := (dctOf d).bind fun l => (keyD y).map fun k => (dGet l k).getD z
def eDGet2 (mo me mf : M D) : M D := M.bnd mo fun d => M.bnd (lift (dctOf d)) fun _ => M.bnd me fun y => M.bnd mf fun z => lift (fDGet2 d y z)
theorem key_rep {K : PySem.W.Frag} {mg : MG} {G : Hp} {v : V} {d : D} {k : Key} (r : Rep K mg G v d) (h : keyD d = some k) : v = kV k := by
  cases r <;> first | (cases h; rfl) | cases h
theorem de_dget2 {mo me mf : M D} (ho : DE I W o mo) (he : DE I W x me) (hf : DE I W f mf)
    (hb : ∀ env : Env, attributeBase o "get" env (eval o env) = eval o env)
    (hfew : ∀ env : Env, ((backTo cpos (starEach [x, f] env)).all (fun x => !x.1) && (backToKw cpos (keywordEach [] env)).all (fun x => x.1.isSome) && decide (([x, f] : List Expr).length + ([] : List Keyword).length + (if ([] : List Keyword).isEmpty then 0 else 1) < 30)) = true)
    (hl : (apos.endLine == cpos.line) = true) (htr : ∀ env : Env, backTo cpos (starEach [x, f] env) = [(false, eval x env), (false, eval f env)]) :
    DE I W (.Call (.Attribute o "get" apos) [x, f] [] cpos) (eDGet2 mo me mf) := by
  obtain ⟨t1, a1, b1⟩ := ho
  obtain ⟨t2, a2, b2⟩ := he
  obtain ⟨t3, a3, b3⟩ := hf
  refine ⟨tDGet2 t1 t2 t3, fun X ok => pe_dget2 (by have := ok.room.units; omega) (a1 X ok) (a2 X ok) (a3 X ok) ⟨hb _, hfew _, hl, htr _⟩, fun p G σ H e Q S w => ?_⟩
  refine b1 p G σ H e _ S (Wp.mono (Wp.bnd w) fun d G1 H1 e1 s1 S1 w1 v r => ?_)
  obtain ⟨l, hd, k⟩ := lift_wp (Wp.bnd w1)
  have w2 := k G1 H1 (Same.refl _) S1
  cases r with
  | dct q1 q2 q3 q4 =>
    rename_i a kvs l'
    cases hd
    have hd1 : H1 a = some (.dK kvs) := S1.sub _ _ q1
    refine ⟨a, rfl, .inl ⟨kvs, .inl hd1⟩, ?_⟩
    refine b2 p G1 σ H1 e1 _ S1 (Wp.mono (Wp.bnd w2) fun y G2 H2 e2 s2 S2 w3 vy ry => ?_)
    refine b3 p G2 σ H2 e2 _ S2 (Wp.mono (Wp.bnd w3) fun z G3 H3 e3 s3 S3 w4 vz rz => ?_)
    obtain ⟨res, hr, k2⟩ := lift_wp w4
    unfold fDGet2 dctOf at hr
    dsimp only [Option.bind] at hr
    cases hk : keyD y with
    | none => rw [hk] at hr; cases hr
    | some key =>
      rw [hk] at hr
      cases hr
      have e3' : vy = kV key := key_rep ry hk
      subst e3'
      refine ⟨valV kvs key, DGet.k (S3.sub _ _ (s3 _ _ (s2 _ _ q1))), ?_⟩
      exact k2 G3 H3 (Same.refl _) S3 _ (dGet_valV key q2 q3 (fun i kv kd h1 h2 => ((q4 i kv kd h1 h2).mono s2).mono s3) rz)
  | non => cases hd
  | bl _ => cases hd
  | int _ => cases hd
  | str _ => cases hd
  | tup _ _ _ => cases hd
  | lst _ _ _ => cases hd
  | obj _ _ _ _ _ _ => cases hd
end
end DL
end

section
/-! enumerate of a tuple -/
namespace DL
open PySem PySem.Spec L2
open PyProof.Rows hiding St
open Sem (wp)
open AutoSeq1 (wpAny_loadPart')
theorem meets_enumerate_newT (l : Addr) (items : Array Value) (n : Nat) (dct : Option Addr) (sl : Array (Option Value)) :
    Meets (Builtin.«enumerate.__new__» ⟨[.type "enumerate", .ref l], []⟩) (fun _ R s => s.heap.get? l = some { cls := .type "tuple", dict := dct, data := .seq items n, slots := sl } ∧
      R (.ok (.ret (.ref (s.heap.push { cls := .type "tuple_iterator", data := .fields #[.ref l, .int 0 0] }).objs.size)))
        { s with heap := (s.heap.push { cls := .type "tuple_iterator", data := .fields #[.ref l, .int 0 0] }).push { cls := .type "enumerate", data := .fields #[.none, .bool false, .ref s.heap.objs.size, rawInt 0, .none, .none] } }) :=
  .of_wp fun prog w A R s h => by
    obtain ⟨hp, g, d, tk, os⟩ := s; obtain ⟨hl, h⟩ := h
    have hsub := sub_enumerate
    have hL : Heap.IsTuple (Shared.heap ⟨hp, g, d, tk, os⟩) l items := ⟨_, hl, rfl, n, rfl⟩
    wp_walk using wpAny_loadPart' hl
    refine wpAny_stack_any fun st => wpAny_pure ?_
    split
    · rename_i c _ _ _ _ _
      cases (c == Value.type "enumerate")
      · wp_walk using wpAny_loadPart' hl, wpAny_pyIter_tuple hL
        exact ⟨_, rfl, h⟩
      · wp_walk using wpAny_loadPart' hl, wpAny_pyIter_tuple hL
        exact ⟨_, rfl, h⟩
    · wp_walk using wpAny_loadPart' hl, wpAny_pyIter_tuple hL
      exact ⟨_, rfl, h⟩
section
variable {prog : Program} {w : World} {A : Around} {E : Value → Shared → Prop} {s : Shared}
theorem call_enumerate_tuple {l : Addr} {items : Array Value} {Q : Value → Shared → Prop} (hL : s.heap.IsTuple l items)
    (h : ∀ h', IsEnum h' (s.heap.objs.size + 1) s.heap.objs.size 0 .none → h'.IsTupleIter s.heap.objs.size l 0 → h'.objs.size = s.heap.objs.size + 2 →
      (∀ b o, s.heap.get? b = some o → h'.get? b = some o) → Q (.ref (s.heap.objs.size + 1)) { s with heap := h' }) :
    wpAny (model prog w) A (call (.type "enumerate") [.ref l]) Q E s := by
  obtain ⟨⟨c, dct, dt, sl⟩, hl, hc, n, hd⟩ := hL
  replace hc : c = .type "tuple" := hc
  replace hd : dt = .seq items n := hd
  subst hc hd
  refine callType_new F.called_enumerate (by decide) (F.typeCall_enumerate_1 _) (F.newCall_enumerate_1 _) (fun obj => F.args_object_init_2 obj _) F.entry_enumerate_new
    (meets_enumerate_newT l items n dct sl) ⟨hl, ?_⟩
  have hz : (s.heap.push { cls := .type "tuple_iterator", data := .fields #[.ref l, .int 0 0] }).objs.size = s.heap.objs.size + 1 := Heap.size_push ..
  show _ ∧ _
  rw [hz]
  have he : IsEnum ((s.heap.push { cls := .type "tuple_iterator", data := .fields #[.ref l, .int 0 0] }).push
      { cls := .type "enumerate", data := .fields #[.none, .bool false, .ref s.heap.objs.size, rawInt 0, .none, .none] }) (s.heap.objs.size + 1) s.heap.objs.size 0 .none := by
    have := Heap.get?_push_size (s.heap.push { cls := .type "tuple_iterator", data := .fields #[.ref l, .int 0 0] })
      (o := { cls := .type "enumerate", data := .fields #[.none, .bool false, .ref s.heap.objs.size, rawInt 0, .none, .none] }) rfl
    rw [hz] at this; exact this
  refine ⟨⟨_, he, rfl⟩, h _ he ⟨_, Heap.get?_push_of_some _ (Heap.get?_push_size _ rfl), rfl, rfl⟩ (by rw [Heap.size_push, hz]) fun b o x => Heap.get?_push_of_some _ (Heap.get?_push_of_some _ x)⟩
theorem pyNext_enumT_end {e it l : Addr} {i : Nat} {items : Array Value} {old : Value} {Q : Option Value → Shared → Prop} (hh : A.handled = none)
    (he : IsEnum s.heap e it i old) (hit : s.heap.IsTupleIter it l i) (hl : s.heap.IsTuple l items) (hx : items[i]? = none)
    (hQ : ∀ h', Heap.ExtBut it s.heap h' → Q none { s with heap := h' }) : wpAny (model prog w) A (pyNext (.ref e)) Q E s := by
  have hT : s.TypeIs (.ref e) "enumerate" := ⟨_, he, rfl⟩
  unfold pyNext
  refine wpAny_bind (wpAny_attempt (wpAny_callSpecial?_slot (name := Str.ofString "__next__") hT F.slot_enumerate_next
    (wpAny_call_entry F.slot_enumerate_next hT F.entry_enumerate_next ?_ (F.args_enumerate_next_1 _))))
  show wpAny _ _ (field (.ref e) 2 >>= _) _ _ _
  refine wpAny_bind (wpAny_field he rfl (x := .ref it) rfl ?_)
  refine wpAny_bind (wpAny_nextOf_tuple_end hh hit hl hx fun h' x he' hx' => ?_)
  obtain ⟨o, ho, hc⟩ := hx'
  refine wpAny_bind (wpAny_isInstance (T := "StopIteration") (b := true) ⟨o, ho, hc⟩ isSubtype_stop ?_)
  exact wpAny_pure (hQ _ he')
end
/-- the tuple at a, each item in a new pair -/
def IteT (K : PySem.W.Frag) (a : Addr) : It :=
  ⟨fun i H => ∃ (xs : List V) (x : V), SqT K H a xs ∧ xs[i]? = some x, fun i H v H' => ∃ T x, v = .ref T ∧ H T = none ∧ H' = upd H T (.tup [.int (i : Nat), x]) ∧ ∀ xs, SqT K H a xs → xs[i]? = some x, fun i H => ∃ xs : List V, SqT K H a xs ∧ xs.length ≤ i⟩
theorem turn_enumT {P : Program} {w : World} {K : PySem.W.Frag} {elts : List Expr} {kk : Nat} {tpos : Pos} (a e it : Addr) (hat : a ≠ it) (hae : a ≠ e) :
    Turn P w K (.Tuple elts kk tpos) (IteT K a) [e, it] e (fun i h => (∃ old, IsEnum h e it ((i : Nat) : Int) old) ∧ h.IsTupleIter it a i ∧ e ≠ it) where
  mem := by simp
  obj := fun i h st b hb => by
    obtain ⟨⟨old, he⟩, ⟨o, ho, hc, hd⟩, _⟩ := st
    have e' : b = e ∨ b = it := by simpa using hb
    rcases e' with z | z
    · rw [z]; exact ⟨_, he, fun v q => nomatch q⟩
    · rw [z]; exact ⟨o, ho, fun v q => by rw [hd] at q; cases q⟩
  keep := fun i h h' st k => let ⟨⟨old, he⟩, hi, hne⟩ := st; ⟨⟨old, k e (by simp) _ he⟩, hi.at fun o q => k it (by simp) o q, hne⟩
  item := by
    intro X hP hw hK hc i pins s σ H E I hf st hg
    subst hP hw hK
    obtain ⟨⟨old, he⟩, hit, hne⟩ := st
    obtain ⟨xs, x, hq, hx⟩ := hg
    obtain ⟨its, rv, p, hz⟩ := I.tuple hq
    obtain ⟨u, hu, ru⟩ := rv.get hx
    have hel : e < s.heap.objs.size := Heap.lt_size he
    have hil : it < s.heap.objs.size := by obtain ⟨_, q, _⟩ := hit; exact Heap.lt_size q
    have D := Draws.tuple (prog := X.prog) (w := X.w) (A := X.A.in1) (I.ok.hd hc) it a hat its.toArray
    have hlt : i < its.toArray.size := by
      have := (List.getElem?_eq_some_iff.mp hu).1
      simpa using this
    refine wpAny_pyNext_enum_itemD D he ⟨hit, p⟩ hlt hne (by simp only [List.mem_cons, List.not_mem_nil, or_false, not_or]; exact ⟨hne, fun z => hae z.symm⟩) fun x' h' tk hP ho hst' hT hsz hk => ?_
    have : x' = u := by
      have h1 : its.toArray[i]? = some u := by simpa using hu
      rw [h1] at hP; exact (Option.some.inj hP).symm
    subst this
    obtain ⟨hit', p'⟩ := hst'
    refine ⟨_, rfl, wpAny_letOwnedTupleGo_enum (s := { s with heap := h', toks := tk + 1 }) ho fun h'' he' sb => ?_⟩
    have hT2 : h''.get? s.heap.objs.size = some { cls := .type "tuple", data := .seq #[.int i tk, x'] } := (sb.2 _ (Nat.ne_of_gt hel)).trans hT
    have new : ObjOk X.prog X.w (upd H s.heap.objs.size (.tup [.int (i : Nat), x])) h'' s.heap.objs.size (.tup [.int (i : Nat), x]) :=
      ⟨by show 2 ≤ sizeLine; decide, [.int i tk, x'], .cons ⟨_, rfl⟩ (.cons ru .nil), ⟨_, hT2, rfl, _, rfl⟩⟩
    have I1 : Inv X pins σ (upd H s.heap.objs.size (.tup [.int (i : Nat), x])) { s with heap := h'', toks := tk + 1 } :=
      I.turnedNew (ch := [e, it]) (fun b ob hb q => (sb.2 b (fun z => hb (by simp [z]))).trans (hk b ob (fun z => hb (by simp [z])) (fun z => hb (by simp [z])) q)) hf (Nat.le_refl _) new
    refine ⟨.ref s.heap.objs.size, _, I1, rfl, ⟨_, x, rfl, I.hok.fresh (Nat.le_refl _), rfl, fun ys hy => by rw [I.tuple_inj hy hq]; exact hx⟩, ⟨⟨x', ?_⟩, hit'.at fun o q => (sb.2 it (Ne.symm hne)).trans q, hne⟩, fun b hb => ?_⟩
    · have e1 : ((i + 1 : Nat) : Int) = (i : Int) + 1 := by omega
      rw [e1]; exact he'
    · have hb' : b < s.heap.objs.size := by
        have e' : b = e ∨ b = it := by simpa using hb
        rcases e' with z | z
        · rw [z]; exact hel
        · rw [z]; exact hil
      rw [upd_ne (Nat.ne_of_lt hb')]
      exact (hf b hb).1
  done := by
    intro X hP hw hK hc i pins s σ H E I hf st hg
    subst hP hw hK
    obtain ⟨⟨old, he⟩, hit, hne⟩ := st
    obtain ⟨xs, hq, hx⟩ := hg
    obtain ⟨its, rv, p, hz⟩ := I.tuple hq
    obtain ⟨f0, f1, f2, f3, f4, f5⟩ := hf it (by simp)
    have hl := rv.length
    exact pyNext_enumT_end (I.ok.hd hc) he hit p (by simp; omega) fun h' eb => ⟨rfl, I.turned (t' := s.toks) (fun b o hb q => eb b o hb q) f0 f1 f3 f4 f5⟩
  self := fun A i s Q E st h => let ⟨⟨_, he⟩, _⟩ := st; wpAny_pyIter_enum he h
def iEnumQ (K : PySem.W.Frag) (ta : TA) : TI := fun σ H R => ta σ H fun vs H1 => ∃ a xs, vs = [.ref a] ∧ ((SqL K H1 a xs ∧ R (Ite K a) H1) ∨ (SqT K H1 a xs ∧ R (IteT K a) H1))
theorem pi_enumQ {X : Cx} {e : Expr} {ta : TA} {p pos tpos : Pos} {elts : List Expr} {kk : Nat} (hg : Gl X "enumerate") (hm : X.mg "enumerate" = none) (ha : PA X [e] ta) (hs : starEach [e] X.env = [(false, eval e X.env)] := by rfl) :
    PI X (.Tuple elts kk tpos) (.Call (.Name "enumerate" p) [e] [] pos) (iEnumQ X.K ta) := by
  refine ⟨fun pins s σ H R I h => ?_⟩
  refine Call_ (ld_blt I hg hm PyProof.Rows.boot_enumerate (PyProof.Rows.callWith_type1 (thn (ha.run pos pins s σ H _ I h) fun us s1 ⟨vs, H1, I1, r1, q1⟩ => ?_) hs rfl))
  obtain ⟨a, xs, ex, q1⟩ := q1
  subst ex
  cases r1 with
  | cons r rr =>
    cases rr
    cases r
    have fresh2 : ∀ b, b ∈ [s1.heap.objs.size + 1, s1.heap.objs.size] → FpOk X pins H1 b := fun b hb => by
      have e' : b = s1.heap.objs.size + 1 ∨ b = s1.heap.objs.size := by simpa using hb
      have hle : s1.heap.objs.size ≤ b := by
        rcases e' with z | z
        · rw [z]; exact Nat.le_add_right _ _
        · rw [z]; exact Nat.le_refl _
      exact I1.fpOk hle (I1.hok.fresh hle)
    rcases q1 with ⟨hq, q⟩ | ⟨hq, q⟩
    · obtain ⟨its, rv, p', hz⟩ := I1.list hq
      refine call_enumerate_list p'.isList fun h' he hit hsz hk => wpAny_pyIter_enum he ?_
      have I2 : Inv X pins σ H1 { s1 with heap := h' } := I1.kept (t' := s1.toks) hk
      exact ⟨s1.heap.objs.size + 1, [s1.heap.objs.size + 1, s1.heap.objs.size], _, _, H1, rfl, I2, turn_enum a (s1.heap.objs.size + 1) s1.heap.objs.size, ⟨⟨.none, he⟩, hit, Nat.succ_ne_self _⟩, fresh2, q⟩
    · obtain ⟨its, rv, p', hz⟩ := I1.tuple hq
      obtain ⟨o1, ho1, _⟩ := id p'
      have hlt := Heap.lt_size ho1
      refine call_enumerate_tuple (show s1.heap.IsTuple a its.toArray from p') fun h' he hit hsz hk => wpAny_pyIter_enum he ?_
      have I2 : Inv X pins σ H1 { s1 with heap := h' } := I1.kept (t' := s1.toks) hk
      exact ⟨s1.heap.objs.size + 1, [s1.heap.objs.size + 1, s1.heap.objs.size], _, _, H1, rfl, I2, turn_enumT a (s1.heap.objs.size + 1) s1.heap.objs.size (Nat.ne_of_lt hlt) (Nat.ne_of_lt (Nat.lt_succ_of_lt hlt)), ⟨⟨.none, he⟩, hit, Nat.succ_ne_self _⟩, fresh2, q⟩
def enumQ : List D → Option (List D)
  | [.lst l] => some (enumL l)
  | [.tup l] => some (enumL l)
  | _ => none
def iEnQ (m : M (List Ar)) : M (List D) := M.bnd (aVals m) fun ds => lift (enumQ ds)
section
variable {I : CI} {W : WX} {a b c : Expr} {pos p0 p1 p2 tpos : Pos} {x y z : Str}
theorem iter_enumT {K : PySem.W.Frag} {mg : MG} {G : Hp} {q : Addr} {vs : List V} {l : List D} (h : SqT K G q vs) (r : Reps K mg G vs l) : IterOk K mg (IteT K q) G (enumL l) := by
  intro p G' σ H e s S i
  have h1 : SqT K H q vs := Same.seqT S.sub (Same.seqT s h)
  refine ⟨fun ei => ⟨vs, h1, by rw [r.1, ei]; simp [enumL]⟩, fun d hd => ?_⟩
  obtain ⟨u, e1, rfl⟩ := enumL_get hd
  obtain ⟨x1, f1, g1⟩ := r.get e1
  refine ⟨⟨vs, x1, h1, f1⟩, fun z H2 y => ?_⟩
  obtain ⟨T, y1, rfl, nT, rfl, k1⟩ := y
  have := k1 vs h1; rw [f1] at this; cases this
  exact pair_new S nT (.int _) (g1.mono s)
theorem di_enumQ {m : M (List Ar)} {elts : List Expr} {kk} (g : I.sc.names.lookup ("enumerate" : Str) = some .globalImplicit) (hm : I.mg ("enumerate" : Str) = none) (h : DP I W [a] m) : DI I W (.Tuple elts kk tpos) (.Call (.Name "enumerate" p0) [a] [] pos) (iEnQ m) := by
  obtain ⟨n, t, h1, h2⟩ := h
  have n2 : nst a = true := by simpa using n
  refine ⟨iEnumQ I.K t, fun X ok => (by
    have := pi_enumQ (tpos := tpos) (elts := elts) (kk := kk) (pos := pos) (p := p0) (gl_of ok.hsc g) (by rw [ok.hmg]; exact hm) (h1 X ok) (star_of n2 _ _)
    rw [ok.hK] at this; exact this), fun p G σ H e R S w => ?_⟩
  refine simA_of h2 p G σ H e _ S (Wp.mono (Wp.bnd w) fun ds G1 H1 e1 s1 S1 w1 vs r => ?_)
  obtain ⟨l, hl, k⟩ := lift_wp w1
  match ds, r, hl with
  | [.lst l], r, hl =>
    obtain ⟨v, rfl, r1⟩ := reps1 r
    obtain ⟨q, vs, rfl, g1, g2⟩ := r1.ref_lst
    cases hl
    exact ⟨q, vs, rfl, .inl ⟨rd_sq S1.sub g1, k G1 H1 (Same.refl _) S1 _ (iter_enum g1 g2)⟩⟩
  | [.tup l], r, hl =>
    obtain ⟨v, rfl, r1⟩ := reps1 r
    obtain ⟨q, vs, rfl, g1, g2⟩ := r1.ref_tup
    cases hl
    exact ⟨q, vs, rfl, .inr ⟨Same.seqT S1.sub g1, k G1 H1 (Same.refl _) S1 _ (iter_enumT g1 g2)⟩⟩
/-! ### x, y, z = a, b, c where the last owns what is new -/
def sPar3O (ma mb : M D) (mc : M Ret) (i j l : Nat) : M Fl := M.bnd ma fun u => M.bnd mb fun v => M.bnd mc fun r => match r with
  | .ow (.o _ _) => fun _ => .no
  | r => sSeq (gOwn i (.sh u)) (sSeq (gOwn j (.sh v)) (gOwn l r))
theorem hand_set {p : Pm} {G H : Hp} {σ : L2.St} {e : En} {i : Nat} {d : D} {v v' : V} {r' : Ret} (S : Srp I.K I.mg p G σ H e) (h2 : Hand I.K I.mg p G H σ e v' r') : Hand I.K I.mg p G H (σ.set i (some v)) (e.set i (.sh d)) v' r' := by
  rcases h2 with h | ⟨l, q, hr, hv, T, c⟩
  · exact .inl h
  · refine .inr ⟨l, q, hr, hv, ⟨T.g, T.h0, T.f, fun k t z q1 q2 q3 => ?_⟩, c⟩
    by_cases hk : i = k
    · subst hk
      have hlen : i < σ.length := by
        by_cases hh : i < σ.length
        · exact hh
        · rw [List.getElem?_eq_none (by simpa using hh)] at q3; cases q3
      have hie : i < e.length := by rw [← S.len]; exact hlen
      rw [List.getElem?_set_self hie] at q1
      cases q1
      cases q2
    · rw [List.getElem?_set_ne hk] at q1 q3
      exact T.ap k t z q1 q2 q3
theorem ds_par3O {i j l : Nat} {ma mb : M D} {mc : M Ret} {k k2} {pt pt2 : Pos} (hi : I.N[i]? = some x) (hj : I.N[j]? = some y) (hl : I.N[l]? = some z) (hij : i ≠ j) (hil : i ≠ l) (hjl : j ≠ l) (hx : isL (I.sc.names.lookup x) = true) (hy : isL (I.sc.names.lookup y) = true) (hz : isL (I.sc.names.lookup z) = true)
    (ha : DE I W a ma) (hb : DE I W b mb) (hc : DR I W c mc) (na : nst a = true) (nb : nst b = true) (nc : nst c = true)
    (hw : ∀ env : Env, env.scope = I.sc → swappedStores [.Tuple [.Name x p0, .Name y p1, .Name z p2] k pt] (.Tuple [a, b, c] k2 pt2) env = pure (some [x, y, z]))
    (hs : ∀ env : Env, swapsWithSole [.Tuple [.Name x p0, .Name y p1, .Name z p2] k pt] (.Tuple [a, b, c] k2 pt2) pos.line env = pure false) :
    DS I W (.Assign [.Tuple [.Name x p0, .Name y p1, .Name z p2] k pt] (.Tuple [a, b, c] k2 pt2) pos) (sPar3O ma mb mc i j l) := by
  obtain ⟨ta, a1, a2⟩ := ha
  obtain ⟨tb, b1, b2⟩ := hb
  obtain ⟨tc, c1, c2⟩ := hc
  refine ⟨tPar3 i j l (tCons ta (tCons tb (tCons tc tNil))), fun X ok => ps_par3 ok.calm (by rw [ok.hN]; exact ok.nd) (by rw [ok.hN]; exact hi) (by rw [ok.hN]; exact hj) (by rw [ok.hN]; exact hl) hij hil hjl (by rw [ok.hsc]; exact isL_ok hx) (by rw [ok.hsc]; exact isL_ok hy) (by rw [ok.hsc]; exact isL_ok hz)
    (pa_cons (a1 X ok) (pa_cons (b1 X ok) (pa_cons (c1 X ok) pa_nil (star_of nc _ _)) (star_of nb _ _)) (star_of na _ _)) (hw X.env ok.hsc) (hs X.env), fun p G σ H e E S w => ?_⟩
  refine a2 p G σ H e _ S (Wp.mono (Ws.bnd w) fun u G1 H1 e1 s1 S1 w1 v rv => ?_)
  refine b2 p G1 σ H1 e1 _ S1 (Wp.mono (Ws.bnd w1) fun u' G2 H2 e2 s2 S2 w2 v' rv' => ?_)
  refine c2 p G2 σ H2 e2 _ S2 (Wp.mono (Ws.bnd w2) fun r G3 H3 e3 s3 S3 w3 => ?_)
  have fin : ∀ (v'' : V), Hand I.K I.mg p G3 H3 σ e3 v'' r → Ws I.K I.mg W p G3 (sSeq (gOwn i (.sh u)) (sSeq (gOwn j (.sh u')) (gOwn l r)) e3) E → E.nx (((σ.set i (some v)).set j (some v')).set l (some v'')) H3 := fun v'' hh ww => by
    obtain ⟨s4, S4, w4, h4⟩ := own_step S3 (.inl ⟨u, rfl, (rv.mono s2).mono s3⟩) ww
    have := h4 u rfl; subst this
    have hh4 := hand_set (i := i) (d := u) (v := v) S3 hh
    obtain ⟨s5, S5, w5, h5⟩ := own_step S4 (.inl ⟨u', rfl, rv'.mono s3⟩) w4
    have := h5 u' rfl; subst this
    have hh5 := hand_set (i := j) (d := u') (v := v') S4 hh4
    obtain ⟨s6, S6, w6, _⟩ := own_step (k := sNil) S5 hh5 (seq_nil w5)
    exact w6 G3 _ H3 (Same.refl _) S6
  cases r with
  | sh d =>
    intro v'' rv''
    exact ⟨v, v', v'', rfl, fin v'' (.inl ⟨d, rfl, rv''⟩) w3⟩
  | ow y =>
    cases y with
    | o _ _ => intro q _ _ _ _ _; exact w3.elim
    | l l' =>
      intro q gq c h0 hF ap
      exact ⟨v, v', .ref q, rfl, fin _ (.inr ⟨l', q, rfl, rfl, ⟨gq, h0, hF, ap⟩, c⟩) w3⟩
theorem c_enumQ {mp : M (List Ar)} {elts : List Expr} {kk} (B : Bs I.mg) (g : glB I.sc "enumerate" = true) (h : DP I W [a] mp) : DI I W (.Tuple elts kk tpos) (.Call (.Name "enumerate" p0) [a] [] pos) (iEnQ mp) := di_enumQ (isG_ok g) (B _ (by simp [bnames])) h
end
end DL
end

section
namespace DL
open PySem PySem.Spec L2
open PyProof.Rows hiding St
/-! ### C(..) and o.m(..) with keywords -/
def KwM (x qual : Str) (st : Stmt) (ps ks : List Str) (n : Nat) (perm : List Nat) : Prop := perm.length = ps.length ∧ ∀ (kV doc pm : Value) (an : Option Addr) (cdv ct : Value) (us ws : List Value), us.length = n → ws.length = ks.length →
    bindArgs (PySem.W.fnOf x qual (defArgs st) (defBody st) (defScope st) .none kV doc pm an cdv ct) ⟨us, ks.zip ws⟩ = pure (ps.zip (permL .none perm (us ++ ws)))
theorem binds_kw {K : PySem.W.Frag} {x qual : Str} {st : Stmt} {ps ks : List Str} {n : Nat} {perm : List Nat} {f : Addr} {fd : FuncData} {s : Shared} {us ws : List Value} (D : FunD K x qual (defArgs st) (defBody st) (defScope st) [] [] f fd) (hb : KwM x qual st ps ks n perm) (hn : us.length = n) (hz : ws.length = ks.length) :
    BindsTo s fd ⟨us, ks.zip ws⟩ (ps.zip (permL .none perm (us ++ ws))) := by
  obtain ⟨oc, od, dV, kV, doc, pm, an, cdv, ct, osl, rfl, lk, hcd, hD, hK⟩ := D.ex
  rcases hD with ⟨_, rfl⟩ | ⟨e, _⟩
  · exact .of_eq (hb.2 kV doc pm an cdv ct us ws hn hz)
  · exact absurd rfl e
structure DMk (P : Program) (w : World) (K : PySem.W.Frag) (mg : MG) (base : Heap) (k : Nat) (c m : String) (qual : Str) (st : Stmt) (ps : List Str) (sem : FS) : Prop where
  ex : ∃ C f fd, FnOk P w K mg base (L2.CX P w) k f fd ps (spF K mg sem) ∧ mg (Str.ofString c) = some (.ref C) ∧ Cls K C ∧ Meth K C (Str.ofString m) f ∧ FunD K (Str.ofString m) qual (defArgs st) (defBody st) (defScope st) [] [] f fd
structure DCk (P : Program) (w : World) (K : PySem.W.Frag) (mg : MG) (base : Heap) (k : Nat) (c : String) (qual : Str) (st : Stmt) (ps : List Str) (sem : FS) : Prop where
  ex : ∃ C f fd, FnOk P w K mg base (L2.CX P w) k f fd ps (spF K mg sem) ∧ mg (Str.ofString c) = some (.ref C) ∧ Mk K C f ∧ FunD K "__init__" qual (defArgs st) (defBody st) (defScope st) [] [] f fd
section
variable {P : Program} {w : World} {K : PySem.W.Frag} {mg : MG} {base : Heap} {k : Nat} {x qual : Str} {st : Stmt} {N ps : List Str} {m : M Fl} {f : Addr} {fd : FuncData}
theorem dmk_of {c mn : String} (F : FM K mg c mn qual st) (S : fsB N ps (defScope st) = true) (hp : Nat.ble ps.length N.length = true)
    (hb : ∀ (kV doc pm : Value) (an : Option Addr) (cdv ct : Value) (us : List Value), us.length = ps.length → bindArgs (PySem.W.fnOf (Str.ofString mn) qual (defArgs st) (defBody st) (defScope st) .none kV doc pm an cdv ct) ⟨us, []⟩ = pure (ps.zip us))
    (body : ∀ W : WX, DSs ⟨P, w, K, mg, base, N, defScope st, fun _ => true, k⟩ W (defBody st) m) : DMk P w K mg base (k + 1) c mn qual st ps (sFun N.length ps.length m) := by
  obtain ⟨C, f, fd, F1, F2, F3, F4⟩ := F
  obtain ⟨g1, g2⟩ := fok_mk F4 (fsk S) (Nat.le_of_ble_eq_true hp) hb body
  exact ⟨C, f, fd, g1, F1, F2, F3, F4⟩
theorem dck_of {c : String} (F : FI K mg c qual st) (S : fsB N ps (defScope st) = true) (hp : Nat.ble ps.length N.length = true)
    (hb : ∀ (kV doc pm : Value) (an : Option Addr) (cdv ct : Value) (us : List Value), us.length = ps.length → bindArgs (PySem.W.fnOf "__init__" qual (defArgs st) (defBody st) (defScope st) .none kV doc pm an cdv ct) ⟨us, []⟩ = pure (ps.zip us))
    (body : ∀ W : WX, DSs ⟨P, w, K, mg, base, N, defScope st, fun _ => true, k⟩ W (defBody st) m) : DCk P w K mg base (k + 1) c qual st ps (sFun N.length ps.length m) := by
  obtain ⟨C, f, fd, F1, F2, F3⟩ := F
  obtain ⟨g1, g2⟩ := fok_mk F3 (fsk S) (Nat.le_of_ble_eq_true hp) hb body
  exact ⟨C, f, fd, g1, F1, F2, F3⟩
end
section
variable {I : CI} {W : WX} {a o : Expr} {es : List Expr} {pos p0 apos : Pos} {kws : List Keyword}
/-! C(..) -/
def rMakeK (c : String) (sem : FS) (n nk : Nat) (perm : List Nat) (ma mk : M (List Ar)) : M Ret := M.bnd ma fun as => M.bnd mk fun ks => if as.length = n ∧ ks.length = nk then (fun e => endM e.length (callS sem (permL (.d .non) perm (.at e.length :: (as ++ ks))) (e ++ [.ow (.o c [])]))) else fun _ => .no
def tMakeK (C : Addr) (sp : Sp) (n nk : Nat) (perm : List Nat) (E : L2.St → XK) (t tk : TA) : TE := fun σ H Q => t σ H fun vs H1 => tk σ H1 fun zs H2 => vs.length = n ∧ zs.length = nk ∧ ∀ x dx, H2 x = none → H2 dx = none → dx ≠ x →
  sp (permL .non perm (.ref x :: (vs ++ zs))) (upd (upd H2 dx (.own x)) x (.ins C dx [])) (fun v H3 => v = .non ∧ Q (.ref x) H3) (E σ)
theorem run_makeK {X : Cx} {CX : CXT} {k n : Nat} {C f : Addr} {fd : FuncData} {qual : Str} {st : Stmt} {ps ks : List Str} {perm : List Nat} {sp : Sp} {E : L2.St → XK} {pins : List (Addr × Obj)} {σ : L2.St} {H : Hp} {s : Shared} {Q : VK} {us ws : List Value} {vs zs : List V} (M : Mk X.K C f) (F : FnOk X.prog X.w X.K X.mg X.base CX k f fd ps sp) (hr : Room (k + 1) X.A)
    (D : FunD X.K "__init__" qual (defArgs st) (defBody st) (defScope st) [] [] f fd) (hb : KwM "__init__" qual st ps ks (n + 1) perm) (hx : PassesAt CX X σ (E σ)) (J : Inv X pins σ H s) (r : Vals vs us) (rz : Vals zs ws) (hn : vs.length = n) (hz : zs.length = ks.length)
    (h : ∀ x dx, H x = none → H dx = none → dx ≠ x → sp (permL .non perm (.ref x :: (vs ++ zs))) (upd (upd H dx (.own x)) x (.ins C dx [])) (fun v H2 => v = .non ∧ Q (.ref x) H2) (E σ)) :
    wpAny (model X.prog X.w) X.A (call (.ref C) us (ks.zip ws)) (EP X pins σ Q) X.xe s := by
  have hq := h (s.heap.objs.size + 1) s.heap.objs.size (J.hok.fresh (Nat.le_succ _)) (J.hok.fresh (Nat.le_refl _)) (Nat.ne_of_lt (Nat.lt_succ_self _))
  have J2 := Inv.made (C := C) J
  have r2 := permL_vals (vs := V.ref (s.heap.objs.size + 1) :: (vs ++ zs)) (us := Value.ref (s.heap.objs.size + 1) :: (us ++ ws)) (.cons rfl (r.append rz)) perm
  have bs := binds_kw (s := { s with heap := (s.heap.push PySem.W.emptyDict).push (PySem.W.instObj C s.heap.objs.size) }) (us := Value.ref (s.heap.objs.size + 1) :: us) (ws := ws) D hb (by rw [List.length_cons, ← r.length, hn]) (by rw [← rz.length]; exact hz)
  refine wpAny_call (make_map (f := f) J.kIn M.makes M.init (beq_iff_eq.mp M.fn) (codeAny_mono (F.run _ X.stack _ _ ⟨Value.ref (s.heap.objs.size + 1) :: us, ks.zip ws⟩ (permL .none perm (Value.ref (s.heap.objs.size + 1) :: (us ++ ws))) _ _ (E σ) (hr.make C us (ks.zip ws)) (J2.env0.make C us (ks.zip ws)) bs r2 hq) fun r s' z => ?_))
  cases r with
  | error er => exact hx pins _ _ er s' J2 z
  | ok fl =>
    cases fl with
    | ret u =>
      obtain ⟨v, H', J3, rv, ev, z3⟩ := J2.after z
      subst ev
      exact ⟨rv, ⟨V.ref (s.heap.objs.size + 1), H', J3, rfl, z3⟩⟩
    | next => exact False.elim z
    | brk => exact False.elim z
    | cont => exact False.elim z
theorem make_simK {sem : FS} {c : String} {C : Addr} {n nk : Nat} {perm : List Nat} {t tk : TA} {ma mk : M (List Ar)} (hC : I.mg (Str.ofString c) = some (.ref C)) (k2 : SimP I W t ma) (k3 : SimP I W tk mk) : SimR I W (tMakeK C (spF I.K I.mg sem) n nk perm (WE W) t tk) (rMakeK c sem n nk perm ma mk) := by
  intro p G σ H e Q S w
  refine k2 p G σ H e _ S (Wp.mono (Wp.bnd w) fun as0 G0 H0 e0 s0 S0 w0 vs0 rs0 => ?_)
  refine k3 p G0 σ H0 e0 _ S0 (Wp.mono (Wp.bnd w0) fun as1 G1 H1 e1 s1 S1 w1' vs1 rs1 => ?_)
  by_cases hl : as0.length = n ∧ as1.length = nk
  rotate_left
  · rw [if_neg hl] at w1'; exact w1'.elim
  rw [if_pos hl] at w1'
  have w1 := w1'
  refine ⟨rs0.1.trans hl.1, rs1.1.trans hl.2, ?_⟩
  have rs : ArsOk I.K I.mg G1 σ (vs0 ++ vs1) (as0 ++ as1) := (rs0.up s1).app rs1
  generalize vs0 ++ vs1 = vs at rs ⊢
  generalize as0 ++ as1 = as at rs w1
  intro x dx hx hdx hne
  obtain ⟨Sa, ga, _, _, _⟩ := S1.laidOw (o := .own x) hdx
  have hx' : upd H1 dx (.own x) x = none := by rw [upd_ne (fun z => hne z.symm)]; exact hx
  obtain ⟨Sb, gb, b0, bF, bap⟩ := Sa.laidOw (o := .ins C dx []) hx'
  have gdx : G1 dx = none := ga
  have cc : CtR I.K I.mg G1 (upd (upd H1 dx (.own x)) x (.ins C dx [])) x (.o c []) :=
    ⟨C, dx, [], upd_same, by rw [upd_ne hne, upd_same], gdx, hC, Nat.le_refl _, fun _ => .non, fun f d h => (by cases h), fun _ _ => rfl⟩
  have Sc := Sb.push gb cc b0 bF bap
  have el : e1.length = σ.length := S1.len.symm
  have ra0 : ArsOk I.K I.mg G1 (σ ++ [some (.ref x)]) (.ref x :: vs) (.at e1.length :: as) := ⟨by simp [rs.1], fun j v a q1 q2 => by
    cases j with
    | zero =>
      simp at q1 q2
      subst q1 q2
      show (σ ++ [some (V.ref x)])[e1.length]? = _
      rw [el]; simp
    | succ j =>
      have h0 := rs.2 j v a (by simpa using q1) (by simpa using q2)
      cases a with
      | d y => exact h0
      | «at» i => exact app_l h0⟩
  have ra := permL_ars ra0 perm
  have wc : Wp I.K I.mg (fun cls d _ H => W cls d σ H) p G1 (σ ++ [some (.ref x)]) (callS sem (permL (.d .non) perm (.at e1.length :: as)) (e1 ++ [.ow (.o c [])])) (fun r G' H' e' => RetK I.K I.mg p G' (σ ++ [some (.ref x)]) H' e' (fun v H2 => v = .non ∧ Q (.ref x) H2) r) := by
    cases z : callS sem (permL (.d .non) perm (.at e1.length :: as)) (e1 ++ [.ow (.o c [])]) with
    | no => rw [z] at w1; exact w1.elim
    | ex c' fs e2 =>
      rw [z] at w1
      intro G' H' C' d' s' S' hC' hX
      have := S'.pop
      rw [← el] at this
      exact w1 G' H' C' d' s' this hC' hX
    | ok r e2 =>
      rw [z] at w1
      intro G' H' s' S'
      cases r with
      | ow y => exact w1.elim
      | sh d =>
        cases d with
        | non =>
          have w1' : Wp I.K I.mg W p G1 σ (match e2[e1.length]? with | some (.ow y) => R.ok (Ret.ow y) (e2.take e1.length) | _ => .no) _ := w1
          cases q : e2[e1.length]? with
          | none => rw [q] at w1'; exact w1'.elim
          | some sl =>
            rw [q] at w1'
            cases sl with
            | no => exact w1'.elim
            | sh _ => exact w1'.elim
            | io _ => exact w1'.elim
            | ow y =>
              intro v rv
              cases rv
              refine ⟨rfl, ?_⟩
              have hσ : (σ ++ [some (V.ref x)])[e1.length]? = some (some (V.ref x)) := by rw [el]; simp
              obtain ⟨b, k1, k2', k3⟩ := S'.ow e1.length _ y q rfl
              rw [hσ] at k1
              cases k1
              have P' := S'.pop
              rw [← el] at P'
              refine w1' G' H' s' P' x k2' k3 (S'.of e1.length y x q hσ) (S'.ka e1.length _ y x q rfl hσ) fun i s0 y0 q1 q2 q3 => ?_
              obtain ⟨q1', hi⟩ := take_get q1
              have := S'.ap i e1.length s0 _ y0 y x q1' q q2 rfl (app_l q3) hσ
              omega
        | bl _ => exact w1.elim
        | int _ => exact w1.elim
        | str _ => exact w1.elim
        | tup _ => exact w1.elim
        | lst _ => exact w1.elim
        | dct _ => exact w1.elim
        | obj _ _ => exact w1.elim
  have key := call_sim (W := fun cls d _ H => W cls d σ H) Sc ra wc
  exact key

theorem dr_makeK {c : String} {qual : Str} {st : Stmt} {ps ks : List Str} {sem : FS} {k n : Nat} {perm : List Nat} {ma mk : M (List Ar)} (F : DCk I.P I.w I.K I.mg I.base k c qual st ps sem) (hk : Nat.ble (k + 1) I.k = true) (g : (glB I.sc (Str.ofString c) && nodbg (Str.ofString c)) = true) (ha : DP I W (a :: es) ma) (hkw : DK I W kws mk)
    (hb : KwM "__init__" qual st ps ks (n + 1) perm) (hall : ∀ env : Env, (backToKw pos (keywordEach kws env)).all (·.1.isSome) = true) (hks : ∀ env : Env, (backToKw pos (keywordEach kws env)).filterMap (·.1) = ks)
    (hno : ∀ env : Env, (backToKw pos (keywordEach kws env)).any (·.1.isNone) = false) :
    DR I W (.Call (.Name (Str.ofString c) p0) (a :: es) kws pos) (rMakeK c sem n ks.length perm ma mk) := by
  simp only [Bool.and_eq_true] at g
  obtain ⟨C, f, fd, F1, F2, F3, F4⟩ := F.ex
  obtain ⟨nn, t, k1, k2⟩ := ha
  obtain ⟨tk, j1, j2⟩ := hkw
  have n2 : nst a = true ∧ es.all nst = true := by simpa using nn
  refine ⟨tMakeK C (spF I.K I.mg sem) n ks.length perm (WE W) t tk, fun X ok => ?_, make_simK F2 k2 j2⟩
  obtain ⟨P, ww, K, mg, base, N, sc, fn, kk⟩ := I
  obtain ⟨e1, e2, e3, e4, e5, e6, e7, e8, nd, calm, room, takes, passes⟩ := id ok
  dsimp only at *
  subst e1 e2 e3 e4 e5
  refine ⟨fun pins s σ H Q J h => ?_⟩
  refine wpAny_Call_Name_kw (ld_glob J (gl_of e7 (isG_ok g.1)) F2 ?_ (by have := g.2; unfold nodbg at this; simpa using this))
  refine PySem.W.callWith_KW (h₀ := X.base) J.ok.mod.kin F3.kp (hall _) (thn ((k1 X ok).run pos pins s σ H _ J h) fun us s1 ⟨vs, H1, I1, r, q⟩ => ?_) (by rw [no_back, no_star nn, hno]; rfl) (star_of n2.1 _ _)
  refine thn ((j1 X ok).run pos pins s1 σ H1 _ I1 q) fun ws s2 ⟨zs, H2, I2, rz, q1, q2, q3⟩ => ⟨I2.kIn, ?_⟩
  rw [hks]
  exact run_makeK F3 F1 (room.mono (Nat.le_of_ble_eq_true hk)) F4 hb (passAt takes σ) I2 r rz q1 q2 q3
theorem dr_makeK0 {c : String} {qual : Str} {st : Stmt} {ps ks : List Str} {sem : FS} {k : Nat} {perm : List Nat} {mk : M (List Ar)} (F : DCk I.P I.w I.K I.mg I.base k c qual st ps sem) (hk : Nat.ble (k + 1) I.k = true) (g : (glB I.sc (Str.ofString c) && nodbg (Str.ofString c)) = true) (hkw : DK I W kws mk)
    (hb : KwM "__init__" qual st ps ks 1 perm) (hall : ∀ env : Env, (backToKw pos (keywordEach kws env)).all (·.1.isSome) = true) (hks : ∀ env : Env, (backToKw pos (keywordEach kws env)).filterMap (·.1) = ks)
    (hno : ∀ env : Env, (backToKw pos (keywordEach kws env)).any (·.1.isNone) = false) :
    DR I W (.Call (.Name (Str.ofString c) p0) [] kws pos) (rMakeK c sem 0 ks.length perm aNil mk) := by
  simp only [Bool.and_eq_true] at g
  obtain ⟨C, f, fd, F1, F2, F3, F4⟩ := F.ex
  obtain ⟨nn, t, k1, k2⟩ := (dp_nil : DP I W [] aNil)
  obtain ⟨tk, j1, j2⟩ := hkw
  refine ⟨tMakeK C (spF I.K I.mg sem) 0 ks.length perm (WE W) tNil tk, fun X ok => ?_, make_simK F2 (fun p G σ H e Q S w => w G H (Same.refl _) S [] ⟨rfl, fun _ _ _ h => by simp at h⟩) j2⟩
  obtain ⟨P, ww, K, mg, base, N, sc, fn, kk⟩ := I
  obtain ⟨e1, e2, e3, e4, e5, e6, e7, e8, nd, calm, room, takes, passes⟩ := id ok
  dsimp only at *
  subst e1 e2 e3 e4 e5
  refine ⟨fun pins s σ H Q J h => ?_⟩
  refine wpAny_Call_Name_kw (ld_glob J (gl_of e7 (isG_ok g.1)) F2 ?_ (by have := g.2; unfold nodbg at this; simpa using this))
  refine PySem.W.callWith_KW0 (h₀ := X.base) J.ok.mod.kin F3.kp (hall _) ?_ (by rw [hno]; rfl)
  refine thn ((j1 X ok).run pos pins s σ H _ J h) fun ws s2 ⟨zs, H2, I2, rz, q1, q2, q3⟩ => ⟨I2.kIn, ?_⟩
  rw [hks]
  exact run_makeK (us := []) (vs := []) F3 F1 (room.mono (Nat.le_of_ble_eq_true hk)) F4 hb (passAt takes σ) I2 .nil rz rfl q2 q3
/-! o.m(..) -/
def rMethK (c m : String) (sem : FS) (n nk : Nat) (perm : List Nat) (mo : M D) (ma mk : M (List Ar)) : M Ret := M.bnd mo fun d => M.bnd (lift (selfOf c m d)) fun d => M.bnd ma fun as => M.bnd mk fun ks => if as.length = n ∧ ks.length = nk then callS sem (permL (.d .non) perm (.d d :: (as ++ ks))) else fun _ => .no
def tMethK (C : Addr) (m : Str) (sp : Sp) (n nk : Nat) (perm : List Nat) (E : L2.St → XK) (ta : TE) (t tk : TA) : TE := fun σ H Q => ta σ H fun x H1 => ∃ a dx fs, x = .ref a ∧ H1 a = some (.ins C dx fs) ∧ fs.lookup m = none ∧ t σ H1 fun vs H2 => tk σ H2 fun zs H3 => vs.length = n ∧ zs.length = nk ∧ sp (permL .non perm (x :: (vs ++ zs))) H3 Q (E σ)
theorem run_kwM {X : Cx} {CX : CXT} {k n : Nat} {f : Addr} {fd : FuncData} {x qual : Str} {st : Stmt} {ps ks : List Str} {perm : List Nat} {sp : Sp} {E : L2.St → XK} {pins : List (Addr × Obj)} {σ : L2.St} {H : Hp} {s : Shared} {Q : VK} {us ws : List Value} {vs zs : List V} (F : FnOk X.prog X.w X.K X.mg X.base CX k f fd ps sp) (hr : Room k X.A)
    (D : FunD X.K x qual (defArgs st) (defBody st) (defScope st) [] [] f fd) (hb : KwM x qual st ps ks n perm) (hx : PassesAt CX X σ (E σ)) (I : Inv X pins σ H s) (r : Vals vs us) (rz : Vals zs ws) (hn : vs.length = n) (hz : zs.length = ks.length) (h : sp (permL .non perm (vs ++ zs)) H Q (E σ)) :
    wpAny (model X.prog X.w) X.A (call (.ref f) us (ks.zip ws)) (EP X pins σ Q) X.xe s := by
  have r2 := permL_vals (r.append rz) perm
  have b := binds_kw (s := s) D hb (by rw [← r.length]; exact hn) (by rw [← rz.length]; exact hz)
  refine wpAny_call (codeAny_mono (F.run X.A X.stack s H ⟨us, ks.zip ws⟩ (permL .none perm (us ++ ws)) _ Q (E σ) hr I.env0 b r2 h) fun r s' hq => ?_)
  cases r with
  | error e => exact hx pins H s e s' I hq
  | ok fl =>
    cases fl with
    | ret u => exact I.after hq
    | next => exact False.elim hq
    | brk => exact False.elim hq
    | cont => exact False.elim hq
theorem meth_simK {sem : FS} {c m : String} {C : Addr} {n nk : Nat} {perm : List Nat} {ta : TE} {t tk : TA} {mo : M D} {ma mk : M (List Ar)} (hC : I.mg (Str.ofString c) = some (.ref C)) (h2 : SimE I W ta mo) (k2 : SimP I W t ma) (k3 : SimP I W tk mk) : SimR I W (tMethK C (Str.ofString m) (spF I.K I.mg sem) n nk perm (WE W) ta t tk) (rMethK c m sem n nk perm mo ma mk) := by
  intro p G σ H e Q S w
  refine h2 p G σ H e _ S (Wp.mono (Wp.bnd w) fun d G1 H1 e1 s1 S1 w1 v r => ?_)
  obtain ⟨d', hd, k⟩ := lift_wp (Wp.bnd w1)
  obtain ⟨rfl, a, dx, fs, g1, g2, g3⟩ := self_rep hC r S1.sub hd
  refine ⟨a, dx, fs, g1, g2, g3, ?_⟩
  have w2 := k G1 H1 (Same.refl _) S1
  refine k2 p G1 σ H1 _ _ S1 (Wp.mono (Wp.bnd w2) fun as G2 H2 e2 s2 S2 w3 vs rs => ?_)
  refine k3 p G2 σ H2 _ _ S2 (Wp.mono (Wp.bnd w3) fun ks G3 H3 e3 s3 S3 w4 zs rz => ?_)
  by_cases hl : as.length = n ∧ ks.length = nk
  · rw [if_pos hl] at w4
    have ra : ArsOk I.K I.mg G3 σ (v :: (vs ++ zs)) (.d d' :: (as ++ ks)) := ⟨by simp [rs.1, rz.1], fun j v' a' q1 q2 => by
      cases j with
      | zero => simp at q1 q2; subst q1 q2; exact (r.mono s2).mono s3
      | succ j => exact ((rs.up s3).app rz).2 j v' a' (by simpa using q1) (by simpa using q2)⟩
    exact ⟨rs.1.trans hl.1, rz.1.trans hl.2, call_sim S3 (permL_ars ra perm) w4⟩
  · rw [if_neg hl] at w4; exact w4.elim
theorem dr_methK {c m : String} {qual : Str} {st : Stmt} {ps ks : List Str} {sem : FS} {k n : Nat} {perm : List Nat} {mo : M D} {ma mk : M (List Ar)} {pl : Env → Sem Bool} (F : DMk I.P I.w I.K I.mg I.base k c m qual st ps sem) (hk : Nat.ble k I.k = true) (ho : DE I W o mo) (ha : DP I W (a :: es) ma) (hkw : DK I W kws mk)
    (hb : KwM (Str.ofString m) qual st ps ks (n + 1) perm) (hall : ∀ env : Env, (backToKw pos (keywordEach kws env)).all (·.1.isSome) = true) (hks : ∀ env : Env, (backToKw pos (keywordEach kws env)).filterMap (·.1) = ks)
    (hno : ∀ env : Env, (backToKw pos (keywordEach kws env)).any (·.1.isNone) = false)
    (ht : ∀ env : Env, eval (.Call (.Attribute o (Str.ofString m) apos) (a :: es) kws pos) env = (do
      let ov ← eval o env
      standAt apos.atName
      let (f, first) ← holding [ov] (getMethod ov (Str.ofString m) (pl env))
      callWith pos f first (backTo pos (starEach (a :: es) env)) (backToKw pos (keywordEach kws env)))) : DR I W (.Call (.Attribute o (Str.ofString m) apos) (a :: es) kws pos) (rMethK c m sem n ks.length perm mo ma mk) := by
  obtain ⟨C, f, fd, F1, F2, F3, F4, F5⟩ := F.ex
  obtain ⟨ta, h1, h2⟩ := ho
  obtain ⟨nn, t, k1, k2⟩ := ha
  obtain ⟨tk, j1, j2⟩ := hkw
  have n2 : nst a = true ∧ es.all nst = true := by simpa using nn
  refine ⟨tMethK C (Str.ofString m) (spF I.K I.mg sem) n ks.length perm (WE W) ta t tk, fun X ok => ?_, meth_simK F2 h2 k2 j2⟩
  obtain ⟨P, ww, K, mg, base, N, sc, fn, kk⟩ := I
  obtain ⟨e1, e2, e3, e4, e5, e6, e7, e8, nd, calm, room, takes, passes⟩ := id ok
  dsimp only at *
  subst e1 e2 e3 e4 e5
  refine ⟨fun pins s σ H Q J h => ?_⟩
  refine PySem.W.methodCall_KW (pl := pl X.env) (thn ((h1 X ok).run pins s σ H _ J h) fun u s1 ⟨x, H1, J1, rx, q, dx, fs, ex, ea, l, z⟩ => ?_) (ht X.env)
  subst ex
  obtain rfl : u = Value.ref q := rx
  refine getmeth_ok J1 ea F3 F4 l ?_
  refine PySem.W.callWith_KW (first := [.ref q]) (h₀ := X.base) J1.ok.mod.kin F4.kp (hall _) (thn ((k1 X ok).run pos pins s1 σ H1 _ J1 z) fun us s2 ⟨vs, H2, J2, r, z2⟩ => ?_) (by rw [no_back, no_star nn, hno]; rfl) (star_of n2.1 _ _)
  refine thn ((j1 X ok).run pos pins s2 σ H2 _ J2 z2) fun ws s3 ⟨zs, H3, J3, rz, q1, q2, q3⟩ => ⟨J3.kIn, ?_⟩
  rw [hks]
  exact run_kwM (us := .ref q :: us) (vs := .ref q :: vs) F1 (room.mono (Nat.le_of_ble_eq_true hk)) F5 hb (passAt takes σ) J3 (.cons rfl r) rz (by rw [List.length_cons, q1]) q2 q3
theorem dr_methK0 {c m : String} {qual : Str} {st : Stmt} {ps ks : List Str} {sem : FS} {k : Nat} {perm : List Nat} {mo : M D} {mk : M (List Ar)} {pl : Env → Sem Bool} (F : DMk I.P I.w I.K I.mg I.base k c m qual st ps sem) (hk : Nat.ble k I.k = true) (ho : DE I W o mo) (hkw : DK I W kws mk)
    (hb : KwM (Str.ofString m) qual st ps ks 1 perm) (hall : ∀ env : Env, (backToKw pos (keywordEach kws env)).all (·.1.isSome) = true) (hks : ∀ env : Env, (backToKw pos (keywordEach kws env)).filterMap (·.1) = ks)
    (hno : ∀ env : Env, (backToKw pos (keywordEach kws env)).any (·.1.isNone) = false)
    (ht : ∀ env : Env, eval (.Call (.Attribute o (Str.ofString m) apos) [] kws pos) env = (do
      let ov ← eval o env
      standAt apos.atName
      let (f, first) ← holding [ov] (getMethod ov (Str.ofString m) (pl env))
      callWith pos f first (backTo pos (starEach [] env)) (backToKw pos (keywordEach kws env)))) : DR I W (.Call (.Attribute o (Str.ofString m) apos) [] kws pos) (rMethK c m sem 0 ks.length perm mo aNil mk) := by
  obtain ⟨C, f, fd, F1, F2, F3, F4, F5⟩ := F.ex
  obtain ⟨ta, h1, h2⟩ := ho
  obtain ⟨tk, j1, j2⟩ := hkw
  refine ⟨tMethK C (Str.ofString m) (spF I.K I.mg sem) 0 ks.length perm (WE W) ta tNil tk, fun X ok => ?_, meth_simK F2 h2 (fun p G σ H e Q S w => w G H (Same.refl _) S [] ⟨rfl, fun _ _ _ h => by simp at h⟩) j2⟩
  obtain ⟨P, ww, K, mg, base, N, sc, fn, kk⟩ := I
  obtain ⟨e1, e2, e3, e4, e5, e6, e7, e8, nd, calm, room, takes, passes⟩ := id ok
  dsimp only at *
  subst e1 e2 e3 e4 e5
  refine ⟨fun pins s σ H Q J h => ?_⟩
  refine PySem.W.methodCall_KW (pl := pl X.env) (thn ((h1 X ok).run pins s σ H _ J h) fun u s1 ⟨x, H1, J1, rx, q, dx, fs, ex, ea, l, z⟩ => ?_) (ht X.env)
  subst ex
  obtain rfl : u = Value.ref q := rx
  refine getmeth_ok J1 ea F3 F4 l ?_
  refine PySem.W.callWith_KW0 (first := [.ref q]) (h₀ := X.base) J1.ok.mod.kin F4.kp (hall _) ?_ (by rw [hno]; rfl)
  refine thn ((j1 X ok).run pos pins s1 σ H1 _ J1 z) fun ws s3 ⟨zs, H3, J3, rz, q1, q2, q3⟩ => ⟨J3.kIn, ?_⟩
  rw [hks]
  exact run_kwM (us := [.ref q]) (vs := [.ref q]) F1 (room.mono (Nat.le_of_ble_eq_true hk)) F5 hb (passAt takes σ) J3 (.cons rfl .nil) rz rfl q2 q3
end
end DL
end

section
namespace DL
open PySem PySem.Spec L2
open PyProof.Rows hiding St
/-! ### == and != of an object of a class with an __eq__ of its own -/
theorem sub_ty {K : PySem.W.Frag} {C : Addr} : ∀ T ∈ ["NoneType", "bool", "int", "str", "tuple", "list", "dict"], PySem.W.subIn K (.type T) (.ref C) = some false := by
  intro T hT
  have e : ∃ l : List String, fastBuiltinMro T = some (l.map Value.type) := by
    simp only [List.mem_cons, List.not_mem_nil, or_false] at hT
    rcases hT with rfl | rfl | rfl | rfl | rfl | rfl | rfl
    · exact ⟨["NoneType", "object"], by decide +kernel⟩
    · exact ⟨["bool", "int", "object"], by decide +kernel⟩
    · exact ⟨["int", "object"], by decide +kernel⟩
    · exact ⟨["str", "object"], by decide +kernel⟩
    · exact ⟨["tuple", "object"], by decide +kernel⟩
    · exact ⟨["list", "object"], by decide +kernel⟩
    · exact ⟨["dict", "object"], by decide +kernel⟩
  obtain ⟨l, e⟩ := e
  show (fastBuiltinMro T).map (·.contains (.ref C)) = some false
  rw [e]
  show some ((l.map Value.type).contains (.ref C)) = some false
  congr 1
  clear e
  induction l with
  | nil => rfl
  | cons t l ih => rw [List.map_cons, List.contains_cons, ih]; rfl
/-- the own == is called -/
def rOwnEq (K : PySem.W.Frag) (C : Addr) (sp : Sp) (neg : Bool) : R2 := fun x y H Q => ∃ a dx fs T, x = .ref a ∧ H a = some (.ins C dx fs) ∧ TyX K H y T ∧ PySem.W.notFirst K C T = true ∧ sp [x, y] H (fun v H' => ∃ k, v = .bl k ∧ Q (.bl (k != neg)) H') (fun _ _ _ => False)
theorem op_ownEq {X : Cx} {k : Nat} {C f : Addr} {fd : FuncData} {ps : List Str} {sp : Sp} (F : FnOk X.prog X.w X.K X.mg X.base (L2.CX X.prog X.w) k f fd ps sp) (hr : Room k X.A) (hb : Binds X.K fd ps []) (hm : Meth X.K C "__eq__" f) : OpR X (compareOp .Eq) (rOwnEq X.K C sp false) := by
  intro pins s σ H x y v u Q I rx ry hq
  obtain ⟨a, dx, fs, T, rfl, ha, ty, nf, hsp⟩ := hq
  obtain rfl : v = Value.ref a := rx
  obtain ⟨mA, J, _⟩ := ins_get I.hok ha
  obtain ⟨od, J, _⟩ := J.look
  obtain ⟨m, hF⟩ := I.fr
  obtain ⟨P, kx, hP, _⟩ := kit_of I ry ty
  show wpAny (model X.prog X.w) X.A (richCompare .Eq (.ref a) u) (EP X pins σ Q) X.xe s
  refine PySem.W.cmp_K (op := .Eq) (tb := T) hr.units0 hF I.ok.mod.kin J (kx.ty _ _ I.kIn hP) nf hm.at_ hm.fn ?_
  refine wpAny_mono (run_fnS (us := [.ref a, u]) (vs := [.ref a, y]) F hr hb (passAt (W := fun _ _ _ _ => False) takes0 σ) I (.cons rfl (.cons ry .nil)) hsp) (fun w s' q => ?_) fun _ _ e => e
  obtain ⟨z, H', I', rz, k', ez, q'⟩ := q
  subst ez
  obtain rfl : w = Value.bool k' := rz
  exact ⟨.bl k', H', I', rfl, by simpa using q'⟩
/-! != comes to object.__ne__, which asks the own __eq__ -/
section
variable {prog : Program} {w : World} {A : Around} {E : Value → Shared → Prop} {s : Shared} {K : PySem.W.Frag} {x C f : Addr} {ox : Obj} {od : Option Obj} {b tb : Value}
theorem ifBound_objNe {M : Model} {args : List Value} {Q : Option Value → Shared → Prop} (X : K.In s.heap) (I : PySem.W.InstAt s.heap x ox C od) (hs : PySem.W.findIn K (.ref C) "__ne__" = some (some (.builtin "object.__ne__")))
    (h : wpAny M A (call (.builtin "object.__ne__") (.ref x :: args)) (fun v => Q (some v)) E s) : wpAny M A (callSpecialIfBound? (.ref x) "__ne__" args) Q E s := by
  simp only [callSpecialIfBound?, bindSpecialIfBound?]
  refine wpAny_holding (wpAny_bind (wpAny_bind (wpAny_bind (I.type.here ((PySem.W.looks_findIn X hs).here ?_)))))
  refine wpAny_bind (wpAny_askSetting (wpAny_ite ?_))
  have fin : wpAny M A (call (.builtin "object.__ne__") ([.ref x] ++ args) >>= fun v => pure (some v)) Q E s := wpAny_bind (wpAny_mono h (fun v s' h' => wpAny_pure h') fun _ _ h' => h')
  split
  · exact wpAny_bind (wpAny_of_eq (F.cmp_object.ne.bind _) (wpAny_pure (by exact fin)))
  · exact wpAny_tryCatch (wpAny_bind (wpAny_of_eq (F.cmp_object.ne.bind _) (wpAny_pure (by exact fin))))
theorem entry_objNe (hu : A.units < cLine) (X : K.In s.heap) (I : PySem.W.InstAt s.heap x ox C od) (hs : PySem.W.findIn K (.ref C) "__eq__" = some (some (.ref f))) (hf : PySem.W.isFn K (.ref f) = true) {Q : Fin → Shared → Prop}
    (h : wpAny (model prog w) A (call (.ref f) [.ref x, b]) (fun v s' => ∃ k, v = .bool k ∧ Q (.done (.ret (.bool (!k)))) s') E s) : wpAny (model prog w) A (Builtin.«object.__ne__» ⟨[.ref x, b], []⟩) Q E s := by
  unfold Builtin.«object.__ne__»
  repeat (first
    | with_reducible refine wpAny_cRoomFor hu ?_
    | (refine wpAny_bind (m := callSpecialIfBound? (.ref x) (Str.ofString "__eq__") [b])
        (PySem.W.ifBound_K X I hs hf (wpAny_mono h (fun r s' hr => by
          obtain ⟨b, rfl, hq⟩ := hr
          repeat (first | exact hq | exact wpAny_pure hq | exact wpAny_truthy_bool hq | (refine wpAny_bind (m := truthy (.bool _)) (wpAny_truthy_bool ?_)) | wp_step)) fun _ _ e => e)))
    | wp_step)
theorem call_objNe (hu : A.units + 1 < cLine) (X : K.In s.heap) (I : PySem.W.InstAt s.heap x ox C od) (hm : PySem.W.mroIn K C (.type "object") = some true) (hs : PySem.W.findIn K (.ref C) "__eq__" = some (some (.ref f))) (hf : PySem.W.isFn K (.ref f) = true) {Q : Value → Shared → Prop}
    (h : wpAny (model prog w) A.in1 (call (.ref f) [.ref x, b]) (fun v s' => ∃ k, v = .bool k ∧ Q (.bool (!k)) s') E s) : wpAny (model prog w) A (call (.builtin "object.__ne__") [.ref x, b]) Q E s :=
  wpAny_call (codeAny_call_builtin F.cmp_object.ne.plain F.cmpEntry_ne (PySem.W.check_slot F.cmpKind_ne F.cmpSplit_ne (I.type.andThen (PySem.W.looks_mroIn X hm)) (F.cmpArgs_ne _ _)
    (entry_objNe (A := A.in1) hu X I hs hf (wpAny_mono h (fun v s' hv => by
      obtain ⟨k, rfl, hq⟩ := hv
      exact ⟨k, rfl, hq⟩) fun _ _ e => e))))
theorem cmp_ne (hu : A.units + 1 < cLine) (X : K.In s.heap) (I : PySem.W.InstAt s.heap x ox C od) (hb : PySem.W.Looks (model prog w) s.heap (typeOf b) tb) (hn : PySem.W.notFirst K C tb = true) (hm : PySem.W.mroIn K C (.type "object") = some true)
    (h1 : PySem.W.findIn K (.ref C) "__ne__" = some (some (.builtin "object.__ne__"))) (hs : PySem.W.findIn K (.ref C) "__eq__" = some (some (.ref f))) (hf : PySem.W.isFn K (.ref f) = true) {Q : Value → Shared → Prop}
    (h : wpAny (model prog w) A.in1 (call (.ref f) [.ref x, b]) (fun v s' => ∃ k, v = .bool k ∧ Q (.bool (!k)) s') E s) : wpAny (model prog w) A (richCompare .NotEq (.ref x) b) Q E s := by
  have one : wpAny (model prog w) A (tryCompare (.ref x) (cmpInfo .NotEq).2.1 b) (fun r s' => ∃ v, r = some v ∧ Q v s') E s := by
    unfold tryCompare
    refine wpAny_bind (ifBound_objNe X I h1 (call_objNe hu X I hm hs hf (wpAny_mono h (fun v s' hv => ?_) fun _ _ e => e)))
    obtain ⟨k, rfl, hq⟩ := hv
    exact ⟨k, rfl, wpAny_pure ⟨_, rfl, hq⟩⟩
  unfold richCompare
  simp only [oneThing_ref]
  refine wpAny_holding (wpAny_bind (wpAny_cRoomFor (Nat.lt_of_succ_lt hu) ?_))
  refine wpAny_bind (I.type.here (wpAny_bind (hb.here ?_)))
  split
  · rename_i q
    have e : PySem.W.subIn K tb (.ref C) = some false := by
      rcases Bool.or_eq_true_iff.mp hn with e | e
      · rw [beq_iff_eq.mp e] at q; simp at q
      · exact beq_iff_eq.mp e
    refine wpAny_bind ((PySem.W.looks_subIn X e).here ?_)
    simp only [Bool.false_eq_true, if_false]
    refine wpAny_bind (wpAny_mono one (fun r s' z => ?_) fun _ _ e => e)
    obtain ⟨v, rfl, hq⟩ := z
    exact wpAny_pure hq
  · refine wpAny_bind (wpAny_pure ?_)
    simp only [Bool.false_eq_true, if_false]
    refine wpAny_bind (wpAny_mono one (fun r s' z => ?_) fun _ _ e => e)
    obtain ⟨v, rfl, hq⟩ := z
    exact wpAny_pure hq
end
theorem op_ownNe {X : Cx} {k : Nat} {C f : Addr} {fd : FuncData} {ps : List Str} {sp : Sp} (F : FnOk X.prog X.w X.K X.mg X.base (L2.CX X.prog X.w) k f fd ps sp) (hr : Room (k + 1) X.A) (hb : Binds X.K fd ps []) (hm : Meth X.K C "__eq__" f)
    (mr : PySem.W.mroIn X.K C (.type "object") = some true) (hne : PySem.W.findIn X.K (.ref C) "__ne__" = some (some (.builtin "object.__ne__"))) : OpR X (compareOp .NotEq) (rOwnEq X.K C sp true) := by
  intro pins s σ H x y v u Q I rx ry hq
  obtain ⟨a, dx, fs, T, rfl, ha, ty, nf, hsp⟩ := hq
  obtain rfl : v = Value.ref a := rx
  obtain ⟨mA, J, _⟩ := ins_get I.hok ha
  obtain ⟨od, J, _⟩ := J.look
  obtain ⟨P, kx, hP, _⟩ := kit_of I ry ty
  show wpAny (model X.prog X.w) X.A (richCompare .NotEq (.ref a) u) (EP X pins σ Q) X.xe s
  refine cmp_ne (tb := T) (by have := hr.units; omega) I.kIn J (kx.ty _ _ I.kIn hP) nf mr hne hm.at_ hm.fn ?_
  have room1 : Room k X.A.in1 := ⟨hr.hd, by have h := hr.dp; show X.A.depth + 3 * k + 5 < recursionLimit; omega, by have h := hr.un; show X.A.units + 1 + 16 * k + 200 < cLine; omega⟩
  have e0 : Env0 X.prog X.w X.K X.mg X.base X.A.in1 X.stack s H := by
    have e := I.env0
    exact ⟨e.frames, e.mod, e.bs, e.bsz, e.funs, e.frf, e.hok, e.bare⟩
  have hl := F.len _ _ _ _ hsp
  have r2 : Vals [V.ref a, y] [Value.ref a, u] := .cons rfl (.cons ry .nil)
  refine wpAny_call (codeAny_mono (F.run X.A.in1 X.stack s H ⟨[.ref a, u], []⟩ [.ref a, u] [.ref a, y] _ (fun _ _ _ => False) room1 e0 (by
    have := hb s [.ref a, u] I.kIn (by simpa using hl)
    simpa using this) r2 hsp) fun r s' hq => ?_)
  cases r with
  | error e => exact passAt (W := fun _ _ _ _ => False) takes0 σ pins H s e s' I hq
  | ok fl =>
    cases fl with
    | ret w =>
      obtain ⟨z, H', I', rz, k', ez, ex⟩ := I.after hq
      subst ez
      obtain rfl : w = Value.bool k' := rz
      exact ⟨k', rfl, .bl (!k'), H', I', rfl, by simpa using ex⟩
    | next => exact False.elim hq
    | brk => exact False.elim hq
    | cont => exact False.elim hq
/-! ### as meanings -/
def eqRes : R Ret → Option Bool
  | .ok (.sh (.bl k)) _ => some k
  | _ => none
def ownEq (c : String) (sem : FS) (a b : D) : Option Bool := match a with
  | .obj c' _ => if c' = c then (match b with
      | .obj c'' _ => if c'' = c then eqRes (sem [.sh a, .sh b]) else none
      | _ => eqRes (sem [.sh a, .sh b])) else none
  | _ => deq a b
def fEqO (c : String) (sem : FS) (a b : D) : Option Ret := (ownEq c sem a b).map fun k => .sh (.bl k)
def fNeO (c : String) (sem : FS) (a b : D) : Option Ret := (ownEq c sem a b).map fun k => .sh (.bl (!k))
theorem eqRes_ok {r : R Ret} {k : Bool} (h : eqRes r = some k) : ∃ o, r = .ok (.sh (.bl k)) o := by
  unfold eqRes at h
  split at h
  · cases h; exact ⟨_, rfl⟩
  · cases h
section
variable {I : CI} {W : WX}
theorem own_sp {sem : FS} {p : Pm} {G H : Hp} {σ : L2.St} {e : En} {x y : V} {a b : D} {k neg : Bool} {Q : VK} (S : Srp I.K I.mg p G σ H e) (ra : Rep I.K I.mg G x a) (rb : Rep I.K I.mg G y b) (hs : eqRes (sem [.sh a, .sh b]) = some k)
    (kk : ∀ G' H', Same G G' → Srp I.K I.mg p G' σ H' e → RetK I.K I.mg p G' σ H' e Q (.sh (.bl (k != neg)))) : spF I.K I.mg sem [x, y] H (fun v H' => ∃ k, v = .bl k ∧ Q (.bl (k != neg)) H') (fun _ _ _ => False) := by
  obtain ⟨o, hs⟩ := eqRes_ok hs
  have hc : callS sem [.d a, .d b] e = .ok (.sh (.bl k)) e := by
    have hn : argsOf e [.d a, .d b] = some [.sh a, .sh b] := rfl
    unfold callS
    rw [hn]
    dsimp only
    rw [if_pos (show (ixs [Ar.d a, Ar.d b]).Nodup from List.nodup_nil), hs]
    dsimp only
    cases o with
    | nil => rfl
    | cons _ o => cases o <;> rfl
  refine call_sim (W := fun _ _ _ _ => False) (as := [.d a, .d b]) S ⟨rfl, fun j v a' q1 q2 => ?_⟩ ?_
  · match j with
    | 0 => simp at q1 q2; subst q1 q2; exact ra
    | 1 => simp at q1 q2; subst q1 q2; exact rb
    | j + 2 => simp at q1
  · rw [hc]
    intro G' H' s' S' v rv
    cases rv
    exact ⟨k, rfl, kk G' H' s' S' _ (.bl _)⟩
theorem own_case {c : String} {C : Addr} {sem : FS} {neg : Bool} (hC : I.mg (Str.ofString c) = some (.ref C)) (isa : IsaC I.K C) {p : Pm} {G H : Hp} {σ : L2.St} {e : En} {x y : V} {a b : D} {k : Bool} {Q : VK} (S : Srp I.K I.mg p G σ H e) (ra : Rep I.K I.mg G x a) (rb : Rep I.K I.mg G y b)
    (h : ownEq c sem a b = some k) (kk : ∀ G' H', Same G G' → Srp I.K I.mg p G' σ H' e → RetK I.K I.mg p G' σ H' e Q (.sh (.bl (k != neg)))) :
    rOwnEq I.K C (spF I.K I.mg sem) neg x y H Q ∨ deq a b = some k := by
  unfold ownEq at h
  split at h
  · rename_i c' fs
    split at h
    · rename_i hc
      subst hc
      have ax : ∃ ad dx ws, x = .ref ad ∧ H ad = some (.ins C dx ws) := by
        cases ra with
        | @obj a C' dx ws _ _ vf e1 e2 _ _ _ =>
          rw [hC] at e2; cases e2
          exact ⟨_, _, _, rfl, S.sub _ _ e1⟩
      obtain ⟨ad, dx, ws, ex, hx⟩ := ax
      have fin : ∀ T, TyX I.K H y T → PySem.W.notFirst I.K C T = true → eqRes (sem [.sh (.obj c' fs), .sh b]) = some k → rOwnEq I.K C (spF I.K I.mg sem) neg x y H Q ∨ deq (.obj c' fs) b = some k := fun T t1 t2 t3 =>
        .inl ⟨ad, dx, ws, T, ex, hx, t1, t2, own_sp S ra rb t3 kk⟩
      have plain : ∀ T, b.ty = some T → eqRes (sem [.sh (.obj c' fs), .sh b]) = some k → rOwnEq I.K C (spF I.K I.mg sem) neg x y H Q ∨ deq (.obj c' fs) b = some k := fun T hT t3 =>
        fin _ (tyx_of rb S.sub hT) (by unfold PySem.W.notFirst; rw [sub_ty T (dty_mem hT)]; simp) t3
      cases b with
      | obj c2 fs2 =>
        dsimp only at h
        split at h
        · rename_i hc2
          subst hc2
          have ty : TyX I.K H y (.ref C) := by
            cases rb with
            | @obj a C' dx ws _ _ vf e1 e2 _ _ _ =>
              rw [hC] at e2; cases e2
              exact .base (.ins (S.sub _ _ e1) isa.cl isa.ha isa.hn isa.tk isa.mr)
          exact fin _ ty (by unfold PySem.W.notFirst; simp) h
        · cases h
      | non => exact plain _ rfl h
      | bl _ => exact plain _ rfl h
      | int _ => exact plain _ rfl h
      | str _ => exact plain _ rfl h
      | tup _ => exact plain _ rfl h
      | lst _ => exact plain _ rfl h
      | dct _ => exact plain _ rfl h
    · cases h
  · exact .inr h
theorem o_eqO {c : String} {ps : List Str} {sem : FS} {k : Nat} (F : DM I.P I.w I.K I.mg I.base k c "__eq__" ps sem) (hk : Nat.ble (k + 1) I.k = true) (isa : IsaF I.K I.mg c) : OpD I W (compareOp .Eq) (fEqO c sem) := by
  obtain ⟨C, f, fd, F1, F2, F3, F4, F5⟩ := F.ex
  obtain ⟨C', hC, isa⟩ := isa
  rw [F2] at hC; cases hC
  obtain ⟨r0, p1, p2⟩ := (o_eq : OpD I W (compareOp .Eq) fEq)
  refine ⟨fun x y H Q => rOwnEq I.K C (spF I.K I.mg sem) false x y H Q ∨ r0 x y H Q, fun X ok => ?_, fun p G σ H e x y a b res Q S ra rb hf kk => ?_⟩
  · have h0 := p1 X ok
    obtain ⟨P, ww, K, mg, base, N, sc, fn, kn⟩ := I
    obtain ⟨e1, e2, e3, e4, e5, e6, e7, e8, nd, calm, room, takes, passes⟩ := id ok
    dsimp only at *
    subst e1 e2 e3 e4 e5
    have h1 := op_ownEq F1 (room.mono (by have := Nat.le_of_ble_eq_true hk; omega)) F5 F4
    intro pins s σ H x y v u Q J rx ry hq
    rcases hq with hq | hq
    · exact h1 pins s σ H x y v u Q J rx ry hq
    · exact h0 pins s σ H x y v u Q J rx ry hq
  · unfold fEqO at hf
    cases hd : ownEq c sem a b with
    | none => rw [hd] at hf; cases hf
    | some k' =>
      rw [hd] at hf; cases hf
      rcases own_case (neg := false) F2 isa S ra rb hd (by simpa using kk) with h | h
      · exact .inl h
      · exact .inr (p2 p G σ H e x y a b _ Q S ra rb (by unfold fEq; rw [h]; rfl) kk)
theorem o_neO {c : String} {ps : List Str} {sem : FS} {k : Nat} (F : DM I.P I.w I.K I.mg I.base k c "__eq__" ps sem) (hk : Nat.ble (k + 1) I.k = true) (isa : IsaF I.K I.mg c) : OpD I W (compareOp .NotEq) (fNeO c sem) := by
  obtain ⟨C, f, fd, F1, F2, F3, F4, F5⟩ := F.ex
  obtain ⟨C', hC, isa⟩ := isa
  rw [F2] at hC; cases hC
  obtain ⟨r0, p1, p2⟩ := (o_ne : OpD I W (compareOp .NotEq) fNe)
  refine ⟨fun x y H Q => rOwnEq I.K C (spF I.K I.mg sem) true x y H Q ∨ r0 x y H Q, fun X ok => ?_, fun p G σ H e x y a b res Q S ra rb hf kk => ?_⟩
  · have h0 := p1 X ok
    obtain ⟨P, ww, K, mg, base, N, sc, fn, kn⟩ := I
    obtain ⟨e1, e2, e3, e4, e5, e6, e7, e8, nd, calm, room, takes, passes⟩ := id ok
    dsimp only at *
    subst e1 e2 e3 e4 e5
    have h1 := op_ownNe F1 (room.mono (Nat.le_of_ble_eq_true hk)) F5 F4 isa.mr isa.ne
    intro pins s σ H x y v u Q J rx ry hq
    rcases hq with hq | hq
    · exact h1 pins s σ H x y v u Q J rx ry hq
    · exact h0 pins s σ H x y v u Q J rx ry hq
  · unfold fNeO at hf
    cases hd : ownEq c sem a b with
    | none => rw [hd] at hf; cases hf
    | some k' =>
      rw [hd] at hf; cases hf
      rcases own_case (neg := true) F2 isa S ra rb hd (by simpa using kk) with h | h
      · exact .inl h
      · exact .inr (p2 p G σ H e x y a b _ Q S ra rb (by unfold fNe; rw [h]; rfl) kk)
end
end DL
end

section
namespace DL
open PySem PySem.Spec L2
open PyProof.Rows hiding St
section
variable {e : En} {X : XQ} {QD : D → En → Prop}
theorem wp_dget2 {mo me mf : M D} : wp (eDGet2 mo me mf e) QD X = wp (mo e) (fun d e1 => Wo (dctOf d) fun _ => wp (me e1) (fun y e2 => wp (mf e2) (fun z e3 => Wo (fDGet2 d y z) fun r => QD r e3) X) X) X := by
  have h3 : ∀ d y, (fun z e3 => wp (lift (fDGet2 d y z) e3) QD X) = fun z e3 => Wo (fDGet2 d y z) fun r => QD r e3 := fun d y => by funext z e3; exact wp_lift
  have h2 : ∀ d, (fun y e2 => wp (M.bnd mf (fun z => lift (fDGet2 d y z)) e2) QD X) = fun y e2 => wp (mf e2) (fun z e3 => Wo (fDGet2 d y z) fun r => QD r e3) X := fun d => by funext y e2; rw [wp_bnd, h3]
  have h1 : (fun d e1 => wp ((M.bnd (lift (dctOf d)) fun _ => M.bnd me fun y => M.bnd mf fun z => lift (fDGet2 d y z)) e1) QD X) = fun d e1 => Wo (dctOf d) fun _ => wp (me e1) (fun y e2 => wp (mf e2) (fun z e3 => Wo (fDGet2 d y z) fun r => QD r e3) X) X := by
    funext d e1; rw [wp_bnd, wp_lift]
    have h4 : (fun (_ : List (Key × D)) => wp ((M.bnd me fun y => M.bnd mf fun z => lift (fDGet2 d y z)) e1) QD X) = fun _ => wp (me e1) (fun y e2 => wp (mf e2) (fun z e3 => Wo (fDGet2 d y z) fun r => QD r e3) X) X := by funext _; rw [wp_bnd, h2]
    rw [h4]
  unfold eDGet2
  rw [wp_bnd, h1]
theorem dctOf_dct {l : List (Key × D)} : dctOf (.dct l) = some l := (rfl)
theorem fDGet2_str {l : List (Key × D)} {s : Str} {z : D} : fDGet2 (.dct l) (.str s) z = some ((dGet l (.inr s)).getD z) := (rfl)
theorem fDGet2_int {l : List (Key × D)} {s : Int} {z : D} : fDGet2 (.dct l) (.int s) z = some ((dGet l (.inl s)).getD z) := (rfl)
theorem wp_iEnQ {m : M (List Ar)} {QL : List D → En → Prop} : wp (iEnQ m e) QL X = wp (m e) (fun as e1 => Wo (dVals as) fun ds => Wo (enumQ ds) fun l => QL l e1) X := by
  unfold iEnQ; simp only [wp_bnd, wp_aVals]
  exact wp_ext fun as e1 => Wo_ext fun ds => wp_lift
theorem enumQ_l {l : List D} : enumQ [.lst l] = some (enumL l) := (rfl)
theorem enumQ_t {l : List D} : enumQ [.tup l] = some (enumL l) := (rfl)
theorem wp_sPar3O {ma mb : M D} {mc : M Ret} {i j l : Nat} {QF : Fl → En → Prop} : wp (sPar3O ma mb mc i j l e) QF X = wp (ma e) (fun u e1 => wp (mb e1) (fun v e2 => wp (mc e2) (fun r e3 => notO r = true ∧ wp (gOwn i (.sh u) e3) (fun fl e4 => Wfl fl (wp (sSeq (gOwn j (.sh v)) (gOwn l r) e4) QF X) (QF fl e4)) X) X) X) X := by
  have h3 : ∀ u v (r : Ret) e3, wp ((match r with | .ow (.o _ _) => fun _ => .no | r => sSeq (gOwn i (.sh u)) (sSeq (gOwn j (.sh v)) (gOwn l r)) : M Fl) e3) QF X = (notO r = true ∧ wp (gOwn i (.sh u) e3) (fun fl e4 => Wfl fl (wp (sSeq (gOwn j (.sh v)) (gOwn l r) e4) QF X) (QF fl e4)) X) := by
    intro u v r e3
    cases r with
    | sh d => simp only [wp_sSeq, notO, true_and]
    | ow x => cases x with
      | l l => simp only [wp_sSeq, notO, true_and]
      | o c fs => simp [notO, wp]
  unfold sPar3O
  rw [wp_bnd]
  refine wp_ext fun u e1 => ?_
  rw [wp_bnd]
  refine wp_ext fun v e2 => ?_
  rw [wp_bnd]
  refine wp_ext fun r e3 => ?_
  exact h3 u v r e3
theorem wp_rMethK {c m : String} {sem : FS} {n nk : Nat} {perm : List Nat} {mo : M D} {ma mk : M (List Ar)} {QR : Ret → En → Prop} : wp (rMethK c m sem n nk perm mo ma mk e) QR X =
    wp (mo e) (fun d e1 => Wo (selfOf c m d) fun d => wp (ma e1) (fun as e2 => wp (mk e2) (fun ks e3 => (as.length = n ∧ ks.length = nk) ∧ wp (callS sem (permL (.d .non) perm (.d d :: (as ++ ks))) e3) QR X) X) X) X := by
  unfold rMethK; rw [wp_bnd]
  refine wp_ext fun d e1 => ?_
  rw [wp_bnd, wp_lift]
  refine Wo_ext fun d => ?_
  rw [wp_bnd]
  refine wp_ext fun as e2 => ?_
  rw [wp_bnd]
  refine wp_ext fun ks e3 => ?_
  exact wp_iteN
theorem wp_rMakeK {c : String} {sem : FS} {n nk : Nat} {perm : List Nat} {ma mk : M (List Ar)} {QR : Ret → En → Prop} : wp (rMakeK c sem n nk perm ma mk e) QR X =
    wp (ma e) (fun as e1 => wp (mk e1) (fun ks e2 => (as.length = n ∧ ks.length = nk) ∧ wp (callS sem (permL (.d .non) perm (.at e2.length :: (as ++ ks))) (e2 ++ [.ow (.o c [])])) (fun r e3 => nonR r = true ∧ Wo (e3[e2.length]?) fun s => Wo (owS s) fun x => QR (.ow x) (e3.take e2.length)) (fun c' fs e3 => X c' fs (e3.take e2.length))) X) X := by
  unfold rMakeK; rw [wp_bnd]
  refine wp_ext fun as e1 => ?_
  rw [wp_bnd]
  refine wp_ext fun ks e2 => ?_
  rw [wp_iteN]
  congr 1
  cases callS sem (permL (.d .non) perm (.at e2.length :: (as ++ ks))) (e2 ++ [.ow (.o c [])]) with
  | no => with_unfolding_all rfl
  | ex c fs e2 => with_unfolding_all rfl
  | ok r e3 =>
    with_unfolding_all show wp (endM e2.length (.ok r e3)) QR X = (nonR r = true ∧ _)
    cases r with
    | ow x => simp [endM, nonR, wp]
    | sh d =>
      cases d with
      | non =>
        unfold endM
        dsimp only [nonR]
        cases e3[e2.length]? with
        | none => simp [wp, Wo]
        | some s => cases s <;> simp [wp, Wo, owS]
      | _ => simp [endM, nonR, wp]
theorem fEqO_i {c : String} {sem : FS} {k : Int} {b : D} : fEqO c sem (.int k) b = fEq (.int k) b := (rfl)
theorem fEqO_o {c : String} {sem : FS} {fs gs : List (String × D)} : fEqO c sem (.obj c fs) (.obj c gs) = (eqRes (sem [.sh (.obj c fs), .sh (.obj c gs)])).map fun k => .sh (.bl k) := by
  unfold fEqO ownEq; dsimp only; rw [if_pos rfl, if_pos rfl]
theorem fEqO_ot {c : String} {sem : FS} {fs : List (String × D)} {l : List D} : fEqO c sem (.obj c fs) (.tup l) = (eqRes (sem [.sh (.obj c fs), .sh (.tup l)])).map fun k => .sh (.bl k) := by
  unfold fEqO ownEq; dsimp only; rw [if_pos rfl]
theorem fEqO_oi {c : String} {sem : FS} {fs : List (String × D)} {l : Int} : fEqO c sem (.obj c fs) (.int l) = (eqRes (sem [.sh (.obj c fs), .sh (.int l)])).map fun k => .sh (.bl k) := by
  unfold fEqO ownEq; dsimp only; rw [if_pos rfl]
theorem fNeO_o {c : String} {sem : FS} {fs gs : List (String × D)} : fNeO c sem (.obj c fs) (.obj c gs) = (eqRes (sem [.sh (.obj c fs), .sh (.obj c gs)])).map fun k => .sh (.bl (!k)) := by
  unfold fNeO ownEq; dsimp only; rw [if_pos rfl, if_pos rfl]
theorem eqRes_wp {r : R Ret} {k : Bool} (h : wp r (fun r _ => r = .sh (.bl k)) X0) : eqRes r = some k := by
  cases r with
  | ok a e => rw [wp_ok] at h; subst h; rfl
  | ex c fs e => rw [wp_ex] at h; exact h.elim
  | no => rw [wp_no] at h; exact h.elim
end
end DL
end

local macro_rules | `(tactic| simp_arith only [$xs,*]) => `(tactic| simp only [seval, DL.wp_ok, DL.wp_ex, DL.wp_no, DL.Wo_some, DL.Wo_none, DL.Wo_map, DL.Wo_bind, DL.Wo_ite, DL.Wif_t, DL.Wif_f, DL.wp_ret, DL.wp_bnd, DL.wp_lift, DL.wp_bif, DL.wp_iteN, DL.wp_iteR, DL.wp_eVarS, DL.rdS_sh, DL.rdS_ow, DL.ct_l, DL.ct_o, DL.wp_eC, DL.nio_own, DL.nio_no, DL.nio_sh, DL.nio_ow, DL.wp_gSet, DL.slR_sh, DL.slR_ow, DL.wp_gOwn, DL.wp_rBin, DL.wp_tCmp, DL.wp_mD, DL.wp_mR, DL.retd_sh, DL.retd_ow, DL.retd_owo, DL.blOf_b, DL.wp_rChain, DL.wp_tTru, DL.wp_tAndM, DL.wp_tOrM, DL.wp_tNotM, DL.wp_tIfM, DL.wp_eAnd, DL.wp_eOr, DL.wp_eNot, DL.wp_rIf, DL.asInt_i, DL.wp_eUn, DL.wp_aNil, DL.wp_aCons, DL.wp_aD, DL.isOwn_ow, DL.isOwn_io, DL.wp_eAt, DL.wp_aVals, DL.dVals_nil, DL.dVals_cons, DL.wp_eTup, DL.wp_rLst, DL.wp_rFn, DL.wp_rOne, DL.wp_eBits, DL.wp_rRev, DL.wp_rSortSet, DL.wp_eLenSet, DL.wp_aStar, DL.wp_eIx, DL.look_sh, DL.look_ow, DL.look_io, DL.look_no, DL.wp_peek, DL.wp_eIxV, DL.wp_oSome, DL.wp_rSl, DL.wp_rEqV, DL.wp_rInV, DL.wp_eLenV, DL.ownOf_ow, DL.ownOf_io, DL.put_ow, DL.put_io, DL.wp_putL, DL.wp_eMt, DL.wp_gIx, DL.wp_lAt, DL.asSh_sh, DL.wp_sAugX, DL.Wfl_nx, DL.Wfl_ct, DL.Wfl_bk, DL.Wfl_rt, DL.Wlp_nx, DL.Wlp_ct, DL.Wlp_bk, DL.Wlp_rt, DL.wp_sSeq, DL.wp_sNil, DL.wp_sBreak, DL.wp_sCont, DL.wp_sNever, DL.wp_sRet, DL.retS_ow, DL.retS_sh, DL.wp_sRetV, DL.wp_sIf, DL.wp_sDrop, DL.wp_sAsg, DL.wp_sOwn, DL.shOf_sh, DL.wp_sAug, DL.two_, DL.three_, DL.wp_sPar, DL.wp_sPar3, DL.notO_sh, DL.notO_l, DL.wp_sParO, DL.int1_, DL.int2_, DL.asLst_, DL.asTup_, DL.seqL_l, DL.seqL_t, DL.wp_iRng1, DL.wp_iRng2, DL.wp_iSeq, DL.wp_iZip, DL.wp_iEnum, DL.wp_iLst, DL.wp_iTup, DL.zipD_l, DL.zipD_t, DL.enumD_l, DL.wp_gNil, DL.wp_gCons, DL.wp_gSeq, DL.wp_gTup, DL.wp_gLst, DL.wp_sFor, DL.wp_loop0, DL.wp_turnC, DL.wp_rComp, DL.wp_call, DL.wp_rCall, DL.wp_rCallK, DL.argsOf_nil, DL.argsOf_d, DL.ioOf_ow, DL.ioOf_io, DL.argsOf_at, DL.ixs_nil, DL.ixs_d, DL.ixs_at, DL.putBack_nil, DL.putBack_d, DL.putBack_a, DL.endR_rt, DL.endR_nx, DL.wp_sFun, DL.asNum_, DL.wp_rLR1, DL.wp_eTR1, DL.wp_rLR2, DL.wp_eTR2, DL.wp_eFld, DL.wp_eFldV, DL.ownOb_ow, DL.ownOb_io, DL.wp_sFldS, DL.wp_rMeth, DL.add_i, DL.add_l, DL.add_t, DL.int0_i, DL.cmp_i, DL.int2_i, DL.mul_i, DL.mul_l, DL.feq_, DL.fne_, DL.fis_non, DL.fisn_non, DL.fis_bl, DL.non_, DL.non_i, DL.non_b, DL.non_t, DL.non_l, DL.deqI, DL.deqB, DL.len_l, DL.len_t, DL.abs_i, DL.fint_i, DL.fint_b, DL.list_l, DL.list_t, DL.tup_l, DL.tup_t, DL.f1_, DL.ix_l, DL.ix_t, DL.sl_l, DL.sl_t, DL.in_l, DL.in_t, DL.nin_l, DL.nin_t, DL.rev_l, DL.rev_t, DL.append_, DL.extend_, DL.lset_, DL.tru_i, DL.tru_b, DL.fsum_, DL.fall_, DL.fany_, DL.max2_, DL.min2_, DL.bits_i, DL.gq0, DL.gqs, DL.st0, DL.sts, DL.gd0, DL.gds, DL.rp0, DL.rps, DL.ap0, DL.aps, DL.tk0, DL.tks, DL.tkn, DL.ln0, DL.lns, DL.bd_some, DL.bd_none, DL.mp_some, DL.mp_none, DL.iss_some, DL.wipe_nil, DL.wipe_cons, DL.back_nil, DL.back_cons, DL.lim_, DL.atN_, DL.ixN_, DL.atL0, DL.ixL0, DL.atL1, DL.ixL1, DL.atL2, DL.ixL2, DL.atL3, DL.ixL3, DL.atL4, DL.ixL4, DL.atL5, DL.ixL5, DL.atL6, DL.ixL6, DL.atL7, DL.ixL7, DL.atL8, DL.ixL8, DL.atL9, DL.ixL9, DL.atL10, DL.ixL10, DL.atL11, DL.ixL11, DL.atL12, DL.ixL12, DL.atL13, DL.ixL13, DL.atL14, DL.ixL14, DL.atL15, DL.ixL15, DL.tru_n, DL.tru_l, DL.tru_t, DL.y_nodup, DL.y_ta, DL.y_at, DL.y_es, DL.y_ba, DL.y_de, DL.y_it, DL.y_if, DL.y_ot, DL.y_to, DL.y_tl0, DL.y_tl1, DL.nodup1, DL.Wif_nott, DL.sh1_, DL.shn_, DL.or_, DL.or0_, DL.and_, DL.andn_, DL.bit_, DL.toNat_, DL.sh1b_, DL.shnb_, DL.bitb_, DL.bit_t, DL.bit_1, DL.bit_0, DL.natAbs_, DL.natAbs1_, DL.nn_, DL.toNat0_, DL.lelit_, DL.lt_, DL.le_, DL.eq_, DL.eq0_, DL.zadd_, DL.subn_, DL.decF_, DL.decT_, DL.ne_self, DL.neI_, DL.zne1_, DL.bft_, DL.b_tt, DL.b_ff, DL.b_tf, DL.b_ft, DL.n_t, DL.n_f, DL.own_no, DL.own_sh, DL.natsD_get, DL.natsD_ln, DL.natsD_set, DL.natsD_app, DL.natsD_app1, DL.muln_, DL.addn_, DL.z_isInt_non, DL.z_isBl_non, DL.z_isStr_non, DL.z_isTup_non, DL.z_isLst_non, DL.z_isInt_bl, DL.z_isBl_bl, DL.z_isStr_bl, DL.z_isTup_bl, DL.z_isLst_bl, DL.z_isInt_int, DL.z_isBl_int, DL.z_isStr_int, DL.z_isTup_int, DL.z_isLst_int, DL.z_isInt_str, DL.z_isBl_str, DL.z_isStr_str, DL.z_isTup_str, DL.z_isLst_str, DL.z_non_str, DL.z_isInt_tup, DL.z_isBl_tup, DL.z_isStr_tup, DL.z_isTup_tup, DL.z_isLst_tup, DL.z_isInt_lst, DL.z_isBl_lst, DL.z_isStr_lst, DL.z_isTup_lst, DL.z_isLst_lst, DL.z_isInt_dct, DL.z_isBl_dct, DL.z_isStr_dct, DL.z_isTup_dct, DL.z_isLst_dct, DL.z_non_dct, DL.z_len_str, DL.z_ix_str, DL.z_sl_str, DL.wp_sRaise, DL.wp_sTry, DL.wp_sSuL, DL.wp_sSuT, DL.itemsD_nil, DL.itemsD_l, DL.itemsD_r, DL.permL_n, DL.permL_c, DL.owS_ow, DL.nonR_, DL.wp_rMake, DL.lstOf_, DL.wp_rCallF, DL.isa_obj, DL.isa_non, DL.isa_bl, DL.isa_int, DL.isa_str, DL.isa_tup, DL.isa_lst, DL.isa_dct, DL.wp_sTryM, DL.pick_nil, DL.pick_cons, DL.noOw_ow, DL.noOw_io, DL.noOw_sh, DL.noOw_no, DL.hids_nil, DL.hids_cons, DL.pure_bl, DL.pure_int, DL.pure_non, DL.pure_str, DL.index_, DL.wp_eRdL, DL.lstIn_, DL.lstOfD_, DL.wp_dget2, DL.dctOf_dct, DL.fDGet2_str, DL.fDGet2_int, DL.wp_iEnQ, DL.enumQ_l, DL.enumQ_t, DL.wp_sPar3O, DL.wp_rMethK, DL.wp_rMakeK, DL.fEqO_i, DL.fEqO_o, DL.fEqO_ot, DL.fEqO_oi, DL.fNeO_o, $xs,*])
local macro_rules | `(tactic| simp_arith only [$xs,*] at $h:ident) => `(tactic| simp only [seval, DL.wp_ok, DL.wp_ex, DL.wp_no, DL.Wo_some, DL.Wo_none, DL.Wo_map, DL.Wo_bind, DL.Wo_ite, DL.Wif_t, DL.Wif_f, DL.wp_ret, DL.wp_bnd, DL.wp_lift, DL.wp_bif, DL.wp_iteN, DL.wp_iteR, DL.wp_eVarS, DL.rdS_sh, DL.rdS_ow, DL.ct_l, DL.ct_o, DL.wp_eC, DL.nio_own, DL.nio_no, DL.nio_sh, DL.nio_ow, DL.wp_gSet, DL.slR_sh, DL.slR_ow, DL.wp_gOwn, DL.wp_rBin, DL.wp_tCmp, DL.wp_mD, DL.wp_mR, DL.retd_sh, DL.retd_ow, DL.retd_owo, DL.blOf_b, DL.wp_rChain, DL.wp_tTru, DL.wp_tAndM, DL.wp_tOrM, DL.wp_tNotM, DL.wp_tIfM, DL.wp_eAnd, DL.wp_eOr, DL.wp_eNot, DL.wp_rIf, DL.asInt_i, DL.wp_eUn, DL.wp_aNil, DL.wp_aCons, DL.wp_aD, DL.isOwn_ow, DL.isOwn_io, DL.wp_eAt, DL.wp_aVals, DL.dVals_nil, DL.dVals_cons, DL.wp_eTup, DL.wp_rLst, DL.wp_rFn, DL.wp_rOne, DL.wp_eBits, DL.wp_rRev, DL.wp_rSortSet, DL.wp_eLenSet, DL.wp_aStar, DL.wp_eIx, DL.look_sh, DL.look_ow, DL.look_io, DL.look_no, DL.wp_peek, DL.wp_eIxV, DL.wp_oSome, DL.wp_rSl, DL.wp_rEqV, DL.wp_rInV, DL.wp_eLenV, DL.ownOf_ow, DL.ownOf_io, DL.put_ow, DL.put_io, DL.wp_putL, DL.wp_eMt, DL.wp_gIx, DL.wp_lAt, DL.asSh_sh, DL.wp_sAugX, DL.Wfl_nx, DL.Wfl_ct, DL.Wfl_bk, DL.Wfl_rt, DL.Wlp_nx, DL.Wlp_ct, DL.Wlp_bk, DL.Wlp_rt, DL.wp_sSeq, DL.wp_sNil, DL.wp_sBreak, DL.wp_sCont, DL.wp_sNever, DL.wp_sRet, DL.retS_ow, DL.retS_sh, DL.wp_sRetV, DL.wp_sIf, DL.wp_sDrop, DL.wp_sAsg, DL.wp_sOwn, DL.shOf_sh, DL.wp_sAug, DL.two_, DL.three_, DL.wp_sPar, DL.wp_sPar3, DL.notO_sh, DL.notO_l, DL.wp_sParO, DL.int1_, DL.int2_, DL.asLst_, DL.asTup_, DL.seqL_l, DL.seqL_t, DL.wp_iRng1, DL.wp_iRng2, DL.wp_iSeq, DL.wp_iZip, DL.wp_iEnum, DL.wp_iLst, DL.wp_iTup, DL.zipD_l, DL.zipD_t, DL.enumD_l, DL.wp_gNil, DL.wp_gCons, DL.wp_gSeq, DL.wp_gTup, DL.wp_gLst, DL.wp_sFor, DL.wp_loop0, DL.wp_turnC, DL.wp_rComp, DL.wp_call, DL.wp_rCall, DL.wp_rCallK, DL.argsOf_nil, DL.argsOf_d, DL.ioOf_ow, DL.ioOf_io, DL.argsOf_at, DL.ixs_nil, DL.ixs_d, DL.ixs_at, DL.putBack_nil, DL.putBack_d, DL.putBack_a, DL.endR_rt, DL.endR_nx, DL.wp_sFun, DL.asNum_, DL.wp_rLR1, DL.wp_eTR1, DL.wp_rLR2, DL.wp_eTR2, DL.wp_eFld, DL.wp_eFldV, DL.ownOb_ow, DL.ownOb_io, DL.wp_sFldS, DL.wp_rMeth, DL.add_i, DL.add_l, DL.add_t, DL.int0_i, DL.cmp_i, DL.int2_i, DL.mul_i, DL.mul_l, DL.feq_, DL.fne_, DL.fis_non, DL.fisn_non, DL.fis_bl, DL.non_, DL.non_i, DL.non_b, DL.non_t, DL.non_l, DL.deqI, DL.deqB, DL.len_l, DL.len_t, DL.abs_i, DL.fint_i, DL.fint_b, DL.list_l, DL.list_t, DL.tup_l, DL.tup_t, DL.f1_, DL.ix_l, DL.ix_t, DL.sl_l, DL.sl_t, DL.in_l, DL.in_t, DL.nin_l, DL.nin_t, DL.rev_l, DL.rev_t, DL.append_, DL.extend_, DL.lset_, DL.tru_i, DL.tru_b, DL.fsum_, DL.fall_, DL.fany_, DL.max2_, DL.min2_, DL.bits_i, DL.gq0, DL.gqs, DL.st0, DL.sts, DL.gd0, DL.gds, DL.rp0, DL.rps, DL.ap0, DL.aps, DL.tk0, DL.tks, DL.tkn, DL.ln0, DL.lns, DL.bd_some, DL.bd_none, DL.mp_some, DL.mp_none, DL.iss_some, DL.wipe_nil, DL.wipe_cons, DL.back_nil, DL.back_cons, DL.lim_, DL.atN_, DL.ixN_, DL.atL0, DL.ixL0, DL.atL1, DL.ixL1, DL.atL2, DL.ixL2, DL.atL3, DL.ixL3, DL.atL4, DL.ixL4, DL.atL5, DL.ixL5, DL.atL6, DL.ixL6, DL.atL7, DL.ixL7, DL.atL8, DL.ixL8, DL.atL9, DL.ixL9, DL.atL10, DL.ixL10, DL.atL11, DL.ixL11, DL.atL12, DL.ixL12, DL.atL13, DL.ixL13, DL.atL14, DL.ixL14, DL.atL15, DL.ixL15, DL.tru_n, DL.tru_l, DL.tru_t, DL.y_nodup, DL.y_ta, DL.y_at, DL.y_es, DL.y_ba, DL.y_de, DL.y_it, DL.y_if, DL.y_ot, DL.y_to, DL.y_tl0, DL.y_tl1, DL.nodup1, DL.Wif_nott, DL.sh1_, DL.shn_, DL.or_, DL.or0_, DL.and_, DL.andn_, DL.bit_, DL.toNat_, DL.sh1b_, DL.shnb_, DL.bitb_, DL.bit_t, DL.bit_1, DL.bit_0, DL.natAbs_, DL.natAbs1_, DL.nn_, DL.toNat0_, DL.lelit_, DL.lt_, DL.le_, DL.eq_, DL.eq0_, DL.zadd_, DL.subn_, DL.decF_, DL.decT_, DL.ne_self, DL.neI_, DL.zne1_, DL.bft_, DL.b_tt, DL.b_ff, DL.b_tf, DL.b_ft, DL.n_t, DL.n_f, DL.own_no, DL.own_sh, DL.natsD_get, DL.natsD_ln, DL.natsD_set, DL.natsD_app, DL.natsD_app1, DL.muln_, DL.addn_, DL.z_isInt_non, DL.z_isBl_non, DL.z_isStr_non, DL.z_isTup_non, DL.z_isLst_non, DL.z_isInt_bl, DL.z_isBl_bl, DL.z_isStr_bl, DL.z_isTup_bl, DL.z_isLst_bl, DL.z_isInt_int, DL.z_isBl_int, DL.z_isStr_int, DL.z_isTup_int, DL.z_isLst_int, DL.z_isInt_str, DL.z_isBl_str, DL.z_isStr_str, DL.z_isTup_str, DL.z_isLst_str, DL.z_non_str, DL.z_isInt_tup, DL.z_isBl_tup, DL.z_isStr_tup, DL.z_isTup_tup, DL.z_isLst_tup, DL.z_isInt_lst, DL.z_isBl_lst, DL.z_isStr_lst, DL.z_isTup_lst, DL.z_isLst_lst, DL.z_isInt_dct, DL.z_isBl_dct, DL.z_isStr_dct, DL.z_isTup_dct, DL.z_isLst_dct, DL.z_non_dct, DL.z_len_str, DL.z_ix_str, DL.z_sl_str, DL.wp_sRaise, DL.wp_sTry, DL.wp_sSuL, DL.wp_sSuT, DL.itemsD_nil, DL.itemsD_l, DL.itemsD_r, DL.permL_n, DL.permL_c, DL.owS_ow, DL.nonR_, DL.wp_rMake, DL.lstOf_, DL.wp_rCallF, DL.isa_obj, DL.isa_non, DL.isa_bl, DL.isa_int, DL.isa_str, DL.isa_tup, DL.isa_lst, DL.isa_dct, DL.wp_sTryM, DL.pick_nil, DL.pick_cons, DL.noOw_ow, DL.noOw_io, DL.noOw_sh, DL.noOw_no, DL.hids_nil, DL.hids_cons, DL.pure_bl, DL.pure_int, DL.pure_non, DL.pure_str, DL.index_, DL.wp_eRdL, DL.lstIn_, DL.lstOfD_, DL.wp_dget2, DL.dctOf_dct, DL.fDGet2_str, DL.fDGet2_int, DL.wp_iEnQ, DL.enumQ_l, DL.enumQ_t, DL.wp_sPar3O, DL.wp_rMethK, DL.wp_rMakeK, DL.fEqO_i, DL.fEqO_o, DL.fEqO_ot, DL.fEqO_oi, DL.fNeO_o, $xs,*] at $h:ident)

section
namespace DL
open PySem PySem.Spec L2
open PyProof.Rows hiding St
open AutoSeq1 (wpAny_loadPart')
/-! ### a tuple times 1: the tuple itself -/
theorem tuple_mul1 (l : Addr) (items : Array Value) (n : Nat) (sl : Array (Option Value)) (dd : Option Addr) (u : PySem.Tok) :
    Meets (Builtin.«tuple.__mul__» ⟨[.ref l, .int 1 u], []⟩) (fun _ R s => s.heap.get? l = some { cls := .type "tuple", dict := dd, data := .seq items n, slots := sl } ∧ R (.ok (.ret (Value.ref l))) s) :=
  .of_wp fun prog w A R s h => by
    obtain ⟨hp, g, d, tk, os⟩ := s
    obtain ⟨hl, h⟩ := h
    have f1 := AutoSeq1.idx_int
    have c0 : (decide ((1 : Int) < -(2 ^ 63)) || decide ((1 : Int) ≥ 2 ^ 63)) = false := by decide
    have c1 : (items.isEmpty || (1 : Int) == 1) = true := by simp
    wp_walk using wpAny_loadPart' hl
    repeat (first
      | (refine wpAny_ite_false (decide_eq_false (by rw [c0]; exact Bool.false_ne_true)) ?_; wp_walk using wpAny_loadPart' hl)
      | (refine wpAny_ite_true (decide_eq_true c1) ?_; wp_walk using wpAny_loadPart' hl))
    exact ⟨_, rfl, h⟩
def rRepT1 (K : PySem.W.Frag) : R2 := fun x y H Q => ∃ l xs, x = .ref l ∧ y = .int 1 ∧ SqT K H l xs ∧ Q (.ref l) H
theorem op_repT1 {X : Cx} : OpR X (binaryOp .Mult) (rRepT1 X.K) := by
  intro pins s σ H x y v u Q I rx ry h
  obtain ⟨l, xs, rfl, rfl, hT, q⟩ := h
  cases rx
  obtain ⟨t, rfl⟩ := ry
  obtain ⟨its, r, ⟨⟨cls, dd, data, sl⟩, ho, hc, n, hd⟩, hs⟩ := I.tuple hT
  simp only at hc hd
  subst hc hd
  refine wpAny_binaryOp_repeat_ref (T := "tuple") (U := "int") (by decide) ⟨_, ho, rfl⟩ (fun s' => typeIs_int s' 1 t) noFill_tuple_mul F.fills_int_mul F.slot_int_rmul repeat_tuple F.slot_int_index.lookup
    (call_meets F.slot_int_rmul (typeIs_int s 1 t) F.entry_int_rmul (F.args_int_rmul_2 _ _) (int_rmul_tuple 1 t l its.toArray n dd sl)
      ⟨ho, rfl, ⟨_, ho, rfl⟩, call_meets F.slot_tuple_mul ⟨_, ho, rfl⟩ F.entry_tuple_mul (F.args_tuple_mul_2 _ _) (tuple_mul1 l its.toArray n sl dd t) ⟨ho, ?_⟩⟩)
  exact ⟨.ref l, H, I, rfl, q⟩
def fMul1 (a b : D) : Option Ret := match a, b with
  | .tup l, .int k => if k = 1 then some (.sh (.tup l)) else fMul (.tup l) (.int k)
  | a, b => fMul a b
section
variable {I : CI} {W : WX}
theorem o_mul1 : OpD I W (binaryOp .Mult) fMul1 := by
  obtain ⟨r0, p1, p2⟩ := (o_mul : OpD I W (binaryOp .Mult) fMul)
  refine ⟨fun x y H Q => rRepT1 I.K x y H Q ∨ r0 x y H Q, fun X ok => ?_, fun p G σ H e x y a b res Q S ra rb hf kk => ?_⟩
  · have h0 := p1 X ok
    have h1 := op_repT1 (X := X)
    rw [ok.hK] at h1
    intro pins s σ H x y v u Q J rx ry hq
    rcases hq with hq | hq
    · exact h1 pins s σ H x y v u Q J rx ry hq
    · exact h0 pins s σ H x y v u Q J rx ry hq
  · unfold fMul1 at hf
    split at hf
    · rename_i l k
      split at hf
      · rename_i hk
        subst hk
        cases hf
        have := rep_int rb; subst this
        obtain ⟨q, vs, rfl, g1, g2⟩ := ra.ref_tup
        exact .inl ⟨q, vs, rfl, rfl, Same.seqT S.sub g1, kk G H (Same.refl _) S _ ra⟩
      · exact .inr (p2 p G σ H e x y _ _ res Q S ra rb hf kk)
    · exact .inr (p2 p G σ H e x y _ _ res Q S ra rb hf kk)
end
end DL
end

section
namespace G
open DL PySem PySem.Spec L2
open PyProof.Rows hiding St
set_option maxHeartbeats 0
noncomputable section
def topS (i : Nat) : Stmt := PySem.Challenge.pw_orderbench_k45_contexts.main.body.getD i (.Pass ⟨0, 0, 0, 0⟩)

def clsT : List CD := [⟨"Context", ["things", "marks", "rows", "row_masks", "mark_masks"]⟩]
/-- what the module's head says -/
structure Tab (K : PySem.W.Frag) (mg : MG) : Prop where
  bs : Bs mg
  cl : ClT K mg clsT
  g_MOST : ∃ t, mg "MOST" = some (.int (9) t)
  b_OrderError : BaseF K mg "OrderError"
  e_InvalidRows : EcF K mg "InvalidRows" "given" "InvalidRows.__init__" (clsM (topS 5) 0)
  e_InvalidSize : EcF K mg "InvalidSize" "given" "InvalidSize.__init__" (clsM (topS 3) 0)
  e_InvalidSubset : EcF K mg "InvalidSubset" "given" "InvalidSubset.__init__" (clsM (topS 4) 0)
  is_Context : IsaF K mg "Context"
  x_InvalidRows_InvalidSize : ExmF K mg "InvalidRows" "InvalidSize" false
  f_is_integer : FD K mg "is_integer" (topS 7)
  f_is_between : FD K mg "is_between" (topS 8)
  f_is_tuple_of : FD K mg "is_tuple_of" (topS 9)
  f_is_rising : FD K mg "is_rising" (topS 10)
  f_is_subset : FD K mg "is_subset" (topS 12)
  f_mask_of : FD K mg "mask_of" (topS 13)
  f_points_in : FD K mg "points_in" (topS 15)
  f_subset_of : FD K mg "subset_of" (topS 14)
  f_shared_mask : FD K mg "shared_mask" (topS 18)
  f__law_cell : FD K mg "_law_cell" (topS 21)
  f__law_box : FD K mg "_law_box" (topS 22)
  f__law_take : FD K mg "_law_take" (topS 23)
  f__law_same : FD K mg "_law_same" (topS 24)
  f__law_set : FD K mg "_law_set" (topS 25)
  f__law_mixed : FD K mg "_law_mixed" (topS 26)
  f__law_context : FD K mg "_law_context" (topS 27)
  f__law_marks : FD K mg "_law_marks" (topS 28)
  f__law_things : FD K mg "_law_things" (topS 29)
  f_Context___init__ : FI K mg "Context" "Context.__init__" (clsM (topS 19) 0)
  f__law_made : FD K mg "_law_made" (topS 30)
  f__law_caught : FD K mg "_law_caught" (topS 31)
  f_Context_things_at : FM K mg "Context" "things_at" "Context.things_at" (clsM (topS 19) 3)
  f_Context_common_things : FM K mg "Context" "common_things" "Context.common_things" (clsM (topS 19) 6)
  f_Context_marks_at : FM K mg "Context" "marks_at" "Context.marks_at" (clsM (topS 19) 2)
  f_Context_common_marks : FM K mg "Context" "common_marks" "Context.common_marks" (clsM (topS 19) 5)
  f__law_asked : FD K mg "_law_asked" (topS 32)
  f__law_common_right : FD K mg "_law_common_right" (topS 33)
  f__law_sets_refused_right : FD K mg "_law_sets_refused_right" (topS 34)
  f_Context___eq__ : FM K mg "Context" "__eq__" "Context.__eq__" (clsM (topS 19) 1)
  f__law_equals_right : FD K mg "_law_equals_right" (topS 35)
  f__law_refused_right : FD K mg "_law_refused_right" (topS 36)
  f__law_right : FD K mg "_law_right" (topS 37)
  f_law : FD K mg "law" (topS 38)
variable {P : Program} {w : World} {K : PySem.W.Frag} {mg : MG} {base : Heap}
theorem ec_InvalidRows (T : Tab K mg) : EcD P w K mg base "InvalidRows" "given" := ecd_of (g := "given") T.b_OrderError T.e_InvalidRows (by decide +kernel) (by decide +kernel) (by decide +kernel) (by decide +kernel) rfl (fun _ => rfl) (fun _ _ _ _ _ _ us h => match us, h with | [u0, u1], _ => rfl)
theorem ec_InvalidSize (T : Tab K mg) : EcD P w K mg base "InvalidSize" "given" := ecd_of (g := "given") T.b_OrderError T.e_InvalidSize (by decide +kernel) (by decide +kernel) (by decide +kernel) (by decide +kernel) rfl (fun _ => rfl) (fun _ _ _ _ _ _ us h => match us, h with | [u0, u1], _ => rfl)
theorem ec_InvalidSubset (T : Tab K mg) : EcD P w K mg base "InvalidSubset" "given" := ecd_of (g := "given") T.b_OrderError T.e_InvalidSubset (by decide +kernel) (by decide +kernel) (by decide +kernel) (by decide +kernel) rfl (fun _ => rfl) (fun _ _ _ _ _ _ us h => match us, h with | [u0, u1], _ => rfl)

/-! is_integer: names value=0; own:  -/
def b_is_integer : M Fl :=
  (sRet (mR (eAnd (mD (rOne (eVar 0) (isiD "int"))) (eNot (mD (rOne (eVar 0) (isiD "bool")))))))
def s_is_integer : FS := sFun 1 1 b_is_integer
theorem df_is_integer (T : Tab K mg) : DF P w K mg base 1 "is_integer" (topS 7) ["value"] s_is_integer := df_of (N := ["value"]) T.f_is_integer (by decide +kernel) rfl (fun _ _ _ _ _ _ us h => match us, h with | [u0], _ => rfl) (fun W =>
  (dss_one (ds_ret (dr_e (de_and (de_r (c_isi_int T.bs rfl rfl (de_var (vk rfl)) rfl)) (de_one (de_not (de_r (c_isi_bool T.bs rfl rfl (de_var (vk rfl)) rfl)))))))))
/-! is_between: names value=0 least=1 most=2; own:  -/
def b_is_between : M Fl :=
  (sRet (mR (eAnd (mD (rCall s_is_integer (aCons (aD (eVar 0)) aNil))) (mD (rChain fLe fLe (eVar 1) (eVar 0) (eVar 2))))))
def s_is_between : FS := sFun 3 3 b_is_between
theorem df_is_between (T : Tab K mg) : DF P w K mg base 2 "is_between" (topS 8) ["value", "least", "most"] s_is_between := df_of (N := ["value", "least", "most"]) T.f_is_between (by decide +kernel) rfl (fun _ _ _ _ _ _ us h => match us, h with | [u0, u1, u2], _ => rfl) (fun W =>
  (dss_one (ds_ret (dr_e (de_and (de_r (c_call (df_is_integer T) rfl rfl (dp_cons (do_e (de_var (vk rfl)) rfl) dp_nil))) (de_one (de_r (dr_chain o_le o_le (de_var (vk rfl)) (de_var (vk rfl)) (de_var (vk rfl)) rfl))))))))
/-! is_tuple_of: names value=0 many=1; own:  -/
def b_is_tuple_of : M Fl :=
  (sRet (mR (eAnd (mD (rOne (eVar 0) (isiD "tuple"))) (mD (rBin fEq (mD (rFn (f1 gLen) (aCons (aD (eVar 0)) aNil))) (eVar 1))))))
def s_is_tuple_of : FS := sFun 2 2 b_is_tuple_of
theorem df_is_tuple_of (T : Tab K mg) : DF P w K mg base 1 "is_tuple_of" (topS 9) ["value", "many"] s_is_tuple_of := df_of (N := ["value", "many"]) T.f_is_tuple_of (by decide +kernel) rfl (fun _ _ _ _ _ _ us h => match us, h with | [u0, u1], _ => rfl) (fun W =>
  (dss_one (ds_ret (dr_e (de_and (de_r (c_isi_tuple T.bs rfl rfl (de_var (vk rfl)) rfl)) (de_one (de_r (dr_cmp o_eq (de_r (c_len T.bs rfl (dp_cons (do_e (de_var (vk rfl)) rfl) dp_nil))) (de_var (vk rfl)) rfl))))))))
/-! is_rising: names items=0 one=1 other=2; own:  -/
def b_is_rising : M Fl :=
  (sRet (rFn (f1 gAll) (aCons (aD (mD (rComp (iZipM (aCons (aD (eVar 0)) (aCons (aD (mD (rSl (eVar 0) (oSome (eC (.int 1))) (M.ret none)))) aNil))) (gSeqM 2 (gConsM (gSet 1) (gConsM (gSet 2) gNilM))) (M.ret true) (mD (rBin fLt (eVar 1) (eVar 2))) [1, 2]))) aNil)))
def s_is_rising : FS := sFun 3 1 b_is_rising
theorem df_is_rising (T : Tab K mg) : DF P w K mg base 1 "is_rising" (topS 10) ["items"] s_is_rising := df_of (N := ["items", "one", "other"]) T.f_is_rising (by decide +kernel) rfl (fun _ _ _ _ _ _ us h => match us, h with | [u0], _ => rfl) (fun W =>
  (dss_one (ds_ret (c_all T.bs rfl (dp_cons (do_e (de_r (dr_comp (c_zip T.bs rfl (dp_cons (do_e (de_var (vk rfl)) rfl) (dp_cons (do_e (de_r (dr_slice (de_var (vk rfl)) (dpo_some de_int) dpo_none)) rfl) dp_nil))) (blkOk_by (own := [("one", 1), ("other", 2)]) (by (try dsimp only [CI.blk]); decide +kernel)) (dg_seq (dgs_cons rfl (dg_name (sk rfl)) (dgs_cons rfl (dg_name (sk rfl)) dgs_nil))) (by decide) dts_nil (de_r (dr_cmp o_lt (de_var (vk rfl)) (de_var (vk rfl)) rfl)) (fun _ _ => rfl))) rfl) dp_nil)))))
/-! is_subset: names size=0 value=1 point=2; own:  -/
def b_is_subset : M Fl :=
  (sSeq (sIf (tOrM (tNotM (tTru (mD (rOne (eVar 1) (isiD "tuple"))))) (tNotM (tTru (mD (rFn (f1 gAll) (aCons (aD (mD (rComp (iSeq (eVar 1)) (gSet 2) (M.ret true) (mD (rCall s_is_between (aCons (aD (eVar 2)) (aCons (aD (eC (.int 0))) (aCons (aD (mD (rBin fSub (eVar 0) (eC (.int 1))))) aNil))))) [2]))) aNil)))))) (sRet (mR (eC (.bl false)))) sNil)
  (sRet (rCall s_is_rising (aCons (aD (eVar 1)) aNil))))
def s_is_subset : FS := sFun 3 2 b_is_subset
theorem df_is_subset (T : Tab K mg) : DF P w K mg base 3 "is_subset" (topS 12) ["size", "value"] s_is_subset := df_of (N := ["size", "value", "point"]) T.f_is_subset (by decide +kernel) rfl (fun _ _ _ _ _ _ us h => match us, h with | [u0, u1], _ => rfl) (fun W =>
  (dss_cons (ds_if (dt_w (dw_or (dt_not (dt_val (de_r (c_isi_tuple T.bs rfl rfl (de_var (vk rfl)) rfl)) (fun _ _ => rfl))) (dw_or1 (dt_not (dt_val (de_r (c_all T.bs rfl (dp_cons (do_e (de_r (dr_comp (di_seq (de_var (vk rfl))) (blkOk_by (own := [("point", 2)]) (by (try dsimp only [CI.blk]); decide +kernel)) (dg_name (sk rfl)) (by decide) dts_nil (de_r (c_call (df_is_between T) rfl rfl (dp_cons (do_e (de_var (vk rfl)) rfl) (dp_cons (do_e de_int rfl) (dp_cons (do_e (de_r (dr_bin o_sub (de_var (vk rfl)) de_int)) rfl) dp_nil))))) (fun _ _ => rfl))) rfl) dp_nil))) (fun _ _ => rfl)))))) (dss_one (ds_ret (dr_e de_bl))) dss_nil)
  (dss_one (ds_ret (c_call (df_is_rising T) rfl rfl (dp_cons (do_e (de_var (vk rfl)) rfl) dp_nil))))))
/-! mask_of: names subset=0 point=1; own:  -/
def b_mask_of : M Fl :=
  (sRet (rFn (f1 gSum) (aCons (aD (mD (rComp (iSeq (eVar 0)) (gSet 1) (M.ret true) (mD (rBin fShl (eC (.int 1)) (eVar 1))) [1]))) aNil)))
def s_mask_of : FS := sFun 2 1 b_mask_of
theorem df_mask_of (T : Tab K mg) : DF P w K mg base 1 "mask_of" (topS 13) ["subset"] s_mask_of := df_of (N := ["subset", "point"]) T.f_mask_of (by decide +kernel) rfl (fun _ _ _ _ _ _ us h => match us, h with | [u0], _ => rfl) (fun W =>
  (dss_one (ds_ret (c_sum T.bs rfl (dp_cons (do_e (de_r (dr_comp (di_seq (de_var (vk rfl))) (blkOk_by (own := [("point", 1)]) (by (try dsimp only [CI.blk]); decide +kernel)) (dg_name (sk rfl)) (by decide) dts_nil (de_r (dr_bin o_shl de_int (de_var (vk rfl)))) (fun _ _ => rfl))) rfl) dp_nil)))))
/-! points_in: names mask=0 point=1; own:  -/
def b_points_in : M Fl :=
  (sRet (rComp (iRng1M (aCons (aD (eBits (eVar 0))) aNil)) (gSet 1) (tCmp fEq (mD (rBin fAnd (mD (rBin fShr (eVar 0) (eVar 1))) (eC (.int 1)))) (eC (.int 1))) (eVar 1) [1]))
def s_points_in : FS := sFun 2 1 b_points_in
theorem df_points_in (T : Tab K mg) : DF P w K mg base 1 "points_in" (topS 15) ["mask"] s_points_in := df_of (N := ["mask", "point"]) T.f_points_in (by decide +kernel) rfl (fun _ _ _ _ _ _ us h => match us, h with | [u0], _ => rfl) (fun W =>
  (dss_one (ds_ret (dr_comp (c_rng1 T.bs rfl (dp_cons (do_e (de_bits (de_var (vk rfl)) (fun _ => rfl) rfl) rfl) dp_nil)) (blkOk_by (own := [("point", 1)]) (by (try dsimp only [CI.blk]); decide +kernel)) (dg_name (sk rfl)) (by decide) (dts_one (dt_cmp o_eq (de_r (dr_bin o_and (de_r (dr_bin o_shr (de_var (vk rfl)) (de_var (vk rfl)))) de_int)) de_int rfl)) (de_var (vk rfl)) (fun _ _ => rfl)))))
/-! subset_of: names mask=0; own:  -/
def b_subset_of : M Fl :=
  (sRet (rFn (f1 gTuple) (aCons (aD (mD (rCall s_points_in (aCons (aD (eVar 0)) aNil)))) aNil)))
def s_subset_of : FS := sFun 1 1 b_subset_of
theorem df_subset_of (T : Tab K mg) : DF P w K mg base 2 "subset_of" (topS 14) ["mask"] s_subset_of := df_of (N := ["mask"]) T.f_subset_of (by decide +kernel) rfl (fun _ _ _ _ _ _ us h => match us, h with | [u0], _ => rfl) (fun W =>
  (dss_one (ds_ret (c_tuple T.bs rfl (dp_cons (do_e (de_r (c_call (df_points_in T) rfl rfl (dp_cons (do_e (de_var (vk rfl)) rfl) dp_nil))) rfl) dp_nil)))))
/-! shared_mask: names masks=0 mask=1 full=2 found=3 place=4; own:  -/
def b_shared_mask : M Fl :=
  (sSeq (sAsg (eVar 2) (gSet 3))
  (sSeq (sFor (iSeq (mD (rCall s_points_in (aCons (aD (eVar 1)) aNil)))) (gSet 4)
  (sAsg (mD (rBin fAnd (eVar 3) (eIxV 0 (eVar 4)))) (gSet 3)))
  (sRet (mR (eVar 3)))))
def s_shared_mask : FS := sFun 5 3 b_shared_mask
theorem df_shared_mask (T : Tab K mg) : DF P w K mg base 2 "shared_mask" (topS 18) ["masks", "mask", "full"] s_shared_mask := df_of (N := ["masks", "mask", "full", "found", "place"]) T.f_shared_mask (by decide +kernel) rfl (fun _ _ _ _ _ _ us h => match us, h with | [u0, u1, u2], _ => rfl) (fun W =>
  (dss_cons (ds_set (sk rfl) (de_var (vk rfl)) (fun _ _ => rfl))
  (dss_cons (ds_for (di_seq (de_r (c_call (df_points_in T) rfl rfl (dp_cons (do_e (de_var (vk rfl)) rfl) dp_nil)))) (dg_name (sk rfl)) gSet_ne (dss_one (ds_set (sk rfl) (de_r (dr_bin o_and (de_var (vk rfl)) (de_ixV (vk rfl) (de_var (vk rfl)) (fun _ _ => rfl)))) (fun _ _ => rfl))) (fun _ _ => rfl))
  (dss_one (ds_ret (dr_e (de_var (vk rfl))))))))
/-! _law_cell: names script=0 k=1; own:  -/
def b__law_cell : M Fl :=
  (sRet (rIf (tCmp fLt (eVar 1) (mD (rFn (f1 gLen) (aCons (aD (eVar 0)) aNil)))) (mR (eIxV 0 (eVar 1))) (rBin fAdd (mD (rBin fMul (eC (.int 6007)) (eVar 1))) (mD (rBin fMod (mD (rFn (f1 gInt) (aCons (aD (mD (rFn (f1 gSum) (aCons (aD (mD (rSl (eVar 0) (M.ret none) (oSome (eC (.int 1)))))) aNil)))) aNil))) (eC (.int 1000033)))))))
def s__law_cell : FS := sFun 2 2 b__law_cell
theorem df__law_cell (T : Tab K mg) : DF P w K mg base 1 "_law_cell" (topS 21) ["script", "k"] s__law_cell := df_of (N := ["script", "k"]) T.f__law_cell (by decide +kernel) rfl (fun _ _ _ _ _ _ us h => match us, h with | [u0, u1], _ => rfl) (fun W =>
  (dss_one (ds_ret (dr_if (dt_cmp o_lt (de_var (vk rfl)) (de_r (c_len T.bs rfl (dp_cons (do_e (de_var (vk rfl)) rfl) dp_nil))) rfl) (dr_e (de_ixV (vk rfl) (de_var (vk rfl)) (fun _ _ => rfl))) (dr_bin o_add (de_r (dr_bin o_mul de_int (de_var (vk rfl)))) (de_r (dr_bin o_mod (de_r (c_int T.bs rfl (dp_cons (do_e (de_r (c_sum T.bs rfl (dp_cons (do_e (de_r (dr_slice (de_var (vk rfl)) dpo_none (dpo_some de_int))) rfl) dp_nil))) rfl) dp_nil))) de_int)))))))
/-! _law_box: names great=0; own:  -/
def b__law_box : M Fl :=
  (sRet (rLst (aCons (aD (mD (rFn (f1 gAbs) (aCons (aD (eVar 0)) aNil)))) (aCons (aD (mD (rBin fGe (mD (rFn (f1 gAbs) (aCons (aD (eVar 0)) aNil))) (mD (rBin fPow (eC (.int 10)) (eC (.int 18))))))) (aCons (aD (mD (rBin fMod (mD (rFn (f1 gInt) (aCons (aD (mD (rFn (f1 gAbs) (aCons (aD (eVar 0)) aNil)))) aNil))) (eC (.int 2147483629))))) (aCons (aD (eC (.int 0))) aNil))))))
def s__law_box : FS := sFun 1 1 b__law_box
theorem df__law_box (T : Tab K mg) : DF P w K mg base 1 "_law_box" (topS 22) ["great"] s__law_box := df_of (N := ["great"]) T.f__law_box (by decide +kernel) rfl (fun _ _ _ _ _ _ us h => match us, h with | [u0], _ => rfl) (fun W =>
  (dss_one (ds_ret (dr_lst (dp_cons (do_e (de_r (c_abs T.bs rfl (dp_cons (do_e (de_var (vk rfl)) rfl) dp_nil))) rfl) (dp_cons (do_e (de_r (dr_cmp o_ge (de_r (c_abs T.bs rfl (dp_cons (do_e (de_var (vk rfl)) rfl) dp_nil))) (de_r (dr_bin o_pow de_int de_int)) rfl)) rfl) (dp_cons (do_e (de_r (dr_bin o_mod (de_r (c_int T.bs rfl (dp_cons (do_e (de_r (c_abs T.bs rfl (dp_cons (do_e (de_var (vk rfl)) rfl) dp_nil))) rfl) dp_nil))) de_int)) rfl) (dp_cons (do_e de_int rfl) dp_nil))))))))
/-! _law_take: names box=0 many=1 digit=2 mixed=3; own: box -/
def b__law_take : M Fl :=
  (sSeq (sIf (tAndM (tTru (eIxV 0 (eC (.int 1)))) (tCmp fGt (eIxV 0 (eC (.int 0))) (eC (.int 0)))) (sSeq (sAsg (mD (rBin fMod (mD (rFn (f1 gInt) (aCons (aD (eIxV 0 (eC (.int 0)))) aNil))) (eVar 1))) (gSet 2))
  (sSeq (sAsg (mD (rBin fDiv (eIxV 0 (eC (.int 0))) (eVar 1))) (gIx 0 (eC (.int 0))))
  (sRet (mR (eVar 2))))) sNil)
  (sSeq (sAsg (mD (rBin fAdd (eIxV 0 (eC (.int 3))) (eC (.int 1)))) (gIx 0 (eC (.int 3))))
  (sSeq (sAsg (mD (rBin fMod (mD (rFn (f1 gInt) (aCons (aD (mD (rBin fPow (mD (rBin fAdd (mD (rBin fAdd (eIxV 0 (eC (.int 2))) (mD (rBin fMul (eC (.int 15485863)) (eIxV 0 (eC (.int 3))))))) (eC (.int 179424673)))) (eC (.int 5))))) aNil))) (eC (.int 2147483647)))) (gSet 3))
  (sRet (rBin fMod (mD (rFn (f1 gInt) (aCons (aD (mD (rBin fDiv (mD (rBin fMod (mD (rFn (f1 gInt) (aCons (aD (mD (rBin fPow (mD (rBin fAdd (mD (rBin fMul (eVar 3) (eC (.int 48271)))) (mD (rBin fMul (eC (.int 104729)) (eIxV 0 (eC (.int 3))))))) (eC (.int 3))))) aNil))) (eC (.int 2147483587)))) (eC (.int 64))))) aNil))) (eVar 1))))))
def s__law_take : FS := sFun 4 2 b__law_take
theorem df__law_take (T : Tab K mg) : DF P w K mg base 1 "_law_take" (topS 23) ["box", "many"] s__law_take := df_of (N := ["box", "many", "digit", "mixed"]) T.f__law_take (by decide +kernel) rfl (fun _ _ _ _ _ _ us h => match us, h with | [u0, u1], _ => rfl) (fun W =>
  (dss_cons (ds_if (dt_w (dw_and (dt_val (de_ixV (vk rfl) de_int (fun _ _ => rfl)) (fun _ _ => rfl)) (dw_and1 (dt_cmp o_gt (de_ixV (vk rfl) de_int (fun _ _ => rfl)) de_int rfl)))) (dss_cons (ds_set (sk rfl) (de_r (dr_bin o_mod (de_r (c_int T.bs rfl (dp_cons (do_e (de_ixV (vk rfl) de_int (fun _ _ => rfl)) rfl) dp_nil))) (de_var (vk rfl)))) (fun _ _ => rfl))
  (dss_cons (ds_asg (dg_ix (vk rfl) de_int (fun _ _ => rfl) eC_nx) (gIx_ne eC_nx) (de_r (dr_bin o_div (de_ixV (vk rfl) de_int (fun _ _ => rfl)) (de_var (vk rfl)))) (fun _ => rfl) (fun _ _ => rfl) rfl)
  (dss_one (ds_ret (dr_e (de_var (vk rfl))))))) dss_nil)
  (dss_cons (ds_asg (dg_ix (vk rfl) de_int (fun _ _ => rfl) eC_nx) (gIx_ne eC_nx) (de_r (dr_bin o_add (de_ixV (vk rfl) de_int (fun _ _ => rfl)) de_int)) (fun _ => rfl) (fun _ _ => rfl) rfl)
  (dss_cons (ds_set (sk rfl) (de_r (dr_bin o_mod (de_r (c_int T.bs rfl (dp_cons (do_e (de_r (dr_bin o_pow (de_r (dr_bin o_add (de_r (dr_bin o_add (de_ixV (vk rfl) de_int (fun _ _ => rfl)) (de_r (dr_bin o_mul de_int (de_ixV (vk rfl) de_int (fun _ _ => rfl)))))) de_int)) de_int)) rfl) dp_nil))) de_int)) (fun _ _ => rfl))
  (dss_one (ds_ret (dr_bin o_mod (de_r (c_int T.bs rfl (dp_cons (do_e (de_r (dr_bin o_div (de_r (dr_bin o_mod (de_r (c_int T.bs rfl (dp_cons (do_e (de_r (dr_bin o_pow (de_r (dr_bin o_add (de_r (dr_bin o_mul (de_var (vk rfl)) de_int)) (de_r (dr_bin o_mul de_int (de_ixV (vk rfl) de_int (fun _ _ => rfl)))))) de_int)) rfl) dp_nil))) de_int)) de_int)) rfl) dp_nil))) (de_var (vk rfl)))))))))
/-! _law_same: names told=0 due=1 k=2; own:  -/
def b__law_same (rec : FS) : M Fl :=
  (sSeq (sIf (tOrM (tCmp fIs (eVar 1) (eC .non)) (tTru (mD (rOne (eVar 1) (isiD "bool"))))) (sRet (rIf (tCmp fIs (eVar 1) (eC .non)) (rBin fIs (eVar 0) (eC .non)) (mR (eAnd (mD (rOne (eVar 0) (isiD "bool"))) (mD (rBin fEq (mD (rBin fIs (eVar 0) (eC (.bl true)))) (mD (rBin fIs (eVar 1) (eC (.bl true)))))))))) sNil)
  (sSeq (sIf (tTru (mD (rOne (eVar 1) (isiD "int")))) (sRet (mR (eAnd (mD (rOne (eVar 0) (isiD "int"))) (eAnd (eNot (mD (rOne (eVar 0) (isiD "bool")))) (mD (rBin fEq (mD (rBin fSub (mD (rFn (f1 gInt) (aCons (aD (eVar 0)) aNil))) (eVar 1))) (eC (.int 0)))))))) sNil)
  (sSeq (sIf (tTru (mD (rOne (eVar 1) (isiD "str")))) (sRet (mR (eAnd (mD (rOne (eVar 0) (isiD "str"))) (eAnd (mD (rBin fEq (mD (rFn (f1 gLen) (aCons (aD (eVar 0)) aNil))) (mD (rFn (f1 gLen) (aCons (aD (eVar 1)) aNil))))) (mD (rBin fEq (mD (rComp (iRng1M (aCons (aD (mD (rFn (f1 gLen) (aCons (aD (eVar 1)) aNil)))) aNil)) (gSet 2) (tCmp fNe (mD (rSl (eVar 0) (oSome (eVar 2)) (oSome (mD (rBin fAdd (eVar 2) (eC (.int 1))))))) (eIxV 1 (eVar 2))) (eVar 2) [2])) (mD (rLst aNil)))))))) sNil)
  (sSeq (sIf (tOrM (tCmp fNe (mD (rOne (eVar 0) (isiD "list"))) (mD (rOne (eVar 1) (isiD "list")))) (tCmp fNe (mD (rOne (eVar 0) (isiD "tuple"))) (mD (rOne (eVar 1) (isiD "tuple"))))) (sRet (mR (eC (.bl false)))) sNil)
  (sRet (mR (eAnd (mD (rBin fEq (mD (rFn (f1 gLen) (aCons (aD (eVar 0)) aNil))) (mD (rFn (f1 gLen) (aCons (aD (eVar 1)) aNil))))) (mD (rBin fEq (mD (rComp (iRng1M (aCons (aD (mD (rFn (f1 gLen) (aCons (aD (eVar 1)) aNil)))) aNil)) (gSet 2) (tNotM (tTru (mD (rCall rec (aCons (aD (eIxV 0 (eVar 2))) (aCons (aD (eIxV 1 (eVar 2))) aNil)))))) (eVar 2) [2])) (mD (rLst aNil)))))))))))
def s__law_same_f : Nat → FS
  | 0 => sFun 3 2 sNever
  | n + 1 => sFun 3 2 (b__law_same (s__law_same_f n))
def s__law_same : FS := s__law_same_f 12
theorem df__law_same_f (T : Tab K mg) : ∀ n : Nat, DF P w K mg base (0 + n + 1) "_law_same" (topS 24) ["told", "due"] (s__law_same_f n)
  | 0 => df_of (N := ["told", "due", "k"]) T.f__law_same (by decide +kernel) rfl (fun _ _ _ _ _ _ us h => match us, h with | [u0, u1], _ => rfl) (fun W => dss_no)
  | n + 1 => by
    have ih := df__law_same_f T n
    exact df_of (N := ["told", "due", "k"]) T.f__law_same (by decide +kernel) rfl (fun _ _ _ _ _ _ us h => match us, h with | [u0, u1], _ => rfl) (fun W =>
  (dss_cons (ds_if (dt_w (dw_or (dt_cmp o_is (de_var (vk rfl)) de_non rfl) (dw_or1 (dt_val (de_r (c_isi_bool T.bs rfl rfl (de_var (vk rfl)) rfl)) (fun _ _ => rfl))))) (dss_one (ds_ret (dr_if (dt_cmp o_is (de_var (vk rfl)) de_non rfl) (dr_cmp o_is (de_var (vk rfl)) de_non rfl) (dr_e (de_and (de_r (c_isi_bool T.bs rfl rfl (de_var (vk rfl)) rfl)) (de_one (de_r (dr_cmp o_eq (de_r (dr_cmp o_is (de_var (vk rfl)) de_bl rfl)) (de_r (dr_cmp o_is (de_var (vk rfl)) de_bl rfl)) rfl)))))))) dss_nil)
  (dss_cons (ds_if (dt_val (de_r (c_isi_int T.bs rfl rfl (de_var (vk rfl)) rfl)) (fun _ _ => rfl)) (dss_one (ds_ret (dr_e (de_and (de_r (c_isi_int T.bs rfl rfl (de_var (vk rfl)) rfl)) (de_and (de_not (de_r (c_isi_bool T.bs rfl rfl (de_var (vk rfl)) rfl))) (de_one (de_r (dr_cmp o_eq (de_r (dr_bin o_sub (de_r (c_int T.bs rfl (dp_cons (do_e (de_var (vk rfl)) rfl) dp_nil))) (de_var (vk rfl)))) de_int rfl)))))))) dss_nil)
  (dss_cons (ds_if (dt_val (de_r (c_isi_str T.bs rfl rfl (de_var (vk rfl)) rfl)) (fun _ _ => rfl)) (dss_one (ds_ret (dr_e (de_and (de_r (c_isi_str T.bs rfl rfl (de_var (vk rfl)) rfl)) (de_and (de_r (dr_cmp o_eq (de_r (c_len T.bs rfl (dp_cons (do_e (de_var (vk rfl)) rfl) dp_nil))) (de_r (c_len T.bs rfl (dp_cons (do_e (de_var (vk rfl)) rfl) dp_nil))) rfl)) (de_one (de_r (dr_cmp o_eq (de_r (dr_comp (c_rng1 T.bs rfl (dp_cons (do_e (de_r (c_len T.bs rfl (dp_cons (do_e (de_var (vk rfl)) rfl) dp_nil))) rfl) dp_nil)) (blkOk_by (own := [("k", 2)]) (by (try dsimp only [CI.blk]); decide +kernel)) (dg_name (sk rfl)) (by decide) (dts_one (dt_cmp o_ne (de_r (dr_slice (de_var (vk rfl)) (dpo_some (de_var (vk rfl))) (dpo_some (de_r (dr_bin o_add (de_var (vk rfl)) de_int))))) (de_ixV (vk rfl) (de_var (vk rfl)) (fun _ _ => rfl)) rfl)) (de_var (vk rfl)) (fun _ _ => rfl))) (de_r (dr_lst dp_nil)) rfl)))))))) dss_nil)
  (dss_cons (ds_if (dt_w (dw_or (dt_cmp o_ne (de_r (c_isi_list T.bs rfl rfl (de_var (vk rfl)) rfl)) (de_r (c_isi_list T.bs rfl rfl (de_var (vk rfl)) rfl)) rfl) (dw_or1 (dt_cmp o_ne (de_r (c_isi_tuple T.bs rfl rfl (de_var (vk rfl)) rfl)) (de_r (c_isi_tuple T.bs rfl rfl (de_var (vk rfl)) rfl)) rfl)))) (dss_one (ds_ret (dr_e de_bl))) dss_nil)
  (dss_one (ds_ret (dr_e (de_and (de_r (dr_cmp o_eq (de_r (c_len T.bs rfl (dp_cons (do_e (de_var (vk rfl)) rfl) dp_nil))) (de_r (c_len T.bs rfl (dp_cons (do_e (de_var (vk rfl)) rfl) dp_nil))) rfl)) (de_one (de_r (dr_cmp o_eq (de_r (dr_comp (c_rng1 T.bs rfl (dp_cons (do_e (de_r (c_len T.bs rfl (dp_cons (do_e (de_var (vk rfl)) rfl) dp_nil))) rfl) dp_nil)) (blkOk_by (own := [("k", 2)]) (by (try dsimp only [CI.blk]); decide +kernel)) (dg_name (sk rfl)) (by decide) (dts_one (dt_not (dt_val (de_r (c_call ih (ble_self _) rfl (dp_cons (do_e (de_ixV (vk rfl) (de_var (vk rfl)) (fun _ _ => rfl)) rfl) (dp_cons (do_e (de_ixV (vk rfl) (de_var (vk rfl)) (fun _ _ => rfl)) rfl) dp_nil)))) (fun _ _ => rfl)))) (de_var (vk rfl)) (fun _ _ => rfl))) (de_r (dr_lst dp_nil)) rfl))))))))))))
theorem df__law_same (T : Tab K mg) : DF P w K mg base 13 "_law_same" (topS 24) ["told", "due"] s__law_same := df__law_same_f T 12
/-! _law_set: names mask=0 p=1; own:  -/
def b__law_set : M Fl :=
  (sRet (rFn (f1 gTuple) (aCons (aD (mD (rComp (iRng1M (aCons (aD (eC (.int 9))) aNil)) (gSet 1) (tTru (mD (rBin fAnd (mD (rBin fShr (eVar 0) (eVar 1))) (eC (.int 1))))) (eVar 1) [1]))) aNil)))
def s__law_set : FS := sFun 2 1 b__law_set
theorem df__law_set (T : Tab K mg) : DF P w K mg base 1 "_law_set" (topS 25) ["mask"] s__law_set := df_of (N := ["mask", "p"]) T.f__law_set (by decide +kernel) rfl (fun _ _ _ _ _ _ us h => match us, h with | [u0], _ => rfl) (fun W =>
  (dss_one (ds_ret (c_tuple T.bs rfl (dp_cons (do_e (de_r (dr_comp (c_rng1 T.bs rfl (dp_cons (do_e de_int rfl) dp_nil)) (blkOk_by (own := [("p", 1)]) (by (try dsimp only [CI.blk]); decide +kernel)) (dg_name (sk rfl)) (by decide) (dts_one (dt_val (de_r (dr_bin o_and (de_r (dr_bin o_shr (de_var (vk rfl)) (de_var (vk rfl)))) de_int)) (fun _ _ => rfl))) (de_var (vk rfl)) (fun _ _ => rfl))) rfl) dp_nil)))))
/-! _law_mixed: names box=0 many=1 left=2 found=3; own: box found left -/
def b__law_mixed : M Fl :=
  (sSeq (sParO (rLR1 (eVar 1)) (rLst aNil) 2 3)
  (sSeq (loopW (M.bnd (rEqV 2 true (mD (rLst aNil))) fun r => lift (blOf r)) (sDrop (eMt 3 lAppend (aCons (aD (eMt 2 lPop (aCons (aD (mD (rCall s__law_take (aCons (eAt 0) (aCons (aD (mD (eLenV 2))) aNil))))) aNil))) aNil))) FUEL)
  (sRetV 3)))
def s__law_mixed : FS := sFun 4 2 b__law_mixed
theorem df__law_mixed (T : Tab K mg) : DF P w K mg base 2 "_law_mixed" (topS 26) ["box", "many"] s__law_mixed := df_of (N := ["box", "many", "left", "found"]) T.f__law_mixed (by decide +kernel) rfl (fun _ _ _ _ _ _ us h => match us, h with | [u0, u1], _ => rfl) (fun W =>
  (dss_cons (ds_parO rfl rfl (by decide) rfl rfl (c_listR1 T.bs rfl rfl (de_var (vk rfl)) rfl) (dr_lst dp_nil) rfl rfl (by intro env h; cases env; cases h; rfl) (fun _ => rfl))
  (dss_cons (ds_while FUEL (dt_neV (vk rfl) (de_r (dr_lst dp_nil)) rfl) (dss_one (ds_expr (de_mt ol_append sl_append rfl (vk rfl) (dp_cons (do_e (de_mt ol_pop sl_pop rfl (vk rfl) (dp_cons (do_e (de_r (c_call (df__law_take T) rfl rfl (dp_cons (do_at (vk rfl)) (dp_cons (do_e (de_r (c_lenV T.bs rfl rfl)) rfl) dp_nil)))) rfl) dp_nil) (fun _ => rfl) (fun _ => rfl) rfl) rfl) dp_nil) (fun _ => rfl) (fun _ => rfl) rfl) (fun _ _ => rfl))))
  (dss_one (ds_retV (vk rfl))))))
/-! _law_context: names box=0 most=1 things=2 marks=3 way=4 odds=5 full=6 rows=7 g=8 m=9; own: box rows -/
def b__law_context : M Fl :=
  (sSeq (sAsg (eTup (aCons (aD (mD (rCall s__law_take (aCons (eAt 0) (aCons (aD (mD (rBin fAdd (eVar 1) (eC (.int 1))))) aNil))))) (aCons (aD (mD (rCall s__law_take (aCons (eAt 0) (aCons (aD (mD (rBin fAdd (eVar 1) (eC (.int 1))))) aNil))))) (aCons (aD (mD (rCall s__law_take (aCons (eAt 0) (aCons (aD (eC (.int 6))) aNil))))) aNil)))) (gSeqM 3 (gConsM (gSet 2) (gConsM (gSet 3) (gConsM (gSet 4) gNilM)))))
  (sSeq (sIf (tCmp fGt (mD (rCall s__law_take (aCons (eAt 0) (aCons (aD (eC (.int 4))) aNil)))) (eC (.int 0))) (sAsg (eTup (aCons (aD (mD (rFn (fMax) (aCons (aD (eVar 2)) (aCons (aD (mD (rFn (fMin) (aCons (aD (eC (.int 3))) (aCons (aD (eVar 1)) aNil))))) aNil))))) (aCons (aD (mD (rFn (fMax) (aCons (aD (eVar 3)) (aCons (aD (mD (rFn (fMin) (aCons (aD (eC (.int 3))) (aCons (aD (eVar 1)) aNil))))) aNil))))) aNil))) (gSeqM 2 (gConsM (gSet 2) (gConsM (gSet 3) gNilM)))) sNil)
  (sSeq (sAsg (eTup (aCons (aD (mD (rBin fAdd (eC (.int 1)) (mD (rCall s__law_take (aCons (eAt 0) (aCons (aD (eC (.int 3))) aNil))))))) (aCons (aD (mD (rBin fSub (mD (rBin fShl (eC (.int 1)) (eVar 3))) (eC (.int 1))))) aNil))) (gSeqM 2 (gConsM (gSet 5) (gConsM (gSet 6) gNilM))))
  (sSeq (sOwn (rComp (iRng1M (aCons (aD (eVar 2)) aNil)) (gSet 8) (M.ret true) (mD (rFn (f1 gSum) (aCons (aD (mD (rComp (iRng1M (aCons (aD (eVar 3)) aNil)) (gSet 9) (tCmp fLt (mD (rCall s__law_take (aCons (eAt 0) (aCons (aD (eC (.int 4))) aNil)))) (eVar 5)) (mD (rBin fShl (eC (.int 1)) (eVar 9))) [9]))) aNil))) [8]) 7)
  (sSeq (sIf (tCmp fEq (eVar 4) (eC (.int 1))) (sOwn (rComp (iRng1M (aCons (aD (eVar 2)) aNil)) (gSet 8) (M.ret true) (mD (rBin fAnd (eVar 6) (eUn PySem.Builtin.bitNot (mD (rBin fShl (eC (.int 1)) (eVar 8)))))) [8]) 7) (sIf (tCmp fEq (eVar 4) (eC (.int 2))) (sOwn (rComp (iRng1M (aCons (aD (eVar 2)) aNil)) (gSet 8) (M.ret true) (mD (rBin fAnd (eVar 6) (mD (rBin fShl (eC (.int 1)) (eVar 8))))) [8]) 7) (sIf (tCmp fEq (eVar 4) (eC (.int 3))) (sOwn (rComp (iRng1M (aCons (aD (eVar 2)) aNil)) (gSet 8) (M.ret true) (mD (rBin fAnd (eVar 6) (mD (rBin fSub (mD (rBin fShl (eC (.int 1)) (eVar 8))) (eC (.int 1)))))) [8]) 7) (sIf (tAndM (tCmp fEq (eVar 4) (eC (.int 4))) (tCmp fGt (eVar 2) (eC (.int 2)))) (sSeq (sAsg (eIxV 7 (eC (.int 0))) (gIx 7 (nox (mD (rBin fSub (eVar 2) (eC (.int 1)))))))
  (sAsg (mD (rBin fAnd (eIxV 7 (eC (.int 0))) (eIxV 7 (eC (.int 2))))) (gIx 7 (eC (.int 1))))) sNil))))
  (sRet (rLst (aCons (aD (eVar 2)) (aCons (aD (eVar 3)) (aCons (aD (mD (rComp (iSeq (mD (rCall s__law_mixed (aCons (eAt 0) (aCons (aD (eVar 2)) aNil))))) (gSet 8) (M.ret true) (eIxV 7 (eVar 8)) [8]))) aNil))))))))))
def s__law_context : FS := sFun 10 2 b__law_context
theorem df__law_context (T : Tab K mg) : DF P w K mg base 3 "_law_context" (topS 27) ["box", "most"] s__law_context := df_of (N := ["box", "most", "things", "marks", "way", "odds", "full", "rows", "g", "m"]) T.f__law_context (by decide +kernel) rfl (fun _ _ _ _ _ _ us h => match us, h with | [u0, u1], _ => rfl) (fun W =>
  (dss_cons (ds_asg (dg_seq (dgs_cons rfl (dg_name (sk rfl)) (dgs_cons rfl (dg_name (sk rfl)) (dgs_cons rfl (dg_name (sk rfl)) dgs_nil)))) (gSeq_ne (gCons_ne gSet_ne (gCons_ne gSet_ne (gCons_ne gSet_ne gNil_ne)))) (de_tup (dp_cons (do_e (de_r (c_call (df__law_take T) rfl rfl (dp_cons (do_at (vk rfl)) (dp_cons (do_e (de_r (dr_bin o_add (de_var (vk rfl)) de_int)) rfl) dp_nil)))) rfl) (dp_cons (do_e (de_r (c_call (df__law_take T) rfl rfl (dp_cons (do_at (vk rfl)) (dp_cons (do_e (de_r (dr_bin o_add (de_var (vk rfl)) de_int)) rfl) dp_nil)))) rfl) (dp_cons (do_e (de_r (c_call (df__law_take T) rfl rfl (dp_cons (do_at (vk rfl)) (dp_cons (do_e de_int rfl) dp_nil)))) rfl) dp_nil)))) (fun _ => rfl) (by intro env h; cases env; cases h; rfl) rfl)
  (dss_cons (ds_if (dt_cmp o_gt (de_r (c_call (df__law_take T) rfl rfl (dp_cons (do_at (vk rfl)) (dp_cons (do_e de_int rfl) dp_nil)))) de_int rfl) (dss_one (ds_asg (dg_seq (dgs_cons rfl (dg_name (sk rfl)) (dgs_cons rfl (dg_name (sk rfl)) dgs_nil))) (gSeq_ne (gCons_ne gSet_ne (gCons_ne gSet_ne gNil_ne))) (de_tup (dp_cons (do_e (de_r (c_max T.bs rfl (dp_cons (do_e (de_var (vk rfl)) rfl) (dp_cons (do_e (de_r (c_min T.bs rfl (dp_cons (do_e de_int rfl) (dp_cons (do_e (de_var (vk rfl)) rfl) dp_nil)))) rfl) dp_nil)))) rfl) (dp_cons (do_e (de_r (c_max T.bs rfl (dp_cons (do_e (de_var (vk rfl)) rfl) (dp_cons (do_e (de_r (c_min T.bs rfl (dp_cons (do_e de_int rfl) (dp_cons (do_e (de_var (vk rfl)) rfl) dp_nil)))) rfl) dp_nil)))) rfl) dp_nil))) (fun _ => rfl) (by intro env h; cases env; cases h; rfl) rfl)) dss_nil)
  (dss_cons (ds_asg (dg_seq (dgs_cons rfl (dg_name (sk rfl)) (dgs_cons rfl (dg_name (sk rfl)) dgs_nil))) (gSeq_ne (gCons_ne gSet_ne (gCons_ne gSet_ne gNil_ne))) (de_tup (dp_cons (do_e (de_r (dr_bin o_add de_int (de_r (c_call (df__law_take T) rfl rfl (dp_cons (do_at (vk rfl)) (dp_cons (do_e de_int rfl) dp_nil)))))) rfl) (dp_cons (do_e (de_r (dr_bin o_sub (de_r (dr_bin o_shl de_int (de_var (vk rfl)))) de_int)) rfl) dp_nil))) (fun _ => rfl) (by intro env h; cases env; cases h; rfl) rfl)
  (dss_cons (ds_own (sk rfl) (dr_comp (c_rng1 T.bs rfl (dp_cons (do_e (de_var (vk rfl)) rfl) dp_nil)) (blkOk_by (own := [("g", 8)]) (by (try dsimp only [CI.blk]); decide +kernel)) (dg_name (sk rfl)) (by decide) dts_nil (de_r (c_sum T.bs rfl (dp_cons (do_e (de_r (dr_comp (c_rng1 T.bs rfl (dp_cons (do_e (de_var (vk rfl)) rfl) dp_nil)) (blkOk_by (own := [("m", 9)]) (by (try dsimp only [CI.blk]); decide +kernel)) (dg_name (sk rfl)) (by decide) (dts_one (dt_cmp o_lt (de_r (c_call (df__law_take T) rfl rfl (dp_cons (do_at (vk rfl)) (dp_cons (do_e de_int rfl) dp_nil)))) (de_var (vk rfl)) rfl)) (de_r (dr_bin o_shl de_int (de_var (vk rfl)))) (fun _ _ => rfl))) rfl) dp_nil))) (fun _ _ => rfl)) (by intro env h; cases env; cases h; rfl))
  (dss_cons (ds_if (dt_cmp o_eq (de_var (vk rfl)) de_int rfl) (dss_one (ds_own (sk rfl) (dr_comp (c_rng1 T.bs rfl (dp_cons (do_e (de_var (vk rfl)) rfl) dp_nil)) (blkOk_by (own := [("g", 8)]) (by (try dsimp only [CI.blk]); decide +kernel)) (dg_name (sk rfl)) (by decide) dts_nil (de_r (dr_bin o_and (de_var (vk rfl)) (de_inv (de_r (dr_bin o_shl de_int (de_var (vk rfl))))))) (fun _ _ => rfl)) (by intro env h; cases env; cases h; rfl))) (dss_one (ds_if (dt_cmp o_eq (de_var (vk rfl)) de_int rfl) (dss_one (ds_own (sk rfl) (dr_comp (c_rng1 T.bs rfl (dp_cons (do_e (de_var (vk rfl)) rfl) dp_nil)) (blkOk_by (own := [("g", 8)]) (by (try dsimp only [CI.blk]); decide +kernel)) (dg_name (sk rfl)) (by decide) dts_nil (de_r (dr_bin o_and (de_var (vk rfl)) (de_r (dr_bin o_shl de_int (de_var (vk rfl)))))) (fun _ _ => rfl)) (by intro env h; cases env; cases h; rfl))) (dss_one (ds_if (dt_cmp o_eq (de_var (vk rfl)) de_int rfl) (dss_one (ds_own (sk rfl) (dr_comp (c_rng1 T.bs rfl (dp_cons (do_e (de_var (vk rfl)) rfl) dp_nil)) (blkOk_by (own := [("g", 8)]) (by (try dsimp only [CI.blk]); decide +kernel)) (dg_name (sk rfl)) (by decide) dts_nil (de_r (dr_bin o_and (de_var (vk rfl)) (de_r (dr_bin o_sub (de_r (dr_bin o_shl de_int (de_var (vk rfl)))) de_int)))) (fun _ _ => rfl)) (by intro env h; cases env; cases h; rfl))) (dss_one (ds_if (dt_w (dw_and (dt_cmp o_eq (de_var (vk rfl)) de_int rfl) (dw_and1 (dt_cmp o_gt (de_var (vk rfl)) de_int rfl)))) (dss_cons (ds_asg (dg_ix (vk rfl) (de_nox (de_r (dr_bin o_sub (de_var (vk rfl)) de_int))) (fun _ _ => rfl) nox_ne) (gIx_ne nox_ne) (de_ixV (vk rfl) de_int (fun _ _ => rfl)) (fun _ => rfl) (fun _ _ => rfl) rfl)
  (dss_one (ds_asg (dg_ix (vk rfl) de_int (fun _ _ => rfl) eC_nx) (gIx_ne eC_nx) (de_r (dr_bin o_and (de_ixV (vk rfl) de_int (fun _ _ => rfl)) (de_ixV (vk rfl) de_int (fun _ _ => rfl)))) (fun _ => rfl) (fun _ _ => rfl) rfl))) dss_nil)))))))
  (dss_one (ds_ret (dr_lst (dp_cons (do_e (de_var (vk rfl)) rfl) (dp_cons (do_e (de_var (vk rfl)) rfl) (dp_cons (do_e (de_r (dr_comp (di_seq (de_r (c_call (df__law_mixed T) rfl rfl (dp_cons (do_at (vk rfl)) (dp_cons (do_e (de_var (vk rfl)) rfl) dp_nil))))) (blkOk_by (own := [("g", 8)]) (by (try dsimp only [CI.blk]); decide +kernel)) (dg_name (sk rfl)) (by decide) dts_nil (de_ixV (vk rfl) (de_var (vk rfl)) (fun _ _ => rfl)) (fun _ _ => rfl))) rfl) dp_nil))))))))))))
/-! _law_marks: names context=0 mask=1 found=2 g=3; own:  -/
def b__law_marks : M Fl :=
  (sSeq (sAsg (mD (rBin fSub (mD (rBin fShl (eC (.int 1)) (eIxV 0 (eC (.int 1))))) (eC (.int 1)))) (gSet 2))
  (sSeq (sFor (iRng1M (aCons (aD (eIxV 0 (eC (.int 0)))) aNil)) (gSet 3)
  (sAsg (mD (rIf (tTru (mD (rBin fAnd (mD (rBin fShr (eVar 1) (eVar 3))) (eC (.int 1))))) (rBin fAnd (eVar 2) (eIx (eIxV 0 (eC (.int 2))) (eVar 3))) (mR (eVar 2)))) (gSet 2)))
  (sRet (mR (eVar 2)))))
def s__law_marks : FS := sFun 4 2 b__law_marks
theorem df__law_marks (T : Tab K mg) : DF P w K mg base 1 "_law_marks" (topS 28) ["context", "mask"] s__law_marks := df_of (N := ["context", "mask", "found", "g"]) T.f__law_marks (by decide +kernel) rfl (fun _ _ _ _ _ _ us h => match us, h with | [u0, u1], _ => rfl) (fun W =>
  (dss_cons (ds_set (sk rfl) (de_r (dr_bin o_sub (de_r (dr_bin o_shl de_int (de_ixV (vk rfl) de_int (fun _ _ => rfl)))) de_int)) (fun _ _ => rfl))
  (dss_cons (ds_for (c_rng1 T.bs rfl (dp_cons (do_e (de_ixV (vk rfl) de_int (fun _ _ => rfl)) rfl) dp_nil)) (dg_name (sk rfl)) gSet_ne (dss_one (ds_set (sk rfl) (de_r (dr_if (dt_val (de_r (dr_bin o_and (de_r (dr_bin o_shr (de_var (vk rfl)) (de_var (vk rfl)))) de_int)) (fun _ _ => rfl)) (dr_bin o_and (de_var (vk rfl)) (de_ix (de_ixV (vk rfl) de_int (fun _ _ => rfl)) (de_var (vk rfl)) (fun _ _ => rfl))) (dr_e (de_var (vk rfl))))) (fun _ _ => rfl))) (fun _ _ => rfl))
  (dss_one (ds_ret (dr_e (de_var (vk rfl))))))))
/-! _law_things: names context=0 mask=1 g=2; own:  -/
def b__law_things : M Fl :=
  (sRet (rFn (f1 gSum) (aCons (aD (mD (rComp (iRng1M (aCons (aD (eIxV 0 (eC (.int 0)))) aNil)) (gSet 2) (tCmp fEq (mD (rBin fAnd (eVar 1) (eUn PySem.Builtin.bitNot (eIx (eIxV 0 (eC (.int 2))) (eVar 2))))) (eC (.int 0))) (mD (rBin fShl (eC (.int 1)) (eVar 2))) [2]))) aNil)))
def s__law_things : FS := sFun 3 2 b__law_things
theorem df__law_things (T : Tab K mg) : DF P w K mg base 1 "_law_things" (topS 29) ["context", "mask"] s__law_things := df_of (N := ["context", "mask", "g"]) T.f__law_things (by decide +kernel) rfl (fun _ _ _ _ _ _ us h => match us, h with | [u0, u1], _ => rfl) (fun W =>
  (dss_one (ds_ret (c_sum T.bs rfl (dp_cons (do_e (de_r (dr_comp (c_rng1 T.bs rfl (dp_cons (do_e (de_ixV (vk rfl) de_int (fun _ _ => rfl)) rfl) dp_nil)) (blkOk_by (own := [("g", 2)]) (by (try dsimp only [CI.blk]); decide +kernel)) (dg_name (sk rfl)) (by decide) (dts_one (dt_cmp o_eq (de_r (dr_bin o_and (de_var (vk rfl)) (de_inv (de_ix (de_ixV (vk rfl) de_int (fun _ _ => rfl)) (de_var (vk rfl)) (fun _ _ => rfl))))) de_int rfl)) (de_r (dr_bin o_shl de_int (de_var (vk rfl)))) (fun _ _ => rfl))) rfl) dp_nil)))))
/-! Context___init__: names self=0 things=1 marks=2 rows=3 row=4 mark=5 thing=6; own: self -/
def b_Context___init__ : M Fl :=
  (sSeq (sIf (tNotM (tTru (mD (rCall s_is_between (aCons (aD (eVar 1)) (aCons (aD (eC (.int 0))) (aCons (aD (eC (.int 9))) aNil))))))) (sRaise "InvalidSize" "given" (eVar 1)) sNil)
  (sSeq (sIf (tNotM (tTru (mD (rCall s_is_between (aCons (aD (eVar 2)) (aCons (aD (eC (.int 0))) (aCons (aD (eC (.int 9))) aNil))))))) (sRaise "InvalidSize" "given" (eVar 2)) sNil)
  (sSeq (sIf (tOrM (tNotM (tTru (mD (rCall s_is_tuple_of (aCons (aD (eVar 3)) (aCons (aD (eVar 1)) aNil)))))) (tNotM (tTru (mD (rFn (f1 gAll) (aCons (aD (mD (rComp (iSeq (eVar 3)) (gSet 4) (M.ret true) (mD (rCall s_is_subset (aCons (aD (eVar 2)) (aCons (aD (eVar 4)) aNil)))) [4]))) aNil)))))) (sRaise "InvalidRows" "given" (eVar 3)) sNil)
  (sSeq (sFldS clsT 0 "things" (eVar 1))
  (sSeq (sFldS clsT 0 "marks" (eVar 2))
  (sSeq (sFldS clsT 0 "rows" (eVar 3))
  (sSeq (sFldS clsT 0 "row_masks" (mD (rComp (iSeq (eVar 3)) (gSet 4) (M.ret true) (mD (rCall s_mask_of (aCons (aD (eVar 4)) aNil))) [4])))
  (sFldS clsT 0 "mark_masks" (mD (rComp (iRng1M (aCons (aD (eVar 2)) aNil)) (gSet 5) (M.ret true) (mD (rCall s_mask_of (aCons (aD (mD (rComp (iRng1M (aCons (aD (eVar 1)) aNil)) (gSet 6) (tCmp fIn (eVar 5) (eIxV 3 (eVar 6))) (eVar 6) [6]))) aNil))) [5]))))))))))
def s_Context___init__ : FS := sFun 7 4 b_Context___init__
theorem df_Context___init__ (T : Tab K mg) : DC P w K mg base 4 "Context" ["self", "things", "marks", "rows"] s_Context___init__ := dc_of (N := ["self", "things", "marks", "rows", "row", "mark", "thing"]) T.f_Context___init__ (by decide +kernel) rfl (fun _ _ _ _ _ _ us h => match us, h with | [u0, u1, u2, u3], _ => rfl) (fun W =>
  (dss_cons (ds_if (dt_not (dt_val (de_r (c_call (df_is_between T) rfl rfl (dp_cons (do_e (de_var (vk rfl)) rfl) (dp_cons (do_e de_int rfl) (dp_cons (do_e (de_gint T.g_MOST rfl) rfl) dp_nil))))) (fun _ _ => rfl))) (dss_one (ds_raise (ec_InvalidSize T) rfl rfl (de_var (vk rfl)) rfl)) dss_nil)
  (dss_cons (ds_if (dt_not (dt_val (de_r (c_call (df_is_between T) rfl rfl (dp_cons (do_e (de_var (vk rfl)) rfl) (dp_cons (do_e de_int rfl) (dp_cons (do_e (de_gint T.g_MOST rfl) rfl) dp_nil))))) (fun _ _ => rfl))) (dss_one (ds_raise (ec_InvalidSize T) rfl rfl (de_var (vk rfl)) rfl)) dss_nil)
  (dss_cons (ds_if (dt_w (dw_or (dt_not (dt_val (de_r (c_call (df_is_tuple_of T) rfl rfl (dp_cons (do_e (de_var (vk rfl)) rfl) (dp_cons (do_e (de_var (vk rfl)) rfl) dp_nil)))) (fun _ _ => rfl))) (dw_or1 (dt_not (dt_val (de_r (c_all T.bs rfl (dp_cons (do_e (de_r (dr_comp (di_seq (de_var (vk rfl))) (blkOk_by (own := [("row", 4)]) (by (try dsimp only [CI.blk]); decide +kernel)) (dg_name (sk rfl)) (by decide) dts_nil (de_r (c_call (df_is_subset T) rfl rfl (dp_cons (do_e (de_var (vk rfl)) rfl) (dp_cons (do_e (de_var (vk rfl)) rfl) dp_nil)))) (fun _ _ => rfl))) rfl) dp_nil))) (fun _ _ => rfl)))))) (dss_one (ds_raise (ec_InvalidRows T) rfl rfl (de_var (vk rfl)) rfl)) dss_nil)
  (dss_cons (ds_fld T.cl (vk rfl) (de_var (vk rfl)) (fun _ _ => rfl))
  (dss_cons (ds_fld T.cl (vk rfl) (de_var (vk rfl)) (fun _ _ => rfl))
  (dss_cons (ds_fld T.cl (vk rfl) (de_var (vk rfl)) (fun _ _ => rfl))
  (dss_cons (ds_fld T.cl (vk rfl) (de_r (dr_comp (di_seq (de_var (vk rfl))) (blkOk_by (own := [("row", 4)]) (by (try dsimp only [CI.blk]); decide +kernel)) (dg_name (sk rfl)) (by decide) dts_nil (de_r (c_call (df_mask_of T) rfl rfl (dp_cons (do_e (de_var (vk rfl)) rfl) dp_nil))) (fun _ _ => rfl))) (fun _ _ => rfl))
  (dss_one (ds_fld T.cl (vk rfl) (de_r (dr_comp (c_rng1 T.bs rfl (dp_cons (do_e (de_var (vk rfl)) rfl) dp_nil)) (blkOk_by (own := [("mark", 5)]) (by (try dsimp only [CI.blk]); decide +kernel)) (dg_name (sk rfl)) (by decide) dts_nil (de_r (c_call (df_mask_of T) rfl rfl (dp_cons (do_e (de_r (dr_comp (c_rng1 T.bs rfl (dp_cons (do_e (de_var (vk rfl)) rfl) dp_nil)) (blkOk_by (own := [("thing", 6)]) (by (try dsimp only [CI.blk]); decide +kernel)) (dg_name (sk rfl)) (by decide) (dts_one (dt_cmp o_in (de_var (vk rfl)) (de_ixV (vk rfl) (de_var (vk rfl)) (fun _ _ => rfl)) rfl)) (de_var (vk rfl)) (fun _ _ => rfl))) rfl) dp_nil))) (fun _ _ => rfl))) (fun _ _ => rfl)))))))))))
theorem dfk_Context___init__ (T : Tab K mg) : DCk P w K mg base 4 "Context" "Context.__init__" (clsM (topS 19) 0) ["self", "things", "marks", "rows"] s_Context___init__ := dck_of (N := ["self", "things", "marks", "rows", "row", "mark", "thing"]) T.f_Context___init__ (by decide +kernel) rfl (fun _ _ _ _ _ _ us h => match us, h with | [u0, u1, u2, u3], _ => rfl) (fun W =>
  (dss_cons (ds_if (dt_not (dt_val (de_r (c_call (df_is_between T) rfl rfl (dp_cons (do_e (de_var (vk rfl)) rfl) (dp_cons (do_e de_int rfl) (dp_cons (do_e (de_gint T.g_MOST rfl) rfl) dp_nil))))) (fun _ _ => rfl))) (dss_one (ds_raise (ec_InvalidSize T) rfl rfl (de_var (vk rfl)) rfl)) dss_nil)
  (dss_cons (ds_if (dt_not (dt_val (de_r (c_call (df_is_between T) rfl rfl (dp_cons (do_e (de_var (vk rfl)) rfl) (dp_cons (do_e de_int rfl) (dp_cons (do_e (de_gint T.g_MOST rfl) rfl) dp_nil))))) (fun _ _ => rfl))) (dss_one (ds_raise (ec_InvalidSize T) rfl rfl (de_var (vk rfl)) rfl)) dss_nil)
  (dss_cons (ds_if (dt_w (dw_or (dt_not (dt_val (de_r (c_call (df_is_tuple_of T) rfl rfl (dp_cons (do_e (de_var (vk rfl)) rfl) (dp_cons (do_e (de_var (vk rfl)) rfl) dp_nil)))) (fun _ _ => rfl))) (dw_or1 (dt_not (dt_val (de_r (c_all T.bs rfl (dp_cons (do_e (de_r (dr_comp (di_seq (de_var (vk rfl))) (blkOk_by (own := [("row", 4)]) (by (try dsimp only [CI.blk]); decide +kernel)) (dg_name (sk rfl)) (by decide) dts_nil (de_r (c_call (df_is_subset T) rfl rfl (dp_cons (do_e (de_var (vk rfl)) rfl) (dp_cons (do_e (de_var (vk rfl)) rfl) dp_nil)))) (fun _ _ => rfl))) rfl) dp_nil))) (fun _ _ => rfl)))))) (dss_one (ds_raise (ec_InvalidRows T) rfl rfl (de_var (vk rfl)) rfl)) dss_nil)
  (dss_cons (ds_fld T.cl (vk rfl) (de_var (vk rfl)) (fun _ _ => rfl))
  (dss_cons (ds_fld T.cl (vk rfl) (de_var (vk rfl)) (fun _ _ => rfl))
  (dss_cons (ds_fld T.cl (vk rfl) (de_var (vk rfl)) (fun _ _ => rfl))
  (dss_cons (ds_fld T.cl (vk rfl) (de_r (dr_comp (di_seq (de_var (vk rfl))) (blkOk_by (own := [("row", 4)]) (by (try dsimp only [CI.blk]); decide +kernel)) (dg_name (sk rfl)) (by decide) dts_nil (de_r (c_call (df_mask_of T) rfl rfl (dp_cons (do_e (de_var (vk rfl)) rfl) dp_nil))) (fun _ _ => rfl))) (fun _ _ => rfl))
  (dss_one (ds_fld T.cl (vk rfl) (de_r (dr_comp (c_rng1 T.bs rfl (dp_cons (do_e (de_var (vk rfl)) rfl) dp_nil)) (blkOk_by (own := [("mark", 5)]) (by (try dsimp only [CI.blk]); decide +kernel)) (dg_name (sk rfl)) (by decide) dts_nil (de_r (c_call (df_mask_of T) rfl rfl (dp_cons (do_e (de_r (dr_comp (c_rng1 T.bs rfl (dp_cons (do_e (de_var (vk rfl)) rfl) dp_nil)) (blkOk_by (own := [("thing", 6)]) (by (try dsimp only [CI.blk]); decide +kernel)) (dg_name (sk rfl)) (by decide) (dts_one (dt_cmp o_in (de_var (vk rfl)) (de_ixV (vk rfl) (de_var (vk rfl)) (fun _ _ => rfl)) rfl)) (de_var (vk rfl)) (fun _ _ => rfl))) rfl) dp_nil))) (fun _ _ => rfl))) (fun _ _ => rfl)))))))))))
/-! _law_made: names context=0 row=1; own:  -/
def b__law_made : M Fl :=
  (sRet (rMake "Context" s_Context___init__ (aCons (aD (eIxV 0 (eC (.int 0)))) (aCons (aD (eIxV 0 (eC (.int 1)))) (aCons (aD (mD (rFn (f1 gTuple) (aCons (aD (mD (rComp (iSeq (eIxV 0 (eC (.int 2)))) (gSet 1) (M.ret true) (mD (rCall s__law_set (aCons (aD (eVar 1)) aNil))) [1]))) aNil)))) aNil)))))
def s__law_made : FS := sFun 2 1 b__law_made
theorem df__law_made (T : Tab K mg) : DF P w K mg base 6 "_law_made" (topS 30) ["context"] s__law_made := df_of (N := ["context", "row"]) T.f__law_made (by decide +kernel) rfl (fun _ _ _ _ _ _ us h => match us, h with | [u0], _ => rfl) (fun W =>
  (dss_one (ds_ret (dr_make (df_Context___init__ T) rfl rfl (dp_cons (do_e (de_ixV (vk rfl) de_int (fun _ _ => rfl)) rfl) (dp_cons (do_e (de_ixV (vk rfl) de_int (fun _ _ => rfl)) rfl) (dp_cons (do_e (de_r (c_tuple T.bs rfl (dp_cons (do_e (de_r (dr_comp (di_seq (de_ixV (vk rfl) de_int (fun _ _ => rfl))) (blkOk_by (own := [("row", 1)]) (by (try dsimp only [CI.blk]); decide +kernel)) (dg_name (sk rfl)) (by decide) dts_nil (de_r (c_call (df__law_set T) rfl rfl (dp_cons (do_e (de_var (vk rfl)) rfl) dp_nil))) (fun _ _ => rfl))) rfl) dp_nil))) rfl) dp_nil)))))))
/-! _law_caught: names box=0 things=1 marks=2 rows=3 by_name=4 e=5; own: box -/
def b__law_caught : M Fl :=
  (sSeq (sAsg (mD (rBin fEq (mD (rCall s__law_take (aCons (eAt 0) (aCons (aD (eC (.int 2))) aNil)))) (eC (.int 1)))) (gSet 4))
  (sTryM [("InvalidRows", "InvalidSize")] [("InvalidSize", (sSuT [.inl (.str "size"), .inr "given"] 5)), ("InvalidRows", (sSuT [.inl (.str "rows"), .inr "given"] 5))] (sRet (mR (eTup (aCons (aD (eC (.str "told"))) (aCons (aD (mD (rIf (tTru (eVar 4)) (rMakeK "Context" s_Context___init__ 0 3 [0, 3, 2, 1] aNil (aCons (aD (eVar 3)) (aCons (aD (eVar 2)) (aCons (aD (eVar 1)) aNil)))) (rMake "Context" s_Context___init__ (aCons (aD (eVar 1)) (aCons (aD (eVar 2)) (aCons (aD (eVar 3)) aNil))))))) aNil)))))))
def s__law_caught : FS := sFun 6 4 b__law_caught
theorem df__law_caught (T : Tab K mg) : DF P w K mg base 6 "_law_caught" (topS 31) ["box", "things", "marks", "rows"] s__law_caught := df_ofF (N := ["box", "things", "marks", "rows", "by_name", "e"]) T.f__law_caught (by decide +kernel) rfl (fun _ _ _ _ _ _ us h => match us, h with | [u0, u1, u2, u3], _ => rfl) (fun W =>
  (dssf_cons (dsf (ds_set (sk rfl) (de_r (dr_cmp o_eq (de_r (c_call (df__law_take T) rfl rfl (dp_cons (do_at (vk rfl)) (dp_cons (do_e de_int rfl) dp_nil)))) de_int rfl)) (fun _ _ => rfl)))
  (dssf_one (dsf_tryM (exms_cons T.x_InvalidRows_InvalidSize exms_nil) (fun W => (dss_one (ds_ret (dr_e (de_tup (dp_cons (do_e de_str rfl) (dp_cons (do_e (de_r (dr_if (dt_val (de_var (vk rfl)) (fun _ _ => rfl)) (dr_makeK0 (dfk_Context___init__ T) rfl rfl (dk_cons (do_e (de_var (vk rfl)) rfl) (dk_cons (do_e (de_var (vk rfl)) rfl) (dk_cons (do_e (de_var (vk rfl)) rfl) dk_nil))) (show KwM "__init__" "Context.__init__" (clsM (topS 19) 0) ["self", "things", "marks", "rows"] ["rows", "marks", "things"] 1 [0, 3, 2, 1] from ⟨rfl, fun _ _ _ _ _ _ us ws h1 h2 => match us, ws, h1, h2 with | [u0], [w0, w1, w2], _, _ => rfl⟩) (fun _ => rfl) (fun _ => rfl) (fun _ => rfl)) (dr_make (df_Context___init__ T) rfl rfl (dp_cons (do_e (de_var (vk rfl)) rfl) (dp_cons (do_e (de_var (vk rfl)) rfl) (dp_cons (do_e (de_var (vk rfl)) rfl) dp_nil)))))) rfl) dp_nil))))))) (dhs_cons (dhd_T (exm_of T.e_InvalidSize fun C tC hno => (dxs_cons dx_str (dxs_cons (dx_fld tC hno (vk rfl) (fun _ => rfl)) dxs_nil))) rfl rfl rfl) (dhs_cons (dhd_T (exm_of T.e_InvalidRows fun C tC hno => (dxs_cons dx_str (dxs_cons (dx_fld tC hno (vk rfl) (fun _ => rfl)) dxs_nil))) rfl rfl rfl) dhs_nil))))))
/-! Context_things_at: names self=0 mask=1; own:  -/
def b_Context_things_at : M Fl :=
  (sRet (rCall s_shared_mask (aCons (aD (eFldV clsT 0 "mark_masks")) (aCons (aD (eVar 1)) (aCons (aD (mD (rBin fSub (mD (rBin fShl (eC (.int 1)) (eFldV clsT 0 "things"))) (eC (.int 1))))) aNil)))))
def s_Context_things_at : FS := sFun 2 2 b_Context_things_at
theorem df_Context_things_at (T : Tab K mg) : DM P w K mg base 3 "Context" "things_at" ["self", "mask"] s_Context_things_at := dm_of (N := ["self", "mask"]) T.f_Context_things_at (by decide +kernel) rfl (fun _ _ _ _ _ _ us h => match us, h with | [u0, u1], _ => rfl) (fun W =>
  (dss_one (ds_ret (c_call (df_shared_mask T) rfl rfl (dp_cons (do_e (de_fldV T.cl (vk rfl) (fun _ => rfl)) rfl) (dp_cons (do_e (de_var (vk rfl)) rfl) (dp_cons (do_e (de_r (dr_bin o_sub (de_r (dr_bin o_shl de_int (de_fldV T.cl (vk rfl) (fun _ => rfl)))) de_int)) rfl) dp_nil)))))))
/-! Context_common_things: names self=0 subset=1; own:  -/
def b_Context_common_things : M Fl :=
  (sSeq (sIf (tNotM (tTru (mD (rCall s_is_subset (aCons (aD (eFldV clsT 0 "marks")) (aCons (aD (eVar 1)) aNil)))))) (sRaise "InvalidSubset" "given" (eVar 1)) sNil)
  (sRet (rCall s_subset_of (aCons (aD (mD (rMeth "Context" "things_at" s_Context_things_at (eVar 0) (aCons (aD (mD (rCall s_mask_of (aCons (aD (eVar 1)) aNil)))) aNil)))) aNil))))
def s_Context_common_things : FS := sFun 2 2 b_Context_common_things
theorem df_Context_common_things (T : Tab K mg) : DM P w K mg base 4 "Context" "common_things" ["self", "subset"] s_Context_common_things := dm_of (N := ["self", "subset"]) T.f_Context_common_things (by decide +kernel) rfl (fun _ _ _ _ _ _ us h => match us, h with | [u0, u1], _ => rfl) (fun W =>
  (dss_cons (ds_if (dt_not (dt_val (de_r (c_call (df_is_subset T) rfl rfl (dp_cons (do_e (de_fldV T.cl (vk rfl) (fun _ => rfl)) rfl) (dp_cons (do_e (de_var (vk rfl)) rfl) dp_nil)))) (fun _ _ => rfl))) (dss_one (ds_raise (ec_InvalidSubset T) rfl rfl (de_var (vk rfl)) rfl)) dss_nil)
  (dss_one (ds_ret (c_call (df_subset_of T) rfl rfl (dp_cons (do_e (de_r (dr_meth (df_Context_things_at T) rfl (de_var (vk rfl)) (dp_cons (do_e (de_r (c_call (df_mask_of T) rfl rfl (dp_cons (do_e (de_var (vk rfl)) rfl) dp_nil))) rfl) dp_nil) (fun _ => rfl))) rfl) dp_nil))))))
theorem dfk_Context_common_things (T : Tab K mg) : DMk P w K mg base 4 "Context" "common_things" "Context.common_things" (clsM (topS 19) 6) ["self", "subset"] s_Context_common_things := dmk_of (N := ["self", "subset"]) T.f_Context_common_things (by decide +kernel) rfl (fun _ _ _ _ _ _ us h => match us, h with | [u0, u1], _ => rfl) (fun W =>
  (dss_cons (ds_if (dt_not (dt_val (de_r (c_call (df_is_subset T) rfl rfl (dp_cons (do_e (de_fldV T.cl (vk rfl) (fun _ => rfl)) rfl) (dp_cons (do_e (de_var (vk rfl)) rfl) dp_nil)))) (fun _ _ => rfl))) (dss_one (ds_raise (ec_InvalidSubset T) rfl rfl (de_var (vk rfl)) rfl)) dss_nil)
  (dss_one (ds_ret (c_call (df_subset_of T) rfl rfl (dp_cons (do_e (de_r (dr_meth (df_Context_things_at T) rfl (de_var (vk rfl)) (dp_cons (do_e (de_r (c_call (df_mask_of T) rfl rfl (dp_cons (do_e (de_var (vk rfl)) rfl) dp_nil))) rfl) dp_nil) (fun _ => rfl))) rfl) dp_nil))))))
/-! Context_marks_at: names self=0 mask=1; own:  -/
def b_Context_marks_at : M Fl :=
  (sRet (rCall s_shared_mask (aCons (aD (eFldV clsT 0 "row_masks")) (aCons (aD (eVar 1)) (aCons (aD (mD (rBin fSub (mD (rBin fShl (eC (.int 1)) (eFldV clsT 0 "marks"))) (eC (.int 1))))) aNil)))))
def s_Context_marks_at : FS := sFun 2 2 b_Context_marks_at
theorem df_Context_marks_at (T : Tab K mg) : DM P w K mg base 3 "Context" "marks_at" ["self", "mask"] s_Context_marks_at := dm_of (N := ["self", "mask"]) T.f_Context_marks_at (by decide +kernel) rfl (fun _ _ _ _ _ _ us h => match us, h with | [u0, u1], _ => rfl) (fun W =>
  (dss_one (ds_ret (c_call (df_shared_mask T) rfl rfl (dp_cons (do_e (de_fldV T.cl (vk rfl) (fun _ => rfl)) rfl) (dp_cons (do_e (de_var (vk rfl)) rfl) (dp_cons (do_e (de_r (dr_bin o_sub (de_r (dr_bin o_shl de_int (de_fldV T.cl (vk rfl) (fun _ => rfl)))) de_int)) rfl) dp_nil)))))))
/-! Context_common_marks: names self=0 subset=1; own:  -/
def b_Context_common_marks : M Fl :=
  (sSeq (sIf (tNotM (tTru (mD (rCall s_is_subset (aCons (aD (eFldV clsT 0 "things")) (aCons (aD (eVar 1)) aNil)))))) (sRaise "InvalidSubset" "given" (eVar 1)) sNil)
  (sRet (rCall s_subset_of (aCons (aD (mD (rMeth "Context" "marks_at" s_Context_marks_at (eVar 0) (aCons (aD (mD (rCall s_mask_of (aCons (aD (eVar 1)) aNil)))) aNil)))) aNil))))
def s_Context_common_marks : FS := sFun 2 2 b_Context_common_marks
theorem df_Context_common_marks (T : Tab K mg) : DM P w K mg base 4 "Context" "common_marks" ["self", "subset"] s_Context_common_marks := dm_of (N := ["self", "subset"]) T.f_Context_common_marks (by decide +kernel) rfl (fun _ _ _ _ _ _ us h => match us, h with | [u0, u1], _ => rfl) (fun W =>
  (dss_cons (ds_if (dt_not (dt_val (de_r (c_call (df_is_subset T) rfl rfl (dp_cons (do_e (de_fldV T.cl (vk rfl) (fun _ => rfl)) rfl) (dp_cons (do_e (de_var (vk rfl)) rfl) dp_nil)))) (fun _ _ => rfl))) (dss_one (ds_raise (ec_InvalidSubset T) rfl rfl (de_var (vk rfl)) rfl)) dss_nil)
  (dss_one (ds_ret (c_call (df_subset_of T) rfl rfl (dp_cons (do_e (de_r (dr_meth (df_Context_marks_at T) rfl (de_var (vk rfl)) (dp_cons (do_e (de_r (c_call (df_mask_of T) rfl rfl (dp_cons (do_e (de_var (vk rfl)) rfl) dp_nil))) rfl) dp_nil) (fun _ => rfl))) rfl) dp_nil))))))
theorem dfk_Context_common_marks (T : Tab K mg) : DMk P w K mg base 4 "Context" "common_marks" "Context.common_marks" (clsM (topS 19) 5) ["self", "subset"] s_Context_common_marks := dmk_of (N := ["self", "subset"]) T.f_Context_common_marks (by decide +kernel) rfl (fun _ _ _ _ _ _ us h => match us, h with | [u0, u1], _ => rfl) (fun W =>
  (dss_cons (ds_if (dt_not (dt_val (de_r (c_call (df_is_subset T) rfl rfl (dp_cons (do_e (de_fldV T.cl (vk rfl) (fun _ => rfl)) rfl) (dp_cons (do_e (de_var (vk rfl)) rfl) dp_nil)))) (fun _ _ => rfl))) (dss_one (ds_raise (ec_InvalidSubset T) rfl rfl (de_var (vk rfl)) rfl)) dss_nil)
  (dss_one (ds_ret (c_call (df_subset_of T) rfl rfl (dp_cons (do_e (de_r (dr_meth (df_Context_marks_at T) rfl (de_var (vk rfl)) (dp_cons (do_e (de_r (c_call (df_mask_of T) rfl rfl (dp_cons (do_e (de_var (vk rfl)) rfl) dp_nil))) rfl) dp_nil) (fun _ => rfl))) rfl) dp_nil))))))
/-! _law_asked: names box=0 context=1 word=2 subset=3 by_name=4 e=5; own: box -/
def b__law_asked : M Fl :=
  (sSeq (sAsg (mD (rBin fEq (mD (rCall s__law_take (aCons (eAt 0) (aCons (aD (eC (.int 2))) aNil)))) (eC (.int 1)))) (gSet 4))
  (sTry "InvalidSubset" (sSeq (sIf (tCmp fEq (eVar 2) (eC (.str "marks"))) (sRet (mR (eTup (aCons (aD (eC (.str "told"))) (aCons (aD (mD (rIf (tTru (eVar 4)) (rMethK "Context" "common_marks" s_Context_common_marks 0 1 [0, 1] (eVar 1) aNil (aCons (aD (eVar 3)) aNil)) (rMeth "Context" "common_marks" s_Context_common_marks (eVar 1) (aCons (aD (eVar 3)) aNil))))) aNil))))) sNil)
  (sRet (mR (eTup (aCons (aD (eC (.str "told"))) (aCons (aD (mD (rIf (tTru (eVar 4)) (rMethK "Context" "common_things" s_Context_common_things 0 1 [0, 1] (eVar 1) aNil (aCons (aD (eVar 3)) aNil)) (rMeth "Context" "common_things" s_Context_common_things (eVar 1) (aCons (aD (eVar 3)) aNil))))) aNil)))))) (sSuT [.inl (.str "subset"), .inr "given"] 5)))
def s__law_asked : FS := sFun 6 4 b__law_asked
theorem df__law_asked (T : Tab K mg) : DF P w K mg base 5 "_law_asked" (topS 32) ["box", "context", "word", "subset"] s__law_asked := df_ofF (N := ["box", "context", "word", "subset", "by_name", "e"]) T.f__law_asked (by decide +kernel) rfl (fun _ _ _ _ _ _ us h => match us, h with | [u0, u1, u2, u3], _ => rfl) (fun W =>
  (dssf_cons (dsf (ds_set (sk rfl) (de_r (dr_cmp o_eq (de_r (c_call (df__law_take T) rfl rfl (dp_cons (do_at (vk rfl)) (dp_cons (do_e de_int rfl) dp_nil)))) de_int rfl)) (fun _ _ => rfl)))
  (dssf_one (dsf_tryT (exm_of T.e_InvalidSubset fun C tC hno => (dxs_cons dx_str (dxs_cons (dx_fld tC hno (vk rfl) (fun _ => rfl)) dxs_nil))) (fun W => (dss_cons (ds_if (dt_cmp o_eq (de_var (vk rfl)) de_str rfl) (dss_one (ds_ret (dr_e (de_tup (dp_cons (do_e de_str rfl) (dp_cons (do_e (de_r (dr_if (dt_val (de_var (vk rfl)) (fun _ _ => rfl)) (dr_methK0 (dfk_Context_common_marks T) rfl (de_var (vk rfl)) (dk_cons (do_e (de_var (vk rfl)) rfl) dk_nil) (show KwM (Str.ofString "common_marks") "Context.common_marks" (clsM (topS 19) 5) ["self", "subset"] ["subset"] 1 [0, 1] from ⟨rfl, fun _ _ _ _ _ _ us ws h1 h2 => match us, ws, h1, h2 with | [u0], [w0], _, _ => rfl⟩) (fun _ => rfl) (fun _ => rfl) (fun _ => rfl) (fun _ => rfl)) (dr_meth (df_Context_common_marks T) rfl (de_var (vk rfl)) (dp_cons (do_e (de_var (vk rfl)) rfl) dp_nil) (fun _ => rfl)))) rfl) dp_nil)))))) dss_nil)
  (dss_one (ds_ret (dr_e (de_tup (dp_cons (do_e de_str rfl) (dp_cons (do_e (de_r (dr_if (dt_val (de_var (vk rfl)) (fun _ _ => rfl)) (dr_methK0 (dfk_Context_common_things T) rfl (de_var (vk rfl)) (dk_cons (do_e (de_var (vk rfl)) rfl) dk_nil) (show KwM (Str.ofString "common_things") "Context.common_things" (clsM (topS 19) 6) ["self", "subset"] ["subset"] 1 [0, 1] from ⟨rfl, fun _ _ _ _ _ _ us ws h1 h2 => match us, ws, h1, h2 with | [u0], [w0], _, _ => rfl⟩) (fun _ => rfl) (fun _ => rfl) (fun _ => rfl) (fun _ => rfl)) (dr_meth (df_Context_common_things T) rfl (de_var (vk rfl)) (dp_cons (do_e (de_var (vk rfl)) rfl) dp_nil) (fun _ => rfl)))) rfl) dp_nil)))))))) rfl rfl rfl))))
/-! _law_common_right: names box=0 context=1 due=2 turn=3 some=4 marks=5 things=6; own: box -/
def b__law_common_right : M Fl :=
  (sSeq (sFor (iRng1M (aCons (aD (eC (.int 5))) aNil)) (gSet 3)
  (sSeq (sAsg (mD (rLst (aCons (aD (mD (rCall s__law_take (aCons (eAt 0) (aCons (aD (mD (rBin fShl (eC (.int 1)) (eIxV 2 (eC (.int 0)))))) aNil))))) (aCons (aD (mD (rCall s__law_take (aCons (eAt 0) (aCons (aD (mD (rBin fShl (eC (.int 1)) (eIxV 2 (eC (.int 1)))))) aNil))))) aNil)))) (gSet 4))
  (sSeq (sIf (tCmp fEq (eVar 3) (eC (.int 0))) (sAsg (mD (rLst (aCons (aD (eC (.int 0))) (aCons (aD (eC (.int 0))) aNil)))) (gSet 4)) sNil)
  (sSeq (sPar (aCons (aD (mD (rCall s__law_marks (aCons (aD (eVar 2)) (aCons (aD (eIxV 4 (eC (.int 0)))) aNil))))) (aCons (aD (mD (rCall s__law_things (aCons (aD (eVar 2)) (aCons (aD (eIxV 4 (eC (.int 1)))) aNil))))) aNil)) 5 6)
  (sSeq (sIf (tNotM (tTru (mD (rCall s__law_same (aCons (aD (mD (rCall s__law_asked (aCons (eAt 0) (aCons (aD (eVar 1)) (aCons (aD (eC (.str "marks"))) (aCons (aD (mD (rCall s__law_set (aCons (aD (eIxV 4 (eC (.int 0)))) aNil)))) aNil))))))) (aCons (aD (eTup (aCons (aD (eC (.str "told"))) (aCons (aD (mD (rCall s__law_set (aCons (aD (eVar 5)) aNil)))) aNil)))) aNil)))))) (sRet (mR (eC (.bl false)))) sNil)
  (sIf (tNotM (tTru (mD (rCall s__law_same (aCons (aD (mD (rCall s__law_asked (aCons (eAt 0) (aCons (aD (eVar 1)) (aCons (aD (eC (.str "things"))) (aCons (aD (mD (rCall s__law_set (aCons (aD (eIxV 4 (eC (.int 1)))) aNil)))) aNil))))))) (aCons (aD (eTup (aCons (aD (eC (.str "told"))) (aCons (aD (mD (rCall s__law_set (aCons (aD (eVar 6)) aNil)))) aNil)))) aNil)))))) (sRet (mR (eC (.bl false)))) sNil))))))
  (sRet (mR (eC (.bl true)))))
def s__law_common_right : FS := sFun 7 3 b__law_common_right
theorem df__law_common_right (T : Tab K mg) : DF P w K mg base 14 "_law_common_right" (topS 33) ["box", "context", "due"] s__law_common_right := df_of (N := ["box", "context", "due", "turn", "some", "marks", "things"]) T.f__law_common_right (by decide +kernel) rfl (fun _ _ _ _ _ _ us h => match us, h with | [u0, u1, u2], _ => rfl) (fun W =>
  (dss_cons (ds_for (c_rng1 T.bs rfl (dp_cons (do_e de_int rfl) dp_nil)) (dg_name (sk rfl)) gSet_ne (dss_cons (ds_set (sk rfl) (de_r (dr_lst (dp_cons (do_e (de_r (c_call (df__law_take T) rfl rfl (dp_cons (do_at (vk rfl)) (dp_cons (do_e (de_r (dr_bin o_shl de_int (de_ixV (vk rfl) de_int (fun _ _ => rfl)))) rfl) dp_nil)))) rfl) (dp_cons (do_e (de_r (c_call (df__law_take T) rfl rfl (dp_cons (do_at (vk rfl)) (dp_cons (do_e (de_r (dr_bin o_shl de_int (de_ixV (vk rfl) de_int (fun _ _ => rfl)))) rfl) dp_nil)))) rfl) dp_nil)))) (fun _ _ => rfl))
  (dss_cons (ds_if (dt_cmp o_eq (de_var (vk rfl)) de_int rfl) (dss_one (ds_set (sk rfl) (de_r (dr_lst (dp_cons (do_e de_int rfl) (dp_cons (do_e de_int rfl) dp_nil)))) (fun _ _ => rfl))) dss_nil)
  (dss_cons (ds_par rfl rfl (by decide) rfl rfl (dp_cons (do_e (de_r (c_call (df__law_marks T) rfl rfl (dp_cons (do_e (de_var (vk rfl)) rfl) (dp_cons (do_e (de_ixV (vk rfl) de_int (fun _ _ => rfl)) rfl) dp_nil)))) rfl) (dp_cons (do_e (de_r (c_call (df__law_things T) rfl rfl (dp_cons (do_e (de_var (vk rfl)) rfl) (dp_cons (do_e (de_ixV (vk rfl) de_int (fun _ _ => rfl)) rfl) dp_nil)))) rfl) dp_nil)) (by intro env h; cases env; cases h; rfl) (fun _ => rfl))
  (dss_cons (ds_if (dt_not (dt_val (de_r (c_call (df__law_same T) rfl rfl (dp_cons (do_e (de_r (c_call (df__law_asked T) rfl rfl (dp_cons (do_at (vk rfl)) (dp_cons (do_e (de_var (vk rfl)) rfl) (dp_cons (do_e de_str rfl) (dp_cons (do_e (de_r (c_call (df__law_set T) rfl rfl (dp_cons (do_e (de_ixV (vk rfl) de_int (fun _ _ => rfl)) rfl) dp_nil))) rfl) dp_nil)))))) rfl) (dp_cons (do_e (de_tup (dp_cons (do_e de_str rfl) (dp_cons (do_e (de_r (c_call (df__law_set T) rfl rfl (dp_cons (do_e (de_var (vk rfl)) rfl) dp_nil))) rfl) dp_nil))) rfl) dp_nil)))) (fun _ _ => rfl))) (dss_one (ds_ret (dr_e de_bl))) dss_nil)
  (dss_one (ds_if (dt_not (dt_val (de_r (c_call (df__law_same T) rfl rfl (dp_cons (do_e (de_r (c_call (df__law_asked T) rfl rfl (dp_cons (do_at (vk rfl)) (dp_cons (do_e (de_var (vk rfl)) rfl) (dp_cons (do_e de_str rfl) (dp_cons (do_e (de_r (c_call (df__law_set T) rfl rfl (dp_cons (do_e (de_ixV (vk rfl) de_int (fun _ _ => rfl)) rfl) dp_nil))) rfl) dp_nil)))))) rfl) (dp_cons (do_e (de_tup (dp_cons (do_e de_str rfl) (dp_cons (do_e (de_r (c_call (df__law_set T) rfl rfl (dp_cons (do_e (de_var (vk rfl)) rfl) dp_nil))) rfl) dp_nil))) rfl) dp_nil)))) (fun _ _ => rfl))) (dss_one (ds_ret (dr_e de_bl))) dss_nil)))))) (fun _ _ => rfl))
  (dss_one (ds_ret (dr_e de_bl)))))
/-! _law_sets_refused_right: names box=0 context=1 due=2 word=3 many=4 bad=5 value=6 told=7; own: box -/
def b__law_sets_refused_right : M Fl :=
  (sSeq (sFor (iSeq (mD (rLst (aCons (aD (eTup (aCons (aD (eC (.str "marks"))) (aCons (aD (eIxV 2 (eC (.int 0)))) aNil)))) (aCons (aD (eTup (aCons (aD (eC (.str "things"))) (aCons (aD (eIxV 2 (eC (.int 1)))) aNil)))) aNil))))) (gSeqM 2 (gConsM (gSet 3) (gConsM (gSet 4) gNilM)))
  (sSeq (sAsg (mD (rLst (aCons (aD (eC .non)) (aCons (aD (eC (.str "0"))) (aCons (aD (eC (.int 0))) (aCons (aD (mD (rLst (aCons (aD (eC (.int 0))) aNil)))) (aCons (aD (eTup (aCons (aD (eC (.int 0))) (aCons (aD (eC (.int 0))) aNil)))) (aCons (aD (eTup (aCons (aD (eVar 4)) aNil))) (aCons (aD (eTup (aCons (aD (eUn (fun i => -i) (eC (.int 1)))) aNil))) (aCons (aD (eTup (aCons (aD (eC (.bl true))) aNil))) (aCons (aD (eTup (aCons (aD (eC (.str "0"))) aNil))) (aCons (aD (eC (.dct []))) (aCons (aD (eTup (aCons (aD (eC (.int 0))) (aCons (aD (eC .non)) aNil)))) (aCons (aD (eTup (aCons (aD (eTup (aCons (aD (eC (.int 0))) aNil))) aNil))) (aCons (aD (mD (rLst aNil))) (aCons (aD (eTup (aCons (aD (mD (rBin fSub (eVar 4) (eC (.int 1))))) (aCons (aD (eVar 4)) aNil)))) aNil)))))))))))))))) (gSet 5))
  (sSeq (sIf (tCmp fGt (eVar 4) (eC (.int 1))) (sAsg (mD (rBin fAdd (eVar 5) (mD (rLst (aCons (aD (eTup (aCons (aD (eC (.int 1))) (aCons (aD (eC (.int 0))) aNil)))) (aCons (aD (mD (rLst (aCons (aD (eC (.int 0))) (aCons (aD (eC (.int 1))) aNil))))) (aCons (aD (eTup (aCons (aD (eC (.int 0))) (aCons (aD (eC (.int 1))) (aCons (aD (eC (.int 1))) aNil))))) aNil))))))) (gSet 5)) sNil)
  (sFor (iSeq (eVar 5)) (gSet 6)
  (sSeq (sAsg (mD (rCall s__law_asked (aCons (eAt 0) (aCons (aD (eVar 1)) (aCons (aD (eVar 3)) (aCons (aD (eVar 6)) aNil)))))) (gSet 7))
  (sIf (tOrM (tCmp fNe (eIxV 7 (eC (.int 0))) (eC (.str "subset"))) (tAndM (tNotM (tTru (mD (rOne (eVar 6) (isiD "dict"))))) (tNotM (tTru (mD (rCall s__law_same (aCons (aD (eIxV 7 (eC (.int 1)))) (aCons (aD (eVar 6)) aNil)))))))) (sRet (mR (eC (.bl false)))) sNil))))))
  (sRet (mR (eC (.bl true)))))
def s__law_sets_refused_right : FS := sFun 8 3 b__law_sets_refused_right
theorem df__law_sets_refused_right (T : Tab K mg) : DF P w K mg base 14 "_law_sets_refused_right" (topS 34) ["box", "context", "due"] s__law_sets_refused_right := df_of (N := ["box", "context", "due", "word", "many", "bad", "value", "told"]) T.f__law_sets_refused_right (by decide +kernel) rfl (fun _ _ _ _ _ _ us h => match us, h with | [u0, u1, u2], _ => rfl) (fun W =>
  (dss_cons (ds_for (di_seq (de_r (dr_lst (dp_cons (do_e (de_tup (dp_cons (do_e de_str rfl) (dp_cons (do_e (de_ixV (vk rfl) de_int (fun _ _ => rfl)) rfl) dp_nil))) rfl) (dp_cons (do_e (de_tup (dp_cons (do_e de_str rfl) (dp_cons (do_e (de_ixV (vk rfl) de_int (fun _ _ => rfl)) rfl) dp_nil))) rfl) dp_nil))))) (dg_seq (dgs_cons rfl (dg_name (sk rfl)) (dgs_cons rfl (dg_name (sk rfl)) dgs_nil))) (gSeq_ne (gCons_ne gSet_ne (gCons_ne gSet_ne gNil_ne))) (dss_cons (ds_set (sk rfl) (de_r (dr_lst (dp_cons (do_e de_non rfl) (dp_cons (do_e de_str rfl) (dp_cons (do_e de_int rfl) (dp_cons (do_e (de_r (dr_lst (dp_cons (do_e de_int rfl) dp_nil))) rfl) (dp_cons (do_e (de_tup (dp_cons (do_e de_int rfl) (dp_cons (do_e de_int rfl) dp_nil))) rfl) (dp_cons (do_e (de_tup (dp_cons (do_e (de_var (vk rfl)) rfl) dp_nil)) rfl) (dp_cons (do_e (de_tup (dp_cons (do_e (de_neg de_int) rfl) dp_nil)) rfl) (dp_cons (do_e (de_tup (dp_cons (do_e de_bl rfl) dp_nil)) rfl) (dp_cons (do_e (de_tup (dp_cons (do_e de_str rfl) dp_nil)) rfl) (dp_cons (do_e de_dict0 rfl) (dp_cons (do_e (de_tup (dp_cons (do_e de_int rfl) (dp_cons (do_e de_non rfl) dp_nil))) rfl) (dp_cons (do_e (de_tup (dp_cons (do_e (de_tup (dp_cons (do_e de_int rfl) dp_nil)) rfl) dp_nil)) rfl) (dp_cons (do_e (de_r (dr_lst dp_nil)) rfl) (dp_cons (do_e (de_tup (dp_cons (do_e (de_r (dr_bin o_sub (de_var (vk rfl)) de_int)) rfl) (dp_cons (do_e (de_var (vk rfl)) rfl) dp_nil))) rfl) dp_nil)))))))))))))))) (fun _ _ => rfl))
  (dss_cons (ds_if (dt_cmp o_gt (de_var (vk rfl)) de_int rfl) (dss_one (ds_set (sk rfl) (de_r (dr_bin o_add (de_var (vk rfl)) (de_r (dr_lst (dp_cons (do_e (de_tup (dp_cons (do_e de_int rfl) (dp_cons (do_e de_int rfl) dp_nil))) rfl) (dp_cons (do_e (de_r (dr_lst (dp_cons (do_e de_int rfl) (dp_cons (do_e de_int rfl) dp_nil)))) rfl) (dp_cons (do_e (de_tup (dp_cons (do_e de_int rfl) (dp_cons (do_e de_int rfl) (dp_cons (do_e de_int rfl) dp_nil)))) rfl) dp_nil))))))) (fun _ _ => rfl))) dss_nil)
  (dss_one (ds_for (di_seq (de_var (vk rfl))) (dg_name (sk rfl)) gSet_ne (dss_cons (ds_set (sk rfl) (de_r (c_call (df__law_asked T) rfl rfl (dp_cons (do_at (vk rfl)) (dp_cons (do_e (de_var (vk rfl)) rfl) (dp_cons (do_e (de_var (vk rfl)) rfl) (dp_cons (do_e (de_var (vk rfl)) rfl) dp_nil)))))) (fun _ _ => rfl))
  (dss_one (ds_if (dt_w (dw_or (dt_cmp o_ne (de_ixV (vk rfl) de_int (fun _ _ => rfl)) de_str rfl) (dw_or1 (dt_w (dw_and (dt_not (dt_val (de_r (c_isi_dict T.bs rfl rfl (de_var (vk rfl)) rfl)) (fun _ _ => rfl))) (dw_and1 (dt_not (dt_val (de_r (c_call (df__law_same T) rfl rfl (dp_cons (do_e (de_ixV (vk rfl) de_int (fun _ _ => rfl)) rfl) (dp_cons (do_e (de_var (vk rfl)) rfl) dp_nil)))) (fun _ _ => rfl))))))))) (dss_one (ds_ret (dr_e de_bl))) dss_nil))) (fun _ _ => rfl))))) (fun _ _ => rfl))
  (dss_one (ds_ret (dr_e de_bl)))))
/-! Context___eq__: names self=0 other=1; own:  -/
def b_Context___eq__ : M Fl :=
  (sRet (mR (eAnd (mD (rOne (eVar 1) (isaD "Context"))) (eAnd (mD (rBin fEq (eFldV clsT 0 "marks") (eFldV clsT 1 "marks"))) (mD (rBin fEq (eFldV clsT 0 "rows") (eFldV clsT 1 "rows")))))))
def s_Context___eq__ : FS := sFun 2 2 b_Context___eq__
theorem df_Context___eq__ (T : Tab K mg) : DM P w K mg base 1 "Context" "__eq__" ["self", "other"] s_Context___eq__ := dm_of (N := ["self", "other"]) T.f_Context___eq__ (by decide +kernel) rfl (fun _ _ _ _ _ _ us h => match us, h with | [u0, u1], _ => rfl) (fun W =>
  (dss_one (ds_ret (dr_e (de_and (de_r (c_isaB T.is_Context T.bs rfl rfl (de_var (vk rfl)) rfl)) (de_and (de_r (dr_cmp o_eq (de_fldV T.cl (vk rfl) (fun _ => rfl)) (de_fldV T.cl (vk rfl) (fun _ => rfl)) rfl)) (de_one (de_r (dr_cmp o_eq (de_fldV T.cl (vk rfl) (fun _ => rfl)) (de_fldV T.cl (vk rfl) (fun _ => rfl)) rfl)))))))))
/-! _law_equals_right: names context=0 due=1 rows=2 others=3 g=4 other=5 row=6; own: others -/
def b__law_equals_right : M Fl :=
  (sSeq (sAsg (mD (rFn (f1 gTuple) (aCons (aD (mD (rComp (iSeq (eIxV 1 (eC (.int 2)))) (gSet 6) (M.ret true) (mD (rCall s__law_set (aCons (aD (eVar 6)) aNil))) [6]))) aNil))) (gSet 2))
  (sSeq (sIf (tOrM (tNotM (tCmp (fEqO "Context" s_Context___eq__) (eVar 0) (mD (rCall s__law_made (aCons (aD (eVar 1)) aNil))))) (tOrM (tCmp (fNeO "Context" s_Context___eq__) (eVar 0) (mD (rCall s__law_made (aCons (aD (eVar 1)) aNil)))) (tOrM (tCmp (fEqO "Context" s_Context___eq__) (eVar 0) (eVar 2)) (tCmp (fEqO "Context" s_Context___eq__) (eVar 0) (eC (.int 5)))))) (sRet (mR (eC (.bl false)))) sNil)
  (sSeq (sOwn (rLst aNil) 3)
  (sSeq (sIf (tCmp fLt (eIxV 1 (eC (.int 1))) (eC (.int 9))) (sDrop (eMt 3 lAppend (aCons (aD (mD (rLst (aCons (aD (eIxV 1 (eC (.int 0)))) (aCons (aD (mD (rBin fAdd (eIxV 1 (eC (.int 1))) (eC (.int 1))))) (aCons (aD (eIxV 1 (eC (.int 2)))) aNil)))))) aNil))) sNil)
  (sSeq (sIf (tCmp fLt (eIxV 1 (eC (.int 0))) (eC (.int 9))) (sDrop (eMt 3 lAppend (aCons (aD (mD (rLst (aCons (aD (mD (rBin fAdd (eIxV 1 (eC (.int 0))) (eC (.int 1))))) (aCons (aD (eIxV 1 (eC (.int 1)))) (aCons (aD (mD (rBin fAdd (eIxV 1 (eC (.int 2))) (mD (rLst (aCons (aD (eC (.int 0))) aNil)))))) aNil)))))) aNil))) sNil)
  (sSeq (sFor (iRng1M (aCons (aD (mD (rIf (tCmp fGt (eIxV 1 (eC (.int 1))) (eC (.int 0))) (mR (eIxV 1 (eC (.int 0)))) (mR (eC (.int 0)))))) aNil)) (gSet 4)
  (sDrop (eMt 3 lAppend (aCons (aD (mD (rLst (aCons (aD (eIxV 1 (eC (.int 0)))) (aCons (aD (eIxV 1 (eC (.int 1)))) (aCons (aD (mD (rBin fAdd (mD (rBin fAdd (mD (rSl (eIxV 1 (eC (.int 2))) (M.ret none) (oSome (eVar 4)))) (mD (rLst (aCons (aD (mD (rBin fXor (eIx (eIxV 1 (eC (.int 2))) (eVar 4)) (mD (rBin fShl (eC (.int 1)) (mD (rIf (tCmp fLt (eVar 4) (eIxV 1 (eC (.int 1)))) (mR (eVar 4)) (mR (eC (.int 0)))))))))) aNil))))) (mD (rSl (eIxV 1 (eC (.int 2))) (oSome (mD (rBin fAdd (eVar 4) (eC (.int 1))))) (M.ret none)))))) aNil)))))) aNil))))
  (sSeq (sIf (tCmp fGt (eIxV 1 (eC (.int 0))) (eC (.int 0))) (sDrop (eMt 3 lAppend (aCons (aD (mD (rLst (aCons (aD (mD (rBin fSub (eIxV 1 (eC (.int 0))) (eC (.int 1))))) (aCons (aD (eIxV 1 (eC (.int 1)))) (aCons (aD (mD (rSl (eIxV 1 (eC (.int 2))) (M.ret none) (oSome (eUn (fun i => -i) (eC (.int 1))))))) aNil)))))) aNil))) sNil)
  (sSeq (sFor (iSeq (eVar 3)) (gSet 5)
  (sIf (tOrM (tCmp (fEqO "Context" s_Context___eq__) (eVar 0) (mD (rCall s__law_made (aCons (aD (eVar 5)) aNil)))) (tNotM (tCmp (fNeO "Context" s_Context___eq__) (eVar 0) (mD (rCall s__law_made (aCons (aD (eVar 5)) aNil)))))) (sRet (mR (eC (.bl false)))) sNil))
  (sRet (mR (eC (.bl true))))))))))))
def s__law_equals_right : FS := sFun 7 2 b__law_equals_right
theorem df__law_equals_right (T : Tab K mg) : DF P w K mg base 7 "_law_equals_right" (topS 35) ["context", "due"] s__law_equals_right := df_of (N := ["context", "due", "rows", "others", "g", "other", "row"]) T.f__law_equals_right (by decide +kernel) rfl (fun _ _ _ _ _ _ us h => match us, h with | [u0, u1], _ => rfl) (fun W =>
  (dss_cons (ds_set (sk rfl) (de_r (c_tuple T.bs rfl (dp_cons (do_e (de_r (dr_comp (di_seq (de_ixV (vk rfl) de_int (fun _ _ => rfl))) (blkOk_by (own := [("row", 6)]) (by (try dsimp only [CI.blk]); decide +kernel)) (dg_name (sk rfl)) (by decide) dts_nil (de_r (c_call (df__law_set T) rfl rfl (dp_cons (do_e (de_var (vk rfl)) rfl) dp_nil))) (fun _ _ => rfl))) rfl) dp_nil))) (fun _ _ => rfl))
  (dss_cons (ds_if (dt_w (dw_or (dt_not (dt_cmp (o_eqO (df_Context___eq__ T) rfl T.is_Context) (de_var (vk rfl)) (de_r (c_call (df__law_made T) rfl rfl (dp_cons (do_e (de_var (vk rfl)) rfl) dp_nil))) rfl)) (dw_or (dt_cmp (o_neO (df_Context___eq__ T) rfl T.is_Context) (de_var (vk rfl)) (de_r (c_call (df__law_made T) rfl rfl (dp_cons (do_e (de_var (vk rfl)) rfl) dp_nil))) rfl) (dw_or (dt_cmp (o_eqO (df_Context___eq__ T) rfl T.is_Context) (de_var (vk rfl)) (de_var (vk rfl)) rfl) (dw_or1 (dt_cmp (o_eqO (df_Context___eq__ T) rfl T.is_Context) (de_var (vk rfl)) de_int rfl)))))) (dss_one (ds_ret (dr_e de_bl))) dss_nil)
  (dss_cons (ds_own (sk rfl) (dr_lst dp_nil) (fun _ _ => rfl))
  (dss_cons (ds_if (dt_cmp o_lt (de_ixV (vk rfl) de_int (fun _ _ => rfl)) de_int rfl) (dss_one (ds_expr (de_mt ol_append sl_append rfl (vk rfl) (dp_cons (do_e (de_r (dr_lst (dp_cons (do_e (de_ixV (vk rfl) de_int (fun _ _ => rfl)) rfl) (dp_cons (do_e (de_r (dr_bin o_add (de_ixV (vk rfl) de_int (fun _ _ => rfl)) de_int)) rfl) (dp_cons (do_e (de_ixV (vk rfl) de_int (fun _ _ => rfl)) rfl) dp_nil))))) rfl) dp_nil) (fun _ => rfl) (fun _ => rfl) rfl) (fun _ _ => rfl))) dss_nil)
  (dss_cons (ds_if (dt_cmp o_lt (de_ixV (vk rfl) de_int (fun _ _ => rfl)) de_int rfl) (dss_one (ds_expr (de_mt ol_append sl_append rfl (vk rfl) (dp_cons (do_e (de_r (dr_lst (dp_cons (do_e (de_r (dr_bin o_add (de_ixV (vk rfl) de_int (fun _ _ => rfl)) de_int)) rfl) (dp_cons (do_e (de_ixV (vk rfl) de_int (fun _ _ => rfl)) rfl) (dp_cons (do_e (de_r (dr_bin o_add (de_ixV (vk rfl) de_int (fun _ _ => rfl)) (de_r (dr_lst (dp_cons (do_e de_int rfl) dp_nil))))) rfl) dp_nil))))) rfl) dp_nil) (fun _ => rfl) (fun _ => rfl) rfl) (fun _ _ => rfl))) dss_nil)
  (dss_cons (ds_for (c_rng1 T.bs rfl (dp_cons (do_e (de_r (dr_if (dt_cmp o_gt (de_ixV (vk rfl) de_int (fun _ _ => rfl)) de_int rfl) (dr_e (de_ixV (vk rfl) de_int (fun _ _ => rfl))) (dr_e de_int))) rfl) dp_nil)) (dg_name (sk rfl)) gSet_ne (dss_one (ds_expr (de_mt ol_append sl_append rfl (vk rfl) (dp_cons (do_e (de_r (dr_lst (dp_cons (do_e (de_ixV (vk rfl) de_int (fun _ _ => rfl)) rfl) (dp_cons (do_e (de_ixV (vk rfl) de_int (fun _ _ => rfl)) rfl) (dp_cons (do_e (de_r (dr_bin o_add (de_r (dr_bin o_add (de_r (dr_slice (de_ixV (vk rfl) de_int (fun _ _ => rfl)) dpo_none (dpo_some (de_var (vk rfl))))) (de_r (dr_lst (dp_cons (do_e (de_r (dr_bin o_xor (de_ix (de_ixV (vk rfl) de_int (fun _ _ => rfl)) (de_var (vk rfl)) (fun _ _ => rfl)) (de_r (dr_bin o_shl de_int (de_r (dr_if (dt_cmp o_lt (de_var (vk rfl)) (de_ixV (vk rfl) de_int (fun _ _ => rfl)) rfl) (dr_e (de_var (vk rfl))) (dr_e de_int))))))) rfl) dp_nil))))) (de_r (dr_slice (de_ixV (vk rfl) de_int (fun _ _ => rfl)) (dpo_some (de_r (dr_bin o_add (de_var (vk rfl)) de_int))) dpo_none)))) rfl) dp_nil))))) rfl) dp_nil) (fun _ => rfl) (fun _ => rfl) rfl) (fun _ _ => rfl))) (fun _ _ => rfl))
  (dss_cons (ds_if (dt_cmp o_gt (de_ixV (vk rfl) de_int (fun _ _ => rfl)) de_int rfl) (dss_one (ds_expr (de_mt ol_append sl_append rfl (vk rfl) (dp_cons (do_e (de_r (dr_lst (dp_cons (do_e (de_r (dr_bin o_sub (de_ixV (vk rfl) de_int (fun _ _ => rfl)) de_int)) rfl) (dp_cons (do_e (de_ixV (vk rfl) de_int (fun _ _ => rfl)) rfl) (dp_cons (do_e (de_r (dr_slice (de_ixV (vk rfl) de_int (fun _ _ => rfl)) dpo_none (dpo_some (de_neg de_int)))) rfl) dp_nil))))) rfl) dp_nil) (fun _ => rfl) (fun _ => rfl) rfl) (fun _ _ => rfl))) dss_nil)
  (dss_cons (ds_for (di_seq (de_var (vk rfl))) (dg_name (sk rfl)) gSet_ne (dss_one (ds_if (dt_w (dw_or (dt_cmp (o_eqO (df_Context___eq__ T) rfl T.is_Context) (de_var (vk rfl)) (de_r (c_call (df__law_made T) rfl rfl (dp_cons (do_e (de_var (vk rfl)) rfl) dp_nil))) rfl) (dw_or1 (dt_not (dt_cmp (o_neO (df_Context___eq__ T) rfl T.is_Context) (de_var (vk rfl)) (de_r (c_call (df__law_made T) rfl rfl (dp_cons (do_e (de_var (vk rfl)) rfl) dp_nil))) rfl))))) (dss_one (ds_ret (dr_e de_bl))) dss_nil)) (fun _ _ => rfl))
  (dss_one (ds_ret (dr_e de_bl))))))))))))
/-! _law_refused_right: names box=0 due=1 things=2 marks=3 rows=4 bad=5 case=6 told=7 wrong=8 g=9 row=10 value=11; own: box wrong -/
def b__law_refused_right : M Fl :=
  (sSeq (sPar (aCons (aD (eIxV 1 (eC (.int 0)))) (aCons (aD (eIxV 1 (eC (.int 1)))) aNil)) 2 3)
  (sSeq (sAsg (mD (rFn (f1 gTuple) (aCons (aD (mD (rComp (iSeq (eIxV 1 (eC (.int 2)))) (gSet 10) (M.ret true) (mD (rCall s__law_set (aCons (aD (eVar 10)) aNil))) [10]))) aNil))) (gSet 4))
  (sSeq (sFor (iSeq (mD (rLst (aCons (aD (eUn (fun i => -i) (eC (.int 1)))) (aCons (aD (eC (.int 10))) (aCons (aD (eC .non)) (aCons (aD (eC (.bl true))) (aCons (aD (eC (.bl false))) (aCons (aD (eC (.str "3"))) (aCons (aD (eTup (aCons (aD (eC (.int 3))) aNil))) (aCons (aD (mD (rLst aNil))) (aCons (aD (eC (.dct []))) (aCons (aD (mD (rBin fPow (eC (.int 10)) (eC (.int 29))))) aNil))))))))))))) (gSet 5)
  (sFor (iSeq (mD (rLst (aCons (aD (eTup (aCons (aD (eVar 5)) (aCons (aD (eVar 3)) (aCons (aD (eVar 4)) aNil))))) (aCons (aD (eTup (aCons (aD (eVar 5)) (aCons (aD (eC .non)) (aCons (aD (eC .non)) aNil))))) (aCons (aD (eTup (aCons (aD (eVar 5)) (aCons (aD (eVar 5)) (aCons (aD (eVar 4)) aNil))))) (aCons (aD (eTup (aCons (aD (eVar 2)) (aCons (aD (eVar 5)) (aCons (aD (eVar 4)) aNil))))) (aCons (aD (eTup (aCons (aD (eVar 2)) (aCons (aD (eVar 5)) (aCons (aD (eC .non)) aNil))))) aNil)))))))) (gSet 6)
  (sSeq (sAsg (mD (rCall s__law_caught (aCons (eAt 0) (aCons (aD (eIxV 6 (eC (.int 0)))) (aCons (aD (eIxV 6 (eC (.int 1)))) (aCons (aD (eIxV 6 (eC (.int 2)))) aNil)))))) (gSet 7))
  (sIf (tOrM (tCmp fNe (eIxV 7 (eC (.int 0))) (eC (.str "size"))) (tAndM (tNotM (tTru (mD (rOne (eVar 5) (isiD "dict"))))) (tNotM (tTru (mD (rCall s__law_same (aCons (aD (eIxV 7 (eC (.int 1)))) (aCons (aD (eVar 5)) aNil)))))))) (sRet (mR (eC (.bl false)))) sNil))))
  (sSeq (sOwn (rLst (aCons (aD (mD (rFn (f1 gList) (aCons (aD (eVar 4)) aNil)))) (aCons (aD (mD (rBin fAdd (eVar 4) (eTup (aCons (aD (eTup aNil)) aNil))))) (aCons (aD (eC .non)) (aCons (aD (eC (.str "rows"))) (aCons (aD (eC (.int 5))) (aCons (aD (eC (.dct []))) (aCons (aD (mD (rIf (tCmp fGt (eVar 2) (eC (.int 0))) (rSl (eVar 4) (M.ret none) (oSome (eUn (fun i => -i) (eC (.int 1))))) (mR (eTup (aCons (aD (eTup aNil)) aNil)))))) (aCons (aD (mD (rBin fMul1 (eTup (aCons (aD (eC .non)) aNil)) (mD (rBin fAdd (eVar 2) (eC (.int 1))))))) aNil))))))))) 8)
  (sSeq (sFor (iRng1M (aCons (aD (mD (rFn (fMin) (aCons (aD (eVar 2)) (aCons (aD (eC (.int 2))) aNil))))) aNil)) (gSet 9)
  (sSeq (sFor (iSeq (mD (rLst (aCons (aD (mD (rLst (aCons (aD (eC (.int 0))) aNil)))) (aCons (aD (eTup (aCons (aD (eVar 3)) aNil))) (aCons (aD (eTup (aCons (aD (eC (.int 0))) (aCons (aD (eC (.int 0))) aNil)))) (aCons (aD (eTup (aCons (aD (eUn (fun i => -i) (eC (.int 1)))) aNil))) (aCons (aD (eTup (aCons (aD (eC (.bl true))) aNil))) (aCons (aD (eC .non)) (aCons (aD (eC (.int 0))) (aCons (aD (eC (.str "0"))) (aCons (aD (eTup (aCons (aD (eVar 3)) (aCons (aD (mD (rBin fAdd (eVar 3) (eC (.int 1))))) aNil)))) (aCons (aD (eTup (aCons (aD (eTup aNil)) aNil))) aNil))))))))))))) (gSet 10)
  (sDrop (eMt 8 lAppend (aCons (aD (mD (rBin fAdd (mD (rBin fAdd (mD (rSl (eVar 4) (M.ret none) (oSome (eVar 9)))) (eTup (aCons (aD (eVar 10)) aNil)))) (mD (rSl (eVar 4) (oSome (mD (rBin fAdd (eVar 9) (eC (.int 1))))) (M.ret none)))))) aNil))))
  (sIf (tCmp fGt (eVar 3) (eC (.int 1))) (sDrop (eMt 8 lAppend (aCons (aD (mD (rBin fAdd (mD (rBin fAdd (mD (rSl (eVar 4) (M.ret none) (oSome (eVar 9)))) (eTup (aCons (aD (eTup (aCons (aD (eC (.int 1))) (aCons (aD (eC (.int 0))) aNil)))) aNil)))) (mD (rSl (eVar 4) (oSome (mD (rBin fAdd (eVar 9) (eC (.int 1))))) (M.ret none)))))) aNil))) sNil)))
  (sSeq (sFor (iSeq (eVar 8)) (gSet 11)
  (sSeq (sAsg (mD (rCall s__law_caught (aCons (eAt 0) (aCons (aD (eVar 2)) (aCons (aD (eVar 3)) (aCons (aD (eVar 11)) aNil)))))) (gSet 7))
  (sIf (tOrM (tCmp fNe (eIxV 7 (eC (.int 0))) (eC (.str "rows"))) (tAndM (tNotM (tTru (mD (rOne (eVar 11) (isiD "dict"))))) (tNotM (tTru (mD (rCall s__law_same (aCons (aD (eIxV 7 (eC (.int 1)))) (aCons (aD (eVar 11)) aNil)))))))) (sRet (mR (eC (.bl false)))) sNil)))
  (sRet (mR (eC (.bl true))))))))))
def s__law_refused_right : FS := sFun 12 2 b__law_refused_right
theorem df__law_refused_right (T : Tab K mg) : DF P w K mg base 14 "_law_refused_right" (topS 36) ["box", "due"] s__law_refused_right := df_of (N := ["box", "due", "things", "marks", "rows", "bad", "case", "told", "wrong", "g", "row", "value"]) T.f__law_refused_right (by decide +kernel) rfl (fun _ _ _ _ _ _ us h => match us, h with | [u0, u1], _ => rfl) (fun W =>
  (dss_cons (ds_par rfl rfl (by decide) rfl rfl (dp_cons (do_e (de_ixV (vk rfl) de_int (fun _ _ => rfl)) rfl) (dp_cons (do_e (de_ixV (vk rfl) de_int (fun _ _ => rfl)) rfl) dp_nil)) (by intro env h; cases env; cases h; rfl) (fun _ => rfl))
  (dss_cons (ds_set (sk rfl) (de_r (c_tuple T.bs rfl (dp_cons (do_e (de_r (dr_comp (di_seq (de_ixV (vk rfl) de_int (fun _ _ => rfl))) (blkOk_by (own := [("row", 10)]) (by (try dsimp only [CI.blk]); decide +kernel)) (dg_name (sk rfl)) (by decide) dts_nil (de_r (c_call (df__law_set T) rfl rfl (dp_cons (do_e (de_var (vk rfl)) rfl) dp_nil))) (fun _ _ => rfl))) rfl) dp_nil))) (fun _ _ => rfl))
  (dss_cons (ds_for (di_seq (de_r (dr_lst (dp_cons (do_e (de_neg de_int) rfl) (dp_cons (do_e de_int rfl) (dp_cons (do_e de_non rfl) (dp_cons (do_e de_bl rfl) (dp_cons (do_e de_bl rfl) (dp_cons (do_e de_str rfl) (dp_cons (do_e (de_tup (dp_cons (do_e de_int rfl) dp_nil)) rfl) (dp_cons (do_e (de_r (dr_lst dp_nil)) rfl) (dp_cons (do_e de_dict0 rfl) (dp_cons (do_e (de_r (dr_bin o_pow de_int de_int)) rfl) dp_nil))))))))))))) (dg_name (sk rfl)) gSet_ne (dss_one (ds_for (di_seq (de_r (dr_lst (dp_cons (do_e (de_tup (dp_cons (do_e (de_var (vk rfl)) rfl) (dp_cons (do_e (de_var (vk rfl)) rfl) (dp_cons (do_e (de_var (vk rfl)) rfl) dp_nil)))) rfl) (dp_cons (do_e (de_tup (dp_cons (do_e (de_var (vk rfl)) rfl) (dp_cons (do_e de_non rfl) (dp_cons (do_e de_non rfl) dp_nil)))) rfl) (dp_cons (do_e (de_tup (dp_cons (do_e (de_var (vk rfl)) rfl) (dp_cons (do_e (de_var (vk rfl)) rfl) (dp_cons (do_e (de_var (vk rfl)) rfl) dp_nil)))) rfl) (dp_cons (do_e (de_tup (dp_cons (do_e (de_var (vk rfl)) rfl) (dp_cons (do_e (de_var (vk rfl)) rfl) (dp_cons (do_e (de_var (vk rfl)) rfl) dp_nil)))) rfl) (dp_cons (do_e (de_tup (dp_cons (do_e (de_var (vk rfl)) rfl) (dp_cons (do_e (de_var (vk rfl)) rfl) (dp_cons (do_e de_non rfl) dp_nil)))) rfl) dp_nil)))))))) (dg_name (sk rfl)) gSet_ne (dss_cons (ds_set (sk rfl) (de_r (c_call (df__law_caught T) rfl rfl (dp_cons (do_at (vk rfl)) (dp_cons (do_e (de_ixV (vk rfl) de_int (fun _ _ => rfl)) rfl) (dp_cons (do_e (de_ixV (vk rfl) de_int (fun _ _ => rfl)) rfl) (dp_cons (do_e (de_ixV (vk rfl) de_int (fun _ _ => rfl)) rfl) dp_nil)))))) (fun _ _ => rfl))
  (dss_one (ds_if (dt_w (dw_or (dt_cmp o_ne (de_ixV (vk rfl) de_int (fun _ _ => rfl)) de_str rfl) (dw_or1 (dt_w (dw_and (dt_not (dt_val (de_r (c_isi_dict T.bs rfl rfl (de_var (vk rfl)) rfl)) (fun _ _ => rfl))) (dw_and1 (dt_not (dt_val (de_r (c_call (df__law_same T) rfl rfl (dp_cons (do_e (de_ixV (vk rfl) de_int (fun _ _ => rfl)) rfl) (dp_cons (do_e (de_var (vk rfl)) rfl) dp_nil)))) (fun _ _ => rfl))))))))) (dss_one (ds_ret (dr_e de_bl))) dss_nil))) (fun _ _ => rfl))) (fun _ _ => rfl))
  (dss_cons (ds_own (sk rfl) (dr_lst (dp_cons (do_e (de_r (c_list T.bs rfl (dp_cons (do_e (de_var (vk rfl)) rfl) dp_nil))) rfl) (dp_cons (do_e (de_r (dr_bin o_add (de_var (vk rfl)) (de_tup (dp_cons (do_e (de_tup dp_nil) rfl) dp_nil)))) rfl) (dp_cons (do_e de_non rfl) (dp_cons (do_e de_str rfl) (dp_cons (do_e de_int rfl) (dp_cons (do_e de_dict0 rfl) (dp_cons (do_e (de_r (dr_if (dt_cmp o_gt (de_var (vk rfl)) de_int rfl) (dr_slice (de_var (vk rfl)) dpo_none (dpo_some (de_neg de_int))) (dr_e (de_tup (dp_cons (do_e (de_tup dp_nil) rfl) dp_nil))))) rfl) (dp_cons (do_e (de_r (dr_bin o_mul1 (de_tup (dp_cons (do_e de_non rfl) dp_nil)) (de_r (dr_bin o_add (de_var (vk rfl)) de_int)))) rfl) dp_nil))))))))) (fun _ _ => rfl))
  (dss_cons (ds_for (c_rng1 T.bs rfl (dp_cons (do_e (de_r (c_min T.bs rfl (dp_cons (do_e (de_var (vk rfl)) rfl) (dp_cons (do_e de_int rfl) dp_nil)))) rfl) dp_nil)) (dg_name (sk rfl)) gSet_ne (dss_cons (ds_for (di_seq (de_r (dr_lst (dp_cons (do_e (de_r (dr_lst (dp_cons (do_e de_int rfl) dp_nil))) rfl) (dp_cons (do_e (de_tup (dp_cons (do_e (de_var (vk rfl)) rfl) dp_nil)) rfl) (dp_cons (do_e (de_tup (dp_cons (do_e de_int rfl) (dp_cons (do_e de_int rfl) dp_nil))) rfl) (dp_cons (do_e (de_tup (dp_cons (do_e (de_neg de_int) rfl) dp_nil)) rfl) (dp_cons (do_e (de_tup (dp_cons (do_e de_bl rfl) dp_nil)) rfl) (dp_cons (do_e de_non rfl) (dp_cons (do_e de_int rfl) (dp_cons (do_e de_str rfl) (dp_cons (do_e (de_tup (dp_cons (do_e (de_var (vk rfl)) rfl) (dp_cons (do_e (de_r (dr_bin o_add (de_var (vk rfl)) de_int)) rfl) dp_nil))) rfl) (dp_cons (do_e (de_tup (dp_cons (do_e (de_tup dp_nil) rfl) dp_nil)) rfl) dp_nil))))))))))))) (dg_name (sk rfl)) gSet_ne (dss_one (ds_expr (de_mt ol_append sl_append rfl (vk rfl) (dp_cons (do_e (de_r (dr_bin o_add (de_r (dr_bin o_add (de_r (dr_slice (de_var (vk rfl)) dpo_none (dpo_some (de_var (vk rfl))))) (de_tup (dp_cons (do_e (de_var (vk rfl)) rfl) dp_nil)))) (de_r (dr_slice (de_var (vk rfl)) (dpo_some (de_r (dr_bin o_add (de_var (vk rfl)) de_int))) dpo_none)))) rfl) dp_nil) (fun _ => rfl) (fun _ => rfl) rfl) (fun _ _ => rfl))) (fun _ _ => rfl))
  (dss_one (ds_if (dt_cmp o_gt (de_var (vk rfl)) de_int rfl) (dss_one (ds_expr (de_mt ol_append sl_append rfl (vk rfl) (dp_cons (do_e (de_r (dr_bin o_add (de_r (dr_bin o_add (de_r (dr_slice (de_var (vk rfl)) dpo_none (dpo_some (de_var (vk rfl))))) (de_tup (dp_cons (do_e (de_tup (dp_cons (do_e de_int rfl) (dp_cons (do_e de_int rfl) dp_nil))) rfl) dp_nil)))) (de_r (dr_slice (de_var (vk rfl)) (dpo_some (de_r (dr_bin o_add (de_var (vk rfl)) de_int))) dpo_none)))) rfl) dp_nil) (fun _ => rfl) (fun _ => rfl) rfl) (fun _ _ => rfl))) dss_nil))) (fun _ _ => rfl))
  (dss_cons (ds_for (di_seq (de_var (vk rfl))) (dg_name (sk rfl)) gSet_ne (dss_cons (ds_set (sk rfl) (de_r (c_call (df__law_caught T) rfl rfl (dp_cons (do_at (vk rfl)) (dp_cons (do_e (de_var (vk rfl)) rfl) (dp_cons (do_e (de_var (vk rfl)) rfl) (dp_cons (do_e (de_var (vk rfl)) rfl) dp_nil)))))) (fun _ _ => rfl))
  (dss_one (ds_if (dt_w (dw_or (dt_cmp o_ne (de_ixV (vk rfl) de_int (fun _ _ => rfl)) de_str rfl) (dw_or1 (dt_w (dw_and (dt_not (dt_val (de_r (c_isi_dict T.bs rfl rfl (de_var (vk rfl)) rfl)) (fun _ _ => rfl))) (dw_and1 (dt_not (dt_val (de_r (c_call (df__law_same T) rfl rfl (dp_cons (do_e (de_ixV (vk rfl) de_int (fun _ _ => rfl)) rfl) (dp_cons (do_e (de_var (vk rfl)) rfl) dp_nil)))) (fun _ _ => rfl))))))))) (dss_one (ds_ret (dr_e de_bl))) dss_nil))) (fun _ _ => rfl))
  (dss_one (ds_ret (dr_e de_bl))))))))))
/-! _law_right: names box=0 most=1 due=2 rows=3 told=4 context=5 other=6 beside=7 row=8; own: box -/
def b__law_right : M Fl :=
  (sSeq (sAsg (mD (rCall s__law_context (aCons (eAt 0) (aCons (aD (eVar 1)) aNil)))) (gSet 2))
  (sSeq (sAsg (mD (rFn (f1 gTuple) (aCons (aD (mD (rComp (iSeq (eIxV 2 (eC (.int 2)))) (gSet 8) (M.ret true) (mD (rCall s__law_set (aCons (aD (eVar 8)) aNil))) [8]))) aNil))) (gSet 3))
  (sSeq (sAsg (mD (rCall s__law_caught (aCons (eAt 0) (aCons (aD (eIxV 2 (eC (.int 0)))) (aCons (aD (eIxV 2 (eC (.int 1)))) (aCons (aD (eVar 3)) aNil)))))) (gSet 4))
  (sSeq (sIf (tOrM (tCmp fNe (eIxV 4 (eC (.int 0))) (eC (.str "told"))) (tNotM (tTru (mD (rOne (eIxV 4 (eC (.int 1))) (isaD "Context")))))) (sRet (mR (eC (.bl false)))) sNil)
  (sSeq (sAsg (eIxV 4 (eC (.int 1))) (gSet 5))
  (sSeq (sIf (tOrM (tNotM (tTru (mD (rCall s__law_common_right (aCons (eAt 0) (aCons (aD (eVar 5)) (aCons (aD (eVar 2)) aNil))))))) (tNotM (tTru (mD (rCall s__law_sets_refused_right (aCons (eAt 0) (aCons (aD (eVar 5)) (aCons (aD (eVar 2)) aNil)))))))) (sRet (mR (eC (.bl false)))) sNil)
  (sSeq (sAsg (mD (rCall s__law_context (aCons (eAt 0) (aCons (aD (eVar 1)) aNil)))) (gSet 6))
  (sSeq (sAsg (mD (rCall s__law_made (aCons (aD (eVar 6)) aNil))) (gSet 7))
  (sSeq (sIf (tOrM (tNotM (tTru (mD (rCall s__law_common_right (aCons (eAt 0) (aCons (aD (eVar 7)) (aCons (aD (eVar 6)) aNil))))))) (tNotM (tTru (mD (rCall s__law_common_right (aCons (eAt 0) (aCons (aD (eVar 5)) (aCons (aD (eVar 2)) aNil)))))))) (sRet (mR (eC (.bl false)))) sNil)
  (sSeq (sIf (tNotM (tTru (mD (rCall s__law_same (aCons (aD (mD (rLst (aCons (aD (eFldV clsT 5 "things")) (aCons (aD (eFldV clsT 5 "marks")) (aCons (aD (eFldV clsT 5 "rows")) aNil)))))) (aCons (aD (mD (rLst (aCons (aD (eIxV 2 (eC (.int 0)))) (aCons (aD (eIxV 2 (eC (.int 1)))) (aCons (aD (eVar 3)) aNil)))))) aNil)))))) (sRet (mR (eC (.bl false)))) sNil)
  (sRet (mR (eAnd (mD (rCall s__law_equals_right (aCons (aD (eVar 5)) (aCons (aD (eVar 2)) aNil)))) (mD (rCall s__law_refused_right (aCons (eAt 0) (aCons (aD (eVar 2)) aNil)))))))))))))))))
def s__law_right : FS := sFun 9 2 b__law_right
theorem df__law_right (T : Tab K mg) : DF P w K mg base 15 "_law_right" (topS 37) ["box", "most"] s__law_right := df_of (N := ["box", "most", "due", "rows", "told", "context", "other", "beside", "row"]) T.f__law_right (by decide +kernel) rfl (fun _ _ _ _ _ _ us h => match us, h with | [u0, u1], _ => rfl) (fun W =>
  (dss_cons (ds_set (sk rfl) (de_r (c_call (df__law_context T) rfl rfl (dp_cons (do_at (vk rfl)) (dp_cons (do_e (de_var (vk rfl)) rfl) dp_nil)))) (fun _ _ => rfl))
  (dss_cons (ds_set (sk rfl) (de_r (c_tuple T.bs rfl (dp_cons (do_e (de_r (dr_comp (di_seq (de_ixV (vk rfl) de_int (fun _ _ => rfl))) (blkOk_by (own := [("row", 8)]) (by (try dsimp only [CI.blk]); decide +kernel)) (dg_name (sk rfl)) (by decide) dts_nil (de_r (c_call (df__law_set T) rfl rfl (dp_cons (do_e (de_var (vk rfl)) rfl) dp_nil))) (fun _ _ => rfl))) rfl) dp_nil))) (fun _ _ => rfl))
  (dss_cons (ds_set (sk rfl) (de_r (c_call (df__law_caught T) rfl rfl (dp_cons (do_at (vk rfl)) (dp_cons (do_e (de_ixV (vk rfl) de_int (fun _ _ => rfl)) rfl) (dp_cons (do_e (de_ixV (vk rfl) de_int (fun _ _ => rfl)) rfl) (dp_cons (do_e (de_var (vk rfl)) rfl) dp_nil)))))) (fun _ _ => rfl))
  (dss_cons (ds_if (dt_w (dw_or (dt_cmp o_ne (de_ixV (vk rfl) de_int (fun _ _ => rfl)) de_str rfl) (dw_or1 (dt_not (dt_val (de_r (c_isaB T.is_Context T.bs rfl rfl (de_ixV (vk rfl) de_int (fun _ _ => rfl)) rfl)) (fun _ _ => rfl)))))) (dss_one (ds_ret (dr_e de_bl))) dss_nil)
  (dss_cons (ds_set (sk rfl) (de_ixV (vk rfl) de_int (fun _ _ => rfl)) (fun _ _ => rfl))
  (dss_cons (ds_if (dt_w (dw_or (dt_not (dt_val (de_r (c_call (df__law_common_right T) rfl rfl (dp_cons (do_at (vk rfl)) (dp_cons (do_e (de_var (vk rfl)) rfl) (dp_cons (do_e (de_var (vk rfl)) rfl) dp_nil))))) (fun _ _ => rfl))) (dw_or1 (dt_not (dt_val (de_r (c_call (df__law_sets_refused_right T) rfl rfl (dp_cons (do_at (vk rfl)) (dp_cons (do_e (de_var (vk rfl)) rfl) (dp_cons (do_e (de_var (vk rfl)) rfl) dp_nil))))) (fun _ _ => rfl)))))) (dss_one (ds_ret (dr_e de_bl))) dss_nil)
  (dss_cons (ds_set (sk rfl) (de_r (c_call (df__law_context T) rfl rfl (dp_cons (do_at (vk rfl)) (dp_cons (do_e (de_var (vk rfl)) rfl) dp_nil)))) (fun _ _ => rfl))
  (dss_cons (ds_set (sk rfl) (de_r (c_call (df__law_made T) rfl rfl (dp_cons (do_e (de_var (vk rfl)) rfl) dp_nil))) (fun _ _ => rfl))
  (dss_cons (ds_if (dt_w (dw_or (dt_not (dt_val (de_r (c_call (df__law_common_right T) rfl rfl (dp_cons (do_at (vk rfl)) (dp_cons (do_e (de_var (vk rfl)) rfl) (dp_cons (do_e (de_var (vk rfl)) rfl) dp_nil))))) (fun _ _ => rfl))) (dw_or1 (dt_not (dt_val (de_r (c_call (df__law_common_right T) rfl rfl (dp_cons (do_at (vk rfl)) (dp_cons (do_e (de_var (vk rfl)) rfl) (dp_cons (do_e (de_var (vk rfl)) rfl) dp_nil))))) (fun _ _ => rfl)))))) (dss_one (ds_ret (dr_e de_bl))) dss_nil)
  (dss_cons (ds_if (dt_not (dt_val (de_r (c_call (df__law_same T) rfl rfl (dp_cons (do_e (de_r (dr_lst (dp_cons (do_e (de_fldV T.cl (vk rfl) (fun _ => rfl)) rfl) (dp_cons (do_e (de_fldV T.cl (vk rfl) (fun _ => rfl)) rfl) (dp_cons (do_e (de_fldV T.cl (vk rfl) (fun _ => rfl)) rfl) dp_nil))))) rfl) (dp_cons (do_e (de_r (dr_lst (dp_cons (do_e (de_ixV (vk rfl) de_int (fun _ _ => rfl)) rfl) (dp_cons (do_e (de_ixV (vk rfl) de_int (fun _ _ => rfl)) rfl) (dp_cons (do_e (de_var (vk rfl)) rfl) dp_nil))))) rfl) dp_nil)))) (fun _ _ => rfl))) (dss_one (ds_ret (dr_e de_bl))) dss_nil)
  (dss_one (ds_ret (dr_e (de_and (de_r (c_call (df__law_equals_right T) rfl rfl (dp_cons (do_e (de_var (vk rfl)) rfl) (dp_cons (do_e (de_var (vk rfl)) rfl) dp_nil)))) (de_one (de_r (c_call (df__law_refused_right T) rfl rfl (dp_cons (do_at (vk rfl)) (dp_cons (do_e (de_var (vk rfl)) rfl) dp_nil))))))))))))))))))))
/-! law: names script=0 k=1 box=2; own: box -/
def b_law : M Fl :=
  (sSeq (sFor (iRng1M (aCons (aD (mD (rFn (fMax) (aCons (aD (eC (.int 2))) (aCons (aD (mD (rFn (fMin) (aCons (aD (eC (.int 3))) (aCons (aD (mD (rFn (f1 gLen) (aCons (aD (eVar 0)) aNil)))) aNil))))) aNil))))) aNil)) (gSet 1)
  (sSeq (sOwn (rCall s__law_box (aCons (aD (mD (rCall s__law_cell (aCons (aD (eVar 0)) (aCons (aD (eVar 1)) aNil))))) aNil)) 2)
  (sIf (tNotM (tTru (mD (rCall s__law_right (aCons (eAt 2) (aCons (aD (eIx (mD (rLst (aCons (aD (eC (.int 4))) (aCons (aD (eC (.int 5))) (aCons (aD (eC (.int 3))) (aCons (aD (eC (.int 6))) (aCons (aD (eC (.int 4))) (aCons (aD (eC (.int 5))) (aCons (aD (eC (.int 7))) (aCons (aD (eC (.int 9))) aNil)))))))))) (mD (rCall s__law_take (aCons (eAt 2) (aCons (aD (eC (.int 8))) aNil)))))) aNil)))))) (sRet (mR (eC (.bl false)))) sNil)))
  (sRet (mR (eC (.bl true)))))
def s_law : FS := sFun 3 1 b_law
theorem df_law (T : Tab K mg) : DF P w K mg base 16 "law" (topS 38) ["script"] s_law := df_of (N := ["script", "k", "box"]) T.f_law (by decide +kernel) rfl (fun _ _ _ _ _ _ us h => match us, h with | [u0], _ => rfl) (fun W =>
  (dss_cons (ds_for (c_rng1 T.bs rfl (dp_cons (do_e (de_r (c_max T.bs rfl (dp_cons (do_e de_int rfl) (dp_cons (do_e (de_r (c_min T.bs rfl (dp_cons (do_e de_int rfl) (dp_cons (do_e (de_r (c_len T.bs rfl (dp_cons (do_e (de_var (vk rfl)) rfl) dp_nil))) rfl) dp_nil)))) rfl) dp_nil)))) rfl) dp_nil)) (dg_name (sk rfl)) gSet_ne (dss_cons (ds_own (sk rfl) (c_call (df__law_box T) rfl rfl (dp_cons (do_e (de_r (c_call (df__law_cell T) rfl rfl (dp_cons (do_e (de_var (vk rfl)) rfl) (dp_cons (do_e (de_var (vk rfl)) rfl) dp_nil)))) rfl) dp_nil)) (fun _ _ => rfl))
  (dss_one (ds_if (dt_not (dt_val (de_r (c_call (df__law_right T) rfl rfl (dp_cons (do_at (vk rfl)) (dp_cons (do_e (de_ix (de_r (dr_lst (dp_cons (do_e de_int rfl) (dp_cons (do_e de_int rfl) (dp_cons (do_e de_int rfl) (dp_cons (do_e de_int rfl) (dp_cons (do_e de_int rfl) (dp_cons (do_e de_int rfl) (dp_cons (do_e de_int rfl) (dp_cons (do_e de_int rfl) dp_nil)))))))))) (de_r (c_call (df__law_take T) rfl rfl (dp_cons (do_at (vk rfl)) (dp_cons (do_e de_int rfl) dp_nil)))) (fun _ _ => rfl)) rfl) dp_nil)))) (fun _ _ => rfl))) (dss_one (ds_ret (dr_e de_bl))) dss_nil))) (fun _ _ => rfl))
  (dss_one (ds_ret (dr_e de_bl)))))
end
end G
end

section
namespace G
open DL PySem PySem.Spec
open L2 (atI)
set_option maxHeartbeats 0
section
variable {Q : Ret → En → Prop} {X : XQ}
/-! ### the box of draws -/
def boxL (x0 : Int) (b : Bool) (x2 x3 : Int) : List D := [.int x0, .bl b, .int x2, .int x3]
def BoxOk (c : Nat) (l : List D) : Prop := ∃ x0 b x2 x3, l = boxL x0 b x2 x3 ∧ 0 ≤ x0 ∧ 0 ≤ x2 ∧ x2 < 2147483629 ∧ 0 ≤ x3 ∧ x3 ≤ c
theorem BoxOk.mono {c c' : Nat} {l : List D} (h : BoxOk c l) (hc : c ≤ c') : BoxOk c' l := by
  obtain ⟨x0, b, x2, x3, e, h0, h2, h3, h4, h5⟩ := h
  exact ⟨x0, b, x2, x3, e, h0, h2, h3, h4, by omega⟩
theorem take_wp {c : Nat} {l : List D} {many : Int} (hb : BoxOk c l) (hc : c < 100000000) (hm : 0 < many) (hm' : many < 1000000000)
   (h : ∀ (r : Nat) l', (r : Int) < many → BoxOk (c + 1) l' → Q (.sh (.int r)) [.io (.l l'), .sh (.int many)]) :
    wp (s__law_take [.io (.l l), .sh (.int many)]) Q X := by
  obtain ⟨x0, b, x2, x3, rfl, h0, h2, h2', h3, h3'⟩ := hb
  have fin : ∀ (z : Int) l', 0 ≤ z → z < many → BoxOk (c + 1) l' → Q (.sh (.int z)) [.io (.l l'), .sh (.int many)] := fun z l' k1 k2 k3 => by
    obtain ⟨r, rfl⟩ := Int.eq_ofNat_of_zero_le k1
    exact h r l' k2 k3
  have m1 : 0 ≤ (x2 + 15485863 * (x3 + 1) + 179424673) ^ 5 % 2147483647 := Int.emod_nonneg _ (by omega)
  have m2 : (x2 + 15485863 * (x3 + 1) + 179424673) ^ 5 % 2147483647 < 2147483647 := Int.emod_lt_of_pos _ (by omega)
  unfold s__law_take b__law_take boxL
  simp_arith only []
  generalize (x2 + 15485863 * (x3 + 1) + 179424673) ^ 5 % 2147483647 = mx at m1 m2 ⊢
  have two : (x2 + 15485863 * (x3 + 1) + 179424673).natAbs < 18446744073709551616 ∧ (mx * 48271 + 104729 * (x3 + 1)).natAbs < 18446744073709551616 ∧ 0 < many ∧
      Q (.sh (.int ((mx * 48271 + 104729 * (x3 + 1)) ^ 3 % 2147483587 / 64 % many))) [.io (.l [.int x0, .bl b, .int x2, .int (x3 + 1)]), .sh (.int many)] :=
    ⟨by omega, by omega, hm, fin _ _ (Int.emod_nonneg _ (by omega)) (Int.emod_lt_of_pos _ hm) ⟨x0, b, x2, x3 + 1, rfl, h0, h2, h2', by omega, by omega⟩⟩
  refine wif (fun hb => wif_d (fun hx => ⟨hm, ⟨hm, by omega⟩, ?_⟩) fun _ => two) fun _ => two
  exact fin _ _ (Int.emod_nonneg _ (by omega)) (Int.emod_lt_of_pos _ hm) ⟨x0 / many, b, x2, x3, rfl, Int.ediv_nonneg h0 (by omega), h2, h2', h3, by omega⟩
theorem box_wp {g : Int} (h : ∀ l, BoxOk 0 l → Q (.ow (.l l)) [.sh (.int g)]) : wp (s__law_box [.sh (.int g)]) Q X := by
  unfold s__law_box b__law_box
  simp_arith only []
  refine h _ ⟨_, _, _, _, rfl, ?_, Int.emod_nonneg _ (by omega), Int.emod_lt_of_pos _ (by omega), Int.le_refl _, by omega⟩
  split <;> omega
theorem cell_wp {ns : List Int} {k : Nat} (hk : k < 100) (hl : ns.length ≤ 63) (h : ∀ g : Int, Q (.sh (.int g)) [.sh (.lst (ns.map .int)), .sh (.int k)]) : wp (s__law_cell [.sh (.lst (ns.map .int)), .sh (.int k)]) Q X := by
  unfold s__law_cell b__law_cell
  simp_arith only []
  have e1 : cutD (ns.map D.int) none (some 1) = (ns.take 1).map D.int := by
    unfold cutD
    have h1 : HT.sIx (ns.map D.int).length 0 none = 0 := rfl
    rw [h1, List.drop_zero, Nat.sub_zero, List.map_take]
    cases ns with
    | nil => rfl
    | cons a ns => rfl
  refine wif_d (fun hlt => ?_) fun _ => ?_
  · rw [List.getElem?_eq_getElem hlt, List.getElem_map]
    exact h _
  · simp_arith only [e1]
    exact h _
theorem mixed_wp {c n : Nat} {l : List D} (hb : BoxOk c l) (hc : c < 90000000) (hn : n ≤ 1000)
    (h : ∀ p l', Pm' n p → BoxOk (c + n) l' → Q (.ow (.l (natsD p))) [.io (.l l'), .sh (.int n)]) : wp (s__law_mixed [.io (.l l), .sh (.int n)]) Q X := by
  unfold s__law_mixed b__law_mixed
  simp_arith only [rngB_n hn, rng_nat, ← natsD_nil]
  refine wp_while (fun k e => ∃ (left found : List Nat) (l' : List D), e = [.io (.l l'), .sh (.int n), .ow (.l (natsD left)), .ow (.l (natsD found))] ∧ left.length = k ∧ k ≤ n ∧ (left ++ found).Perm (List.range n) ∧ BoxOk (c + (n - k)) l') _ n _ (by unfold FUEL; omega) ⟨List.range n, [], l, rfl, by simp, Nat.le_refl _, by simp, hb.mono (by omega)⟩ ?_
  rintro k e ⟨left, found, l', rfl, hk, hkn, hp, hb'⟩
  simp_arith only [nats_nil]
  cases left with
  | nil =>
    simp_arith only [List.isEmpty_nil, if_true, Bool.not_true]
    refine h found l' (by simpa [Pm'] using hp) (hb'.mono (by omega))
  | cons a left =>
    have hf : found.length + (left.length + 1) = n := by have := hp.length_eq; simp at this; omega
    simp_arith only [List.isEmpty_cons, if_true, Bool.not_false]
    refine take_wp hb' (by omega) (by omega) (by omega) fun r l2 hr hb2 => ?_
    simp_arith only [List.length_cons] at hr
    have hr' : r < (a :: left).length := by simp at hr ⊢; omega
    have hk' : (a :: left).length ≤ 1000 := by omega
    simp_arith only [pop_nat hr' hk', lt_]
    refine ⟨by omega, k - 1, by omega, (a :: left).eraseIdx r, found ++ [(a :: left).getD r 0], l2, rfl, ?_, by omega, ?_, hb2.mono (by omega)⟩
    · rw [List.length_eraseIdx, if_pos hr']; omega
    · refine List.Perm.trans ?_ hp
      have e1 : (a :: left).getD r 0 = (a :: left)[r] := by rw [List.getD_eq_getElem?_getD, List.getElem?_eq_getElem hr']; rfl
      rw [e1]
      have := perm_erase hr'
      refine List.Perm.trans ?_ (List.Perm.append_right found this)
      rw [← List.append_assoc]
      exact List.perm_append_comm.trans (by simp)
end
end G
end

section
namespace G
open DL PySem PySem.Spec
open L2 (atI)
set_option maxHeartbeats 0
section
variable {Q : Ret → En → Prop} {X : XQ}
end
end G
end

section
namespace G
open DL PySem PySem.Spec
open L2 (atI)
set_option maxHeartbeats 0
/-! ### all pairs -/
def sqrI (n i : Nat) : List (Nat × Nat) := (List.range i).flatMap fun a => (List.range n).map fun b => (a, b)
theorem sqrI_succ (n i : Nat) : sqrI n (i + 1) = sqrI n i ++ (List.range n).map fun b => (i, b) := by
  unfold sqrI; rw [List.range_succ, List.flatMap_append]; simp
theorem sqrI_len (n : Nat) : ∀ i, (sqrI n i).length = i * n
  | 0 => by simp [sqrI]
  | i + 1 => by rw [sqrI_succ, List.length_append, sqrI_len n i]; simp [Nat.succ_mul]
theorem sqrI_mem {n i : Nat} {z : Nat × Nat} : z ∈ sqrI n i ↔ z.1 < i ∧ z.2 < n := by
  unfold sqrI
  simp only [List.mem_flatMap, List.mem_map, List.mem_range]
  constructor
  · rintro ⟨a, ha, b, hb, rfl⟩; exact ⟨ha, hb⟩
  · intro ⟨h1, h2⟩; exact ⟨z.1, h1, z.2, h2, rfl⟩
/-- the pairs of a relation, ascending -/
def prs (n : Nat) (r : Rl) : List (Nat × Nat) := (sqrI n n).filter fun z => r z.1 z.2
theorem prs_mem {n : Nat} {r : Rl} {z : Nat × Nat} : z ∈ prs n r ↔ (z.1 < n ∧ z.2 < n) ∧ r z.1 z.2 = true := by
  unfold prs; rw [List.mem_filter, sqrI_mem]
theorem prs_len (n : Nat) (r : Rl) : (prs n r).length ≤ n * n := by
  unfold prs; exact Nat.le_trans (List.length_filter_le _ _) (Nat.le_of_eq (sqrI_len n n))
theorem fm_prs {l : List (Nat × Nat)} {f : Nat × Nat → Bool} {F : Nat × Nat → Option D} (h : ∀ z ∈ l, F z = if f z then some (pr z) else none) : l.filterMap F = (l.filter f).map pr := by
  induction l with
  | nil => rfl
  | cons a l ih =>
    rw [List.filterMap_cons, h a List.mem_cons_self, List.filter_cons, ih fun b hb => h b (List.mem_cons_of_mem _ hb)]
    cases f a <;> rfl
section
variable {Q : Ret → En → Prop} {X : XQ}
/-! ### other names -/
def renI (n i : Nat) (r : Rl) (p : List Nat) : Rl := fun x y => (List.range i).any fun a => (List.range n).any fun b => r a b && (p.getD a 0 == x && p.getD b 0 == y)
theorem renI_n (n : Nat) (r : Rl) (p : List Nat) : renI n n r p = ren n r p := rfl
theorem pow_sum {n : Nat} {q : List Nat} (hn : q.Nodup) (hq : ∀ x ∈ q, x < n) : (q.map fun x => 2 ^ x).sum = msk (fun x => q.contains x) n := by
  rw [← msk_sum]
  refine List.Perm.sum_nat (List.Perm.map _ ?_)
  refine (List.perm_ext_iff_of_nodup hn (List.Nodup.sublist List.filter_sublist List.nodup_range)).mpr fun a => ?_
  rw [List.mem_filter, List.mem_range]
  simp only [List.contains_iff_mem]
  exact ⟨fun h => ⟨hq a h, h⟩, fun h => h.2⟩
end
end G
end

section
namespace G
open DL PySem PySem.Spec
open L2 (atI)
set_option maxHeartbeats 0
section
variable {Q : Ret → En → Prop} {X : XQ}
def natT (p : List Nat) : D := .tup (natsD p)
theorem deq_natT (p q : List Nat) : deq (.tup (natsD p)) (.tup (natsD q)) = some (decide (p = q)) := by
  rw [natsD_ints, natsD_ints, deq_tupI]
  congr 2
  apply propext
  constructor
  · intro h
    have := congrArg (List.map Int.toNat) h
    simpa [List.map_map, Function.comp_def] using this
  · rintro rfl; rfl
theorem zip_nats : ∀ (p q : List Nat), zipL (natsD p) (natsD q) = (p.zip q).map pr
  | [], _ => by simp [zipL, natsD]
  | _ :: _, [] => by simp [zipL, natsD]
  | a :: p, b :: q => by
    have := zip_nats p q
    unfold zipL natsD at this ⊢
    simp only [List.map_cons, List.zip_cons_cons, this]
    rfl
theorem zip_gt (l : List (Nat × Nat)) : l.filterMap (fun z => if decide (z.2 < z.1) = true then some (D.int (z.1 : Nat)) else none) = natsD ((l.filter fun z => decide (z.2 < z.1)).map (·.1)) := by
  induction l with
  | nil => rfl
  | cons a l ih =>
    rw [List.filterMap_cons, List.filter_cons, ih]
    cases decide (a.2 < a.1) <;> rfl
theorem gt_empty (p q : List Nat) : (((p.zip q).filter fun z => decide (z.2 < z.1)).map (·.1)).isEmpty = leL p q := by
  unfold leL
  induction p.zip q with
  | nil => rfl
  | cons a l ih =>
    rw [List.filter_cons, List.all_cons, ← ih]
    by_cases h : a.2 < a.1
    · have : ¬ a.1 ≤ a.2 := by omega
      simp [h, this]
    · have : a.1 ≤ a.2 := by omega
      simp [h, this]
end
end G
end

section
namespace G
open DL PySem PySem.Spec
open L2 (atI)
set_option maxHeartbeats 0
section

end
end G
end

section
namespace G
open DL PySem PySem.Spec
open L2 (atI)
set_option maxHeartbeats 0
section
variable {Q : Ret → En → Prop} {X : XQ}
end
end G
end

section
namespace G
open DL PySem PySem.Spec
open L2 (atI)
set_option maxHeartbeats 0
section
variable {Q : Ret → En → Prop} {X : XQ}
/-- behind the choice: the masks of an order stand at 4 -/
def DrP (n c : Nat) (e : En) : Prop := ∃ m r l' s2 s3 s5 t, e = .io (.l l') :: .sh (.int (n : Int)) :: s2 :: s3 :: .sh (.lst (natsD (ofRel m r))) :: s5 :: t ∧ SO m r ∧ m ≤ 9 ∧ (m ≤ n ∨ m = 1) ∧ BoxOk (c + 500) l' ∧ nio s5 = true
theorem up_so {n : Nat} {l : List (Nat × Nat)} (h : ∀ z ∈ l, z.1 < z.2) : SO n (wsh (rlP l) n) := wsh_up fun a _ b _ x => by
  unfold rlP at x
  rw [decide_eq_true_eq] at x
  exact h _ x
end
end G
end

section
namespace G
open DL PySem PySem.Spec
open L2 (atI)
set_option maxHeartbeats 0
section
variable {Q : Ret → En → Prop} {X : XQ}
theorem isint_wp {x : D} (hx : x.plain = true) (h : Q (.sh (.bl (x.isInt && !x.isBl))) [.sh x]) : wp (s_is_integer [.sh x]) Q X := by
  unfold s_is_integer b_is_integer
  simp_arith only [isi_int hx, isi_bool hx]
  refine wif (fun t => ?_) (fun t => ?_)
  · rw [t, Bool.true_and] at h; exact h
  · rw [t, Bool.false_and] at h; rw [t]; exact h
theorem isbtw_int {i a b : Int} (h : Q (.sh (.bl (decide (a ≤ i) && decide (i ≤ b)))) [.sh (.int i), .sh (.int a), .sh (.int b)]) : wp (s_is_between [.sh (.int i), .sh (.int a), .sh (.int b)]) Q X := by
  unfold s_is_between b_is_between
  simp_arith only []
  refine isint_wp rfl ?_
  simp_arith only [D.isInt, D.isBl]
  refine wif_d (fun t => ?_) (fun t => ?_)
  · rw [decide_eq_true t, Bool.true_and] at h; exact h
  · rw [decide_eq_false t, Bool.false_and] at h; exact h
theorem all_true {α : Type} (l : List α) : gAll (.lst (l.filterMap fun _ => some (D.bl true))) = some (.sh (.bl true)) := by
  rw [fm_some, show (l.map fun _ => D.bl true) = (l.map fun _ => true).map D.bl from by rw [List.map_map]; rfl, fall_]
  congr 3
  induction l with
  | nil => rfl
  | cons a l ih => simpa using ih
/-- the rows with their places -/
theorem enum_rows {n : Nat} {r : Rl} : enumL (natsD (ofRel n r)) = (List.range n).map fun a : Nat => .tup [.int a, .int (msk (r a) n : Nat)] := by
  unfold enumL natsD ofRel
  refine List.ext_getElem (by simp) fun i h1 h2 => ?_
  simp
theorem points_wp {n m : Nat} (hm : m < 2 ^ n) (hn : n ≤ 60) (h : Q (.ow (.l (natsD (elems n m)))) [.sh (.int m)]) : wp (s_points_in [.sh (.int m)]) Q X := by
  unfold s_points_in b_points_in
  have hb := bits_le hm
  have hb2 : m < 2 ^ (Builtin.Int.intBits (m : Int)) := bits_bound m
  obtain ⟨k, hk⟩ : ∃ k, k = Builtin.Int.intBits (m : Int) := ⟨_, rfl⟩
  simp_arith only [← hk]
  rw [← hk] at hb hb2
  simp_arith only [small9 (show k ≤ 1000 by omega), rngL_len]
  refine ⟨by omega, ?_⟩
  refine wp_compR (fun p => if m.testBit p then some (.int (p : Int)) else none) (by simp [noOwn, own_no]) (fun p hp => ?_) ?_
  · simp_arith only []
    exact wif (fun t => by rw [if_pos t]) (fun t => by rw [if_neg (by rw [t]; decide)])
  · rw [fm_flt (f := fun p => m.testBit p) (fun p _ => rfl)]
    have : (List.range k).filter (fun p => m.testBit p) = elems n m := (elems_to hb2 hb).symm
    rw [this]
    simp_arith only []
    exact h
theorem elems_msk {n : Nat} {f : Nat → Bool} : elems n (msk f n) = (List.range n).filter f := by
  unfold elems
  exact List.filter_congr fun p hp => msk_test (List.mem_range.mp hp)
theorem prs_flat (n : Nat) (r : Rl) : ((List.range n).flatMap fun a => (elems n (msk (r a) n)).map fun b => pr (a, b)) = (prs n r).map pr := by
  unfold prs sqrI
  rw [List.filter_flatMap, List.map_flatMap]
  congr 1
  funext a
  rw [elems_msk, List.filter_map, List.map_map]
  rfl
/-! ### the class -/
theorem ne_len (n : Nat) (h : n ≤ 9) : ((sqrI n n).filter fun z => z.1 != z.2).length ≤ 72 := by
  have : ∀ m : Fin 10, ((sqrI m.1 m.1).filter fun z => z.1 != z.2).length ≤ 72 := by decide +kernel
  exact this ⟨n, by omega⟩
theorem prs_len72 {n : Nat} {r : Rl} (hn : n ≤ 9) (irr : ∀ a < n, r a a = false) : (prs n r).length ≤ 72 := by
  refine Nat.le_trans ?_ (ne_len n hn)
  have : prs n r = ((sqrI n n).filter fun z => z.1 != z.2).filter fun z => r z.1 z.2 := by
    rw [List.filter_filter]
    unfold prs
    refine List.filter_congr fun z hz => ?_
    obtain ⟨h1, h2⟩ := sqrI_mem.mp hz
    by_cases e : z.1 = z.2
    · rw [← e, irr z.1 h1]; rfl
    · simp [e]
  rw [this]
  exact List.length_filter_le _ _
end
end G
end

section
namespace G
open DL PySem PySem.Spec
open L2 (atI)
set_option maxHeartbeats 0
theorem one_ok {z : Str} {k : Nat} (h1 : PyData.strOk z = true) (h2 : k < z.length) : PyData.strOk ⟨#[z.cps[k]'h2]⟩ = true := by
  unfold PyData.strOk at h1 ⊢
  rw [Array.all_eq_true] at h1
  have := h1 k h2
  simpa using this
def eqAt (a b : Str) (k : Nat) : Bool := a.cps[k]? == b.cps[k]?
theorem eqAt_all {a b : Str} (hl : a.length = b.length) : ((List.range b.length).all fun k => eqAt a b k) = decide (a = b) := by
  rw [Bool.eq_iff_iff, List.all_eq_true, decide_eq_true_eq]
  constructor
  · intro hq
    refine str_ext hl fun k h1 h2 => ?_
    have := hq k (List.mem_range.mpr h2)
    unfold eqAt at this
    rw [Array.getElem?_eq_getElem h1, Array.getElem?_eq_getElem h2] at this
    simpa using this
  · rintro rfl k _
    unfold eqAt
    exact beq_self_eq_true _
theorem same_ss {rec : FS} {a b : Str} {Q : Ret → En → Prop} {X : XQ} (ha : a.length ≤ 1000) (ha2 : PyData.strOk a = true) (hb : b.length ≤ 1000) (hb2 : PyData.strOk b = true)
    (h : Q (.sh (.bl (decide (a = b)))) [.sh (.str a), .sh (.str b)]) : wp (sFun 3 2 (b__law_same rec) [.sh (.str a), .sh (.str b)]) Q X := by
  unfold b__law_same
  simp_arith only [rngL_len, small9 hb]
  refine ⟨by omega, by omega, wif_d (fun hl => ⟨by omega, by omega, ?_⟩) (fun hl => ?_)⟩
  · refine wp_compR (fun k : Nat => if eqAt a b k = true then none else some (.int (k : Int))) (by simp [noOwn, own_no]) (fun k hk => ?_) ?_
    · have hka : k < a.length := by omega
      have e0 : atI b.cps.toList (k : Int) = some (b.cps[k]'hk) := by
        rw [atN_, Array.getElem?_toList, Array.getElem?_eq_getElem hk]
      have e1 : (k : Int) + 1 = ((k + 1 : Nat) : Int) := by omega
      have e2 : eqAt a b k = decide ((⟨#[a.cps[k]'hka]⟩ : Str) = ⟨#[b.cps[k]'hk]⟩) := by
        unfold eqAt
        rw [Array.getElem?_eq_getElem hka, Array.getElem?_eq_getElem hk, Bool.eq_iff_iff]
        simp
      simp_arith only [e1, str_cut hka, e0, deqS (one_ok ha2 hka) (one_ok hb2 hk), ← e2]
      refine ⟨by omega, by omega, ?_⟩
      exact wif (fun q => by rw [if_pos q]) (fun q => by rw [if_neg (by rw [q]; decide)])
    · have e3 : (List.range b.length).filterMap (fun k : Nat => if eqAt a b k = true then none else some (D.int (k : Int))) = natsD ((List.range b.length).filter fun k => !eqAt a b k) := by
        refine fm_flt fun k _ => ?_
        cases eqAt a b k <;> rfl
      simp_arith only [e3, nats_nil, fm_none, eqAt_all hl]
      exact h
  · rw [decide_eq_false fun e => hl (by rw [e])] at h
    rw [decide_eq_false hl]
    exact h
theorem same_tt {k : Nat} {m l : List D} {Q : Ret → En → Prop} {X : XQ} (hd : l.length ≤ 1000)
    (ih : ∀ (j : Nat) (Q : Ret → En → Prop) (X : XQ), j < l.length → m.length = l.length → Q (.sh (.bl (D.same (m.getD j .non) (l.getD j .non)))) [.sh (m.getD j .non), .sh (l.getD j .non)] → wp (s__law_same_f k [.sh (m.getD j .non), .sh (l.getD j .non)]) Q X)
    (h : Q (.sh (.bl (D.sameL m l))) [.sh (.tup m), .sh (.tup l)]) : wp (sFun 3 2 (b__law_same (s__law_same_f k)) [.sh (.tup m), .sh (.tup l)]) Q X := by
  unfold b__law_same
  simp_arith only [rngL_len, small9 hd]
  refine wif_d (fun hl => ⟨by omega, ?_⟩) (fun hl => ?_)
  · refine wp_compR (fun k => if D.same (m.getD k .non) (l.getD k .non) = true then none else some (.int (k : Int))) (by simp [noOwn, own_no]) (fun j hj => ?_) ?_
    · have g1 : m[j]? = some (m.getD j .non) := by rw [List.getD_eq_getElem?_getD, List.getElem?_eq_getElem (by omega)]; rfl
      have g2 : l[j]? = some (l.getD j .non) := by rw [List.getD_eq_getElem?_getD, List.getElem?_eq_getElem hj]; rfl
      simp_arith only [g1, g2]
      refine ih j _ _ hj hl ?_
      simp_arith only []
      exact wif (fun q => by rw [if_pos q]) (fun q => by rw [if_neg (by rw [q]; decide)])
    · have e3 : (List.range l.length).filterMap (fun k : Nat => if D.same (m.getD k .non) (l.getD k .non) = true then none else some (D.int (k : Int))) = natsD ((List.range l.length).filter fun k => !D.same (m.getD k .non) (l.getD k .non)) := by
        refine fm_flt fun k _ => ?_
        cases D.same (m.getD k .non) (l.getD k .non) <;> rfl
      simp_arith only [e3, nats_nil, fm_none, ← sameL_all hl]
      exact h
  · rw [sameL_len hl] at h
    rw [decide_eq_false hl]
    exact h
theorem same_ll {k : Nat} {m l : List D} {Q : Ret → En → Prop} {X : XQ} (hd : l.length ≤ 1000)
    (ih : ∀ (j : Nat) (Q : Ret → En → Prop) (X : XQ), j < l.length → m.length = l.length → Q (.sh (.bl (D.same (m.getD j .non) (l.getD j .non)))) [.sh (m.getD j .non), .sh (l.getD j .non)] → wp (s__law_same_f k [.sh (m.getD j .non), .sh (l.getD j .non)]) Q X)
    (h : Q (.sh (.bl (D.sameL m l))) [.sh (.lst m), .sh (.lst l)]) : wp (sFun 3 2 (b__law_same (s__law_same_f k)) [.sh (.lst m), .sh (.lst l)]) Q X := by
  unfold b__law_same
  simp_arith only [rngL_len, small9 hd]
  refine wif_d (fun hl => ⟨by omega, ?_⟩) (fun hl => ?_)
  · refine wp_compR (fun k => if D.same (m.getD k .non) (l.getD k .non) = true then none else some (.int (k : Int))) (by simp [noOwn, own_no]) (fun j hj => ?_) ?_
    · have g1 : m[j]? = some (m.getD j .non) := by rw [List.getD_eq_getElem?_getD, List.getElem?_eq_getElem (by omega)]; rfl
      have g2 : l[j]? = some (l.getD j .non) := by rw [List.getD_eq_getElem?_getD, List.getElem?_eq_getElem hj]; rfl
      simp_arith only [g1, g2]
      refine ih j _ _ hj hl ?_
      simp_arith only []
      exact wif (fun q => by rw [if_pos q]) (fun q => by rw [if_neg (by rw [q]; decide)])
    · have e3 : (List.range l.length).filterMap (fun k : Nat => if D.same (m.getD k .non) (l.getD k .non) = true then none else some (D.int (k : Int))) = natsD ((List.range l.length).filter fun k => !D.same (m.getD k .non) (l.getD k .non)) := by
        refine fm_flt fun k _ => ?_
        cases D.same (m.getD k .non) (l.getD k .non) <;> rfl
      simp_arith only [e3, nats_nil, fm_none, ← sameL_all hl]
      exact h
  · rw [sameL_len hl] at h
    rw [decide_eq_false hl]
    exact h
end G
end

section
namespace G
open DL PySem PySem.Spec
open L2 (atI)
set_option maxHeartbeats 0
theorem same_non {rec : FS} {t : D} {Q : Ret → En → Prop} {X : XQ} (ht : vGood t = true) (h : Q (.sh (.bl t.isNon)) [.sh t, .sh .non]) : wp (sFun 3 2 (b__law_same rec) [.sh t, .sh .non]) Q X := by
  unfold b__law_same
  simp_arith only []
  exact h
theorem same_bl {rec : FS} {t : D} {b : Bool} {Q : Ret → En → Prop} {X : XQ} (ht : t.plain = true) (h : Q (.sh (.bl (D.same t (.bl b)))) [.sh t, .sh (.bl b)]) : wp (sFun 3 2 (b__law_same rec) [.sh t, .sh (.bl b)]) Q X := by
  unfold b__law_same
  simp_arith only [isi_bool ht]
  cases t with
  | bl a =>
    simp_arith only [D.isBl]
    rw [show ((a == true) == (b == true)) = (a == b) from by cases a <;> cases b <;> rfl]
    simp only [D.same] at h
    exact h
  | obj _ _ => cases ht
  | _ => simp_arith only [D.isBl]; simp only [D.same] at h; exact h
theorem same_int {rec : FS} {t : D} {b : Int} {Q : Ret → En → Prop} {X : XQ} (ht : t.plain = true) (h : Q (.sh (.bl (D.same t (.int b)))) [.sh t, .sh (.int b)]) : wp (sFun 3 2 (b__law_same rec) [.sh t, .sh (.int b)]) Q X := by
  unfold b__law_same
  simp_arith only [isi_bool ht, isi_int ht]
  cases t with
  | int a =>
    simp_arith only [D.isBl, D.isInt]
    rw [decide_eq_decide.mpr (show a - b = 0 ↔ a = b by omega)]
    simp only [D.same] at h
    exact h
  | obj _ _ => cases ht
  | _ => simp_arith only [D.isBl, D.isInt]; simp only [D.same] at h; exact h
theorem plain_of {t : D} (h : vGood t = true) : t.plain = true := by cases t <;> first | rfl | simp [vGood] at h
theorem same_str0 {rec : FS} {t : D} {b : Str} {Q : Ret → En → Prop} {X : XQ} (ht : t.plain = true) (hs : t.isStr = false) (h : Q (.sh (.bl false)) [.sh t, .sh (.str b)]) : wp (sFun 3 2 (b__law_same rec) [.sh t, .sh (.str b)]) Q X := by
  unfold b__law_same
  simp_arith only [isi_bool ht, isi_int ht, isi_str ht, hs]
  exact h
theorem same_tup0 {rec : FS} {t : D} {l : List D} {Q : Ret → En → Prop} {X : XQ} (ht : t.plain = true) (hs : t.isTup = false) (h : Q (.sh (.bl false)) [.sh t, .sh (.tup l)]) : wp (sFun 3 2 (b__law_same rec) [.sh t, .sh (.tup l)]) Q X := by
  unfold b__law_same
  simp_arith only [isi_bool ht, isi_int ht, isi_str ht, isi_tup ht, isi_lst ht, hs]
  cases t.isLst <;> (simp_arith only []; exact h)
theorem same_lst0 {rec : FS} {t : D} {l : List D} {Q : Ret → En → Prop} {X : XQ} (ht : t.plain = true) (hs : t.isLst = false) (h : Q (.sh (.bl false)) [.sh t, .sh (.lst l)]) : wp (sFun 3 2 (b__law_same rec) [.sh t, .sh (.lst l)]) Q X := by
  unfold b__law_same
  simp_arith only [isi_bool ht, isi_int ht, isi_str ht, isi_tup ht, isi_lst ht, hs]
  exact h
theorem same_wp : ∀ (k : Nat) (told due : D) (Q : Ret → En → Prop) (X : XQ), vGood told = true → dGood k due = true → Q (.sh (.bl (D.same told due))) [.sh told, .sh due] → wp (s__law_same_f k [.sh told, .sh due]) Q X
  | 0, _, _, _, _, _, h, _ => by simp [dGood] at h
  | k + 1, told, due, Q, X, ht, hd, h => by
    have hp := plain_of ht
    show wp (sFun 3 2 (b__law_same (s__law_same_f k)) [.sh told, .sh due]) Q X
    cases due with
    | obj _ _ => simp [dGood] at hd
    | dct _ => simp [dGood] at hd
    | non => refine same_non ht ?_; rw [show told.isNon = D.same told .non from by cases told <;> simp only [D.same, D.isNon]]; exact h
    | bl b => exact same_bl hp h
    | int b => exact same_int hp h
    | str b =>
      cases told with
      | str a =>
        simp only [vGood, dGood, Bool.and_eq_true, decide_eq_true_eq] at ht hd
        simp only [D.same] at h
        exact same_ss ht.1 ht.2 hd.1 hd.2 h
      | _ => refine same_str0 hp rfl ?_; simp only [D.same] at h; exact h
    | tup l =>
      cases told with
      | tup m =>
        simp only [vGood, dGood, Bool.and_eq_true, decide_eq_true_eq] at ht hd
        simp only [D.same] at h
        refine same_tt hd.1 (fun j Q X hj hl q => ?_) h
        have g1 : m[j]? = some (m.getD j .non) := by rw [List.getD_eq_getElem?_getD, List.getElem?_eq_getElem (by omega)]; rfl
        have g2 : l[j]? = some (l.getD j .non) := by rw [List.getD_eq_getElem?_getD, List.getElem?_eq_getElem hj]; rfl
        exact same_wp k _ _ Q X (vGoodL_mem ht.2 _ (List.mem_of_getElem? g1)) (dGoodL_mem hd.2 _ (List.mem_of_getElem? g2)) q
      | _ => refine same_tup0 hp rfl ?_; simp only [D.same] at h; exact h
    | lst l =>
      cases told with
      | lst m =>
        simp only [vGood, dGood, Bool.and_eq_true, decide_eq_true_eq] at ht hd
        simp only [D.same] at h
        refine same_ll hd.1 (fun j Q X hj hl q => ?_) h
        have g1 : m[j]? = some (m.getD j .non) := by rw [List.getD_eq_getElem?_getD, List.getElem?_eq_getElem (by omega)]; rfl
        have g2 : l[j]? = some (l.getD j .non) := by rw [List.getD_eq_getElem?_getD, List.getElem?_eq_getElem hj]; rfl
        exact same_wp k _ _ Q X (vGoodL_mem ht.2 _ (List.mem_of_getElem? g1)) (dGoodL_mem hd.2 _ (List.mem_of_getElem? g2)) q
      | _ => refine same_lst0 hp rfl ?_; simp only [D.same] at h; exact h
theorem lsame_wp {told due : D} {Q : Ret → En → Prop} {X : XQ} (ht : vGood told = true) (hd : dGood 12 due = true) (h : Q (.sh (.bl (D.same told due))) [.sh told, .sh due]) : wp (s__law_same [.sh told, .sh due]) Q X := same_wp 12 told due Q X ht hd h
end G
end

section
namespace G
open DL PySem PySem.Spec
open L2 (atI)
set_option maxHeartbeats 0
/-- the other way round -/
def tr (r : Rl) : Rl := fun a b => r b a
theorem tr_so {n : Nat} {r : Rl} (h : SO n r) : SO n (tr r) := ⟨h.irr, fun a ha b hb c hc x y => h.tr c hc b hb a ha y x⟩
section
variable {Q : Ret → En → Prop} {X : XQ}
/-- comparable -/
def nearR (r : Rl) : Rl := fun a b => r a b || r b a
/-- apart -/
def farR (r : Rl) : Rl := fun a b => !(r a b) && !(r b a) && !(a == b)
theorem msk_full (n : Nat) : 2 ^ n - 1 = msk (fun _ => true) n := (msk_eq (by have := Nat.two_pow_pos n; omega) fun b hb => by rw [Nat.testBit_two_pow_sub_one]; simp [hb]).symm
theorem msk_sub {f : Nat → Bool} {n m : Nat} : msk f n - (msk f n &&& m) = msk (fun b => f b && !m.testBit b) n := by
  refine (msk_eq (Nat.lt_of_le_of_lt (Nat.sub_le _ _) (msk_lt f n)) fun b hb => ?_).symm
  rw [sub_bit, msk_test hb]
theorem far_row {n a : Nat} {r : Rl} : msk (fun b => true && !(msk (nearR r a) n).testBit b && !(Nat.testBit (2 ^ a) b)) n = msk (farR r a) n := msk_congr fun b hb => by
  rw [msk_test hb, Nat.testBit_two_pow]
  unfold farR nearR
  by_cases e : a = b <;> simp [e]
theorem fm_prs' {l : List (Nat × Nat)} {f : Nat × Nat → Bool} {F : Nat × Nat → Option D} (h : ∀ z ∈ l, F z = if f z then some (pr z) else none) : l.filterMap F = (l.filter f).map pr := fm_prs h
/-- covering pairs -/
def covL (n : Nat) (r : Rl) : List (Nat × Nat) := (prs n r).filter fun z => decide (msk (r z.1) n &&& msk (tr r z.2) n = 0)
theorem fm_same (l : List D) (f : D → Bool) : l.filterMap (fun d => if f d = true then some d else none) = l.filter f := by
  induction l with
  | nil => rfl
  | cons a l ih =>
    rw [List.filterMap_cons, List.filter_cons, ih]
    cases f a <;> rfl
theorem any_empty (l : List D) (f : D → Bool) : (!(l.filter f).isEmpty) = l.any f := by
  induction l with
  | nil => rfl
  | cons a l ih => rw [List.filter_cons, List.any_cons, ← ih]; cases f a <;> simp
theorem lst_nil {l : List D} (ok : okD (.lst l) = true) : deq (.lst l) (.lst []) = some l.isEmpty := deq_nil ok
end
end G
end

section
namespace G
open DL PySem PySem.Spec
open L2 (atI)
set_option maxHeartbeats 0
section
variable {Q : Ret → En → Prop} {X : XQ}
/-- a tuple of numbers -/
def tupN (l : List Nat) : D := .tup (natsD l)
theorem tupN_ok (l : List Nat) : (tupN l).py.canLay0 = true ∧ (tupN l).py.depth ≤ 63 := by
  have := ok_tupI (l.map fun p : Nat => (p : Int))
  rw [← natsD_ints] at this
  unfold okD SeqAt.shaped at this
  rw [Bool.and_eq_true, decide_eq_true_eq] at this
  refine ⟨this.1, ?_⟩
  show PyData.depthAll (pys (natsD l)) + 1 ≤ 63
  rw [natsD_ints, depth_ints]; decide
theorem tupNs_ok (ls : List (List Nat)) : okD (.lst (ls.map tupN)) = true := ok_lst_iff.mpr fun x hx => by
  obtain ⟨l, _, rfl⟩ := List.mem_map.mp hx
  exact tupN_ok l
theorem vG_nat (l : List Nat) (h : l.length ≤ 1000) : vGood (tupN l) = true := by
  unfold tupN vGood
  rw [natsD_len, decide_eq_true h, Bool.true_and]
  exact vGoodL_of fun x hx => by obtain ⟨p, _, rfl⟩ := natsD_mem hx; rfl
theorem dG_nat {k : Nat} (l : List Nat) (h : l.length ≤ 1000) : dGood (k + 2) (tupN l) = true := by
  unfold tupN dGood
  rw [natsD_len, decide_eq_true h, Bool.true_and]
  exact dGoodL_of fun x hx => by obtain ⟨p, _, rfl⟩ := natsD_mem hx; simp [dGood]
theorem same_refl_nat (l : List Nat) : D.same (tupN l) (tupN l) = true := by
  unfold tupN
  rw [D.same]
  induction l with
  | nil => rfl
  | cons a l ih => unfold natsD at ih ⊢; rw [List.map_cons, D.sameL, ih]; simp [D.same]
/-! ### two chains apart -/
def ch2 (r : Rl) (z y : Nat × Nat) : Bool := !(r z.1 y.2) && !(r y.1 z.2)
def qd (z y : Nat × Nat) : List Nat := [z.1, z.2, y.1, y.2]
def chainsL (n : Nat) (r : Rl) : List (List Nat) := (prs n r).flatMap fun z => ((prs n r).filter fun y => ch2 r z y).map fun y => qd z y
theorem flat_len (l : List (Nat × Nat)) (f : Nat × Nat → List (List Nat)) (B : Nat) (h : ∀ z, (f z).length ≤ B) : (l.flatMap f).length ≤ l.length * B := by
  induction l with
  | nil => simp
  | cons a l ih => rw [List.flatMap_cons, List.length_append, List.length_cons, Nat.succ_mul]; have := h a; omega
theorem chainsL_mem {n : Nat} {r : Rl} {q : List Nat} : q ∈ chainsL n r ↔ ∃ z ∈ prs n r, ∃ y ∈ prs n r, ch2 r z y = true ∧ q = qd z y := by
  unfold chainsL
  simp only [List.mem_flatMap, List.mem_map, List.mem_filter]
  constructor
  · rintro ⟨z, hz, y, ⟨hy, hc⟩, rfl⟩; exact ⟨z, hz, y, hy, hc, rfl⟩
  · rintro ⟨z, hz, y, hy, hc, rfl⟩; exact ⟨z, hz, y, ⟨hy, hc⟩, rfl⟩
theorem chainsL_len {n : Nat} {r : Rl} (hn : n ≤ 9) : (chainsL n r).length ≤ 81 * 81 := by
  have hl := prs_len n r
  have hnn : n * n ≤ 9 * 9 := Nat.mul_le_mul hn hn
  refine Nat.le_trans (flat_len _ _ (n * n) fun z => ?_) (Nat.mul_le_mul (by omega) hnn)
  rw [List.length_map]; exact Nat.le_trans (List.length_filter_le _ _) hl
/-! ### the class's methods -/
end
end G
end

section
namespace G
open DL PySem PySem.Spec
open L2 (atI)
set_option maxHeartbeats 0
/-! ### pairs, closures -/
theorem pr_tup (z : Nat × Nat) : pr z = .tup (natsD [z.1, z.2]) := rfl
theorem pr_ok (z : Nat × Nat) : okD (pr z) = true := by rw [pr_tup, natsD_ints]; exact ok_tupI _
theorem pr_inj {z y : Nat × Nat} : pr z = pr y ↔ z = y := by
  constructor
  · intro h
    obtain ⟨a, b⟩ := z
    obtain ⟨c, d⟩ := y
    unfold pr at h
    simp at h
    rw [show a = c by omega, show b = d by omega]
  · rintro rfl; rfl
theorem deq_pr (z y : Nat × Nat) : deq (pr z) (pr y) = some (decide (z = y)) := by
  rw [pr_tup, pr_tup, deq_natT]
  congr 1
  rw [decide_eq_decide]
  cases z; cases y; simp
theorem eqv_pr (z y : Nat × Nat) : PyData.eqv (pr z).py (pr y).py = decide (z = y) := by
  have := deq_pr z y
  unfold deq at this
  rw [pr_ok, pr_ok] at this
  exact Option.some.inj this
theorem prs_ok (l : List (Nat × Nat)) : okD (.lst (l.map pr)) = true := ok_lst_iff.mpr fun x hx => by
  obtain ⟨z, _, rfl⟩ := List.mem_map.mp hx
  exact tupN_ok [z.1, z.2]
theorem dIn_pr (z : Nat × Nat) (l : List (Nat × Nat)) : dIn (pr z) (l.map pr) = some (decide (z ∈ l)) := by
  unfold dIn
  rw [pr_ok, prs_ok]
  show some _ = _
  congr 1
  rw [Bool.eq_iff_iff, List.any_eq_true, decide_eq_true_eq]
  constructor
  · rintro ⟨x, hx, e⟩
    obtain ⟨y, hy, rfl⟩ := List.mem_map.mp hx
    rw [eqv_pr, decide_eq_true_eq] at e
    rw [← e]; exact hy
  · exact fun h => ⟨pr z, List.mem_map.mpr ⟨z, h, rfl⟩, by rw [eqv_pr]; simp⟩
/-- nothing between -/
def covB (n : Nat) (r : Rl) (z : Nat × Nat) : Bool := ((List.range n).filter fun c => r z.1 c && r c z.2).isEmpty
theorem covB_iff {n : Nat} {r : Rl} {z : Nat × Nat} : covB n r z = true ↔ ∀ c < n, r z.1 c = true → r c z.2 = true → False := by
  unfold covB
  rw [List.isEmpty_iff, List.filter_eq_nil_iff]
  constructor
  · intro h c hc x y
    exact h c (List.mem_range.mpr hc) (by rw [x, y]; rfl)
  · intro h c hc
    rw [Bool.and_eq_true]
    exact fun ⟨x, y⟩ => h c (List.mem_range.mp hc) x y
/-- the least order with the covering pairs is the order -/
theorem clo_cov {n : Nat} {r : Rl} (so : SO n r) {l : List (Nat × Nat)} (h1 : ∀ z ∈ l, z.1 < n ∧ z.2 < n ∧ r z.1 z.2 = true) (h2 : ∀ a < n, ∀ b < n, r a b = true → covB n r (a, b) = true → (a, b) ∈ l) :
    ∀ a < n, ∀ b < n, wsh (rlP l) n a b = r a b := by
  intro a ha b hb
  rw [Bool.eq_iff_iff]
  constructor
  · exact wsh_le (t := fun a b => r a b = true) (fun a ha b hb c hc x y => so.tr a ha b hb c hc x y) (fun a ha b hb x => by
      unfold rlP at x; rw [decide_eq_true_eq] at x; exact (h1 _ x).2.2) n (Nat.le_refl _) a ha b hb
  · have key : ∀ k a b, a < n → b < n → r a b = true → ((List.range n).filter fun c => r a c && r c b).length ≤ k → wsh (rlP l) n a b = true := by
      intro k
      induction k with
      | zero =>
        intro a b ha hb hr hk
        refine wsh_ge n a b ?_
        unfold rlP; rw [decide_eq_true_eq]
        refine h2 a ha b hb hr ?_
        unfold covB
        rw [List.isEmpty_iff]; exact List.length_eq_zero_iff.mp (Nat.le_zero.mp hk)
      | succ k ih =>
        intro a b ha hb hr hk
        by_cases q : covB n r (a, b) = true
        · exact wsh_ge n a b (by unfold rlP; rw [decide_eq_true_eq]; exact h2 a ha b hb hr q)
        · have : ∃ c < n, r a c = true ∧ r c b = true := by
            refine Classical.byContradiction fun z => q (covB_iff.mpr fun c hc x y => z ⟨c, hc, x, y⟩)
          obtain ⟨c, hc, x, y⟩ := this
          have less : ∀ (f g : Nat → Bool), (∀ d, d < n → f d = true → g d = true) → (∃ d < n, g d = true ∧ f d = false) → ((List.range n).filter f).length < ((List.range n).filter g).length := by
            intro f g hfg ⟨d, hd, hg, hf⟩
            have e1 : (List.range n).filter f = ((List.range n).filter g).filter f := by
              rw [List.filter_filter]
              refine List.filter_congr fun x hx => ?_
              have := hfg x (List.mem_range.mp hx)
              cases q : f x <;> simp [q, this]
            rw [e1]
            refine List.length_filter_lt_length_iff_exists.mpr ⟨d, List.mem_filter.mpr ⟨List.mem_range.mpr hd, hg⟩, by rw [hf]; decide⟩
          have l1 := less (fun d => r a d && r d c) (fun d => r a d && r d b) (fun d hd h => by
            rw [Bool.and_eq_true] at h ⊢; exact ⟨h.1, so.tr d hd c hc b hb h.2 y⟩) ⟨c, hc, by rw [x, y]; rfl, by rw [so.irr c hc, Bool.and_false]⟩
          have l2 := less (fun d => r c d && r d b) (fun d => r a d && r d b) (fun d hd h => by
            rw [Bool.and_eq_true] at h ⊢; exact ⟨so.tr a ha c hc d hd x h.1, h.2⟩) ⟨c, hc, by rw [x, y]; rfl, by rw [so.irr c hc, Bool.false_and]⟩
          exact wsh_tr _ n a c b hc (ih a c ha hc x (by omega)) (ih c b hc hb y (by omega))
    exact fun hr => key _ a b ha hb hr (Nat.le_refl _)
/-- any part of an order's pairs leads to an order -/
theorem clo_sub {n : Nat} {r : Rl} (so : SO n r) {l : List (Nat × Nat)} (h1 : ∀ z ∈ l, z.1 < n ∧ z.2 < n ∧ r z.1 z.2 = true) : SO n (wsh (rlP l) n) := by
  refine ⟨fun a ha => ?_, fun a ha b hb c hc x y => wsh_tr _ n a b c hb x y⟩
  cases q : wsh (rlP l) n a a with
  | false => rfl
  | true =>
    have := wsh_le (r := rlP l) (n := n) (t := fun a b => r a b = true) (fun a ha b hb c hc x y => so.tr a ha b hb c hc x y) (fun a ha b hb x => by
      unfold rlP at x; rw [decide_eq_true_eq] at x; exact (h1 _ x).2.2) n (Nat.le_refl _) a ha a ha q
    rw [so.irr a ha] at this; cases this
theorem nodup_mapI {α β : Type} {f : α → β} : ∀ {l : List α}, l.Nodup → (∀ a ∈ l, ∀ b ∈ l, f a = f b → a = b) → (l.map f).Nodup
  | [], _, _ => List.nodup_nil
  | a :: l, h, inj => by
    have h' := List.nodup_cons.mp h
    rw [List.map_cons, List.nodup_cons]
    refine ⟨fun hm => ?_, nodup_mapI h'.2 fun x hx y hy e => inj x (List.mem_cons_of_mem _ hx) y (List.mem_cons_of_mem _ hy) e⟩
    obtain ⟨b, hb, e⟩ := List.mem_map.mp hm
    exact h'.1 (inj b (List.mem_cons_of_mem _ hb) a List.mem_cons_self e ▸ hb)
theorem len_subG {α : Type} [BEq α] [LawfulBEq α] : ∀ (ys xs : List α), ys.Nodup → (∀ y ∈ ys, y ∈ xs) → ys.length ≤ xs.length
  | [], _, _, _ => Nat.zero_le _
  | y :: ys, xs, hn, hs => by
    have h1 := List.nodup_cons.mp hn
    have hy := hs y List.mem_cons_self
    have := len_subG ys (xs.erase y) h1.2 fun z hz => by
      have ne : z ≠ y := fun e => h1.1 (by rw [← e]; exact hz)
      exact (List.mem_erase_of_ne ne).mpr (hs z (List.mem_cons_of_mem _ hz))
    rw [List.length_erase_of_mem hy] at this
    have hp : 0 < xs.length := List.length_pos_of_mem hy
    rw [List.length_cons]; omega
theorem nodup_sqrI (n : Nat) : ∀ i, (sqrI n i).Nodup
  | 0 => by simp [sqrI]
  | i + 1 => by
    rw [sqrI_succ, List.nodup_append]
    refine ⟨nodup_sqrI n i, ?_, fun z hz y hy e => ?_⟩
    · refine nodup_mapI List.nodup_range fun a _ b _ e => (Prod.mk.inj e).2
    · obtain ⟨b, _, rfl⟩ := List.mem_map.mp hy
      have := (sqrI_mem.mp hz).1
      rw [e] at this
      exact Nat.lt_irrefl _ this
theorem nodup_prs (n : Nat) (r : Rl) : (prs n r).Nodup := List.Nodup.sublist List.filter_sublist (nodup_sqrI n n)
theorem prs_len36 {n : Nat} {r : Rl} (hn : n ≤ 9) (so : SO n r) : (prs n r).length ≤ 36 := by
  have h : ((prs n r) ++ (prs n r).map fun z => (z.2, z.1)).length ≤ 72 := by
    refine Nat.le_trans ?_ (ne_len n hn)
    refine len_subG _ _ ?_ fun z hz => ?_
    · rw [List.nodup_append]
      refine ⟨nodup_prs n r, nodup_mapI (nodup_prs n r) fun a _ b _ e => by cases a; cases b; simp at e ⊢; exact ⟨e.2, e.1⟩, fun z hz y hy e => ?_⟩
      obtain ⟨w, hw, rfl⟩ := List.mem_map.mp hy
      obtain ⟨⟨a1, a2⟩, a3⟩ := prs_mem.mp hz
      obtain ⟨_, b3⟩ := prs_mem.mp hw
      rw [e] at a1 a2 a3
      have := so.asym a1 a2 a3
      rw [this] at b3; cases b3
    · rw [List.mem_filter, sqrI_mem]
      rcases List.mem_append.mp hz with h | h
      · obtain ⟨a1, a3⟩ := prs_mem.mp h
        exact ⟨a1, by simp; intro e; rw [e, so.irr _ (by omega)] at a3; cases a3⟩
      · obtain ⟨w, hw, rfl⟩ := List.mem_map.mp h
        obtain ⟨a1, a3⟩ := prs_mem.mp hw
        exact ⟨⟨a1.2, a1.1⟩, by simp; intro e; rw [e, so.irr _ (by omega)] at a3; cases a3⟩
  rw [List.length_append, List.length_map] at h
  omega
section
variable {Q : Ret → En → Prop} {X : XQ}
theorem fullD (n : Nat) : rngL 0 n = natsD (List.range n) := rng_nat n
theorem prs_congr {n : Nat} {r s : Rl} (h : ∀ a < n, ∀ b < n, r a b = s a b) : prs n r = prs n s := by
  unfold prs
  refine List.filter_congr fun z hz => ?_
  obtain ⟨h1, h2⟩ := sqrI_mem.mp hz
  rw [h _ h1 _ h2]
theorem pr_tupN (z : Nat × Nat) : pr z = tupN [z.1, z.2] := rfl
theorem vG_prs (l : List (Nat × Nat)) (h : l.length ≤ 1000) : vGood (.tup (l.map pr)) = true := by
  simp only [vGood, List.length_map, Bool.and_eq_true, decide_eq_true_eq]
  exact ⟨h, vGoodL_of fun x hx => by obtain ⟨z, _, rfl⟩ := List.mem_map.mp hx; exact vG_nat [z.1, z.2] (by simp)⟩
theorem dG_prs {k : Nat} (l : List (Nat × Nat)) (h : l.length ≤ 1000) : dGood (k + 3) (.tup (l.map pr)) = true := by
  simp only [dGood, List.length_map, Bool.and_eq_true, decide_eq_true_eq]
  exact ⟨h, dGoodL_of fun x hx => by obtain ⟨z, _, rfl⟩ := List.mem_map.mp hx; exact dG_nat (k := k) [z.1, z.2] (by simp)⟩
theorem same_prs (l : List (Nat × Nat)) : D.same (.tup (l.map pr)) (.tup (l.map pr)) = true := by
  show D.sameL (l.map pr) (l.map pr) = true
  induction l with
  | nil => rfl
  | cons z l ih =>
    show (D.same (pr z) (pr z) && D.sameL (l.map pr) (l.map pr)) = true
    rw [ih, show D.same (pr z) (pr z) = true from same_refl_nat [z.1, z.2]]; rfl
theorem vGl {l : List D} (hl : l.length ≤ 1000) (h : vGoodL l = true) : vGood (.lst l) = true := by
  simp only [vGood, Bool.and_eq_true, decide_eq_true_eq]; exact ⟨hl, h⟩
theorem vGt {l : List D} (hl : l.length ≤ 1000) (h : vGoodL l = true) : vGood (.tup l) = true := by
  simp only [vGood, Bool.and_eq_true, decide_eq_true_eq]; exact ⟨hl, h⟩
theorem vGc {a : D} {l : List D} (h : vGood a = true) (t : vGoodL l = true) : vGoodL (a :: l) = true := by
  simp only [vGoodL, Bool.and_eq_true]; exact ⟨h, t⟩
theorem vGn : vGoodL [] = true := by simp [vGoodL]
theorem dGl {k : Nat} {l : List D} (hl : l.length ≤ 1000) (h : dGoodL k l = true) : dGood (k + 1) (.lst l) = true := by
  simp only [dGood, Bool.and_eq_true, decide_eq_true_eq]; exact ⟨hl, h⟩
theorem dGt {k : Nat} {l : List D} (hl : l.length ≤ 1000) (h : dGoodL k l = true) : dGood (k + 1) (.tup l) = true := by
  simp only [dGood, Bool.and_eq_true, decide_eq_true_eq]; exact ⟨hl, h⟩
theorem dGc {k : Nat} {a : D} {l : List D} (h : dGood k a = true) (t : dGoodL k l = true) : dGoodL k (a :: l) = true := by
  simp only [dGoodL, Bool.and_eq_true]; exact ⟨h, t⟩
theorem dGn {k : Nat} : dGoodL k [] = true := by simp [dGoodL]
theorem vGi {k : Int} : vGood (.int k) = true := by simp [vGood]
theorem dGi {m : Nat} {k : Int} : dGood (m + 1) (.int k) = true := by simp [dGood]
theorem vGb {k : Bool} : vGood (.bl k) = true := by simp [vGood]
theorem dGb {m : Nat} {k : Bool} : dGood (m + 1) (.bl k) = true := by simp [dGood]
theorem vGo : vGood .non = true := by simp [vGood]
theorem dGo {m : Nat} : dGood (m + 1) .non = true := by simp [dGood]
end
end G
end

section
namespace G
open DL PySem PySem.Spec
open L2 (atI)
set_option maxHeartbeats 0
section
variable {Q : Ret → En → Prop} {X : XQ}
theorem wp_compM {α : Type} {g : D → M Unit} {t : M Bool} {m : M D} {vs : List Nat} {e : En} {QL : List D → En → Prop} {X : XQ} {l : List α} {f : α → D} (Inv : Nat → List D → En → Prop) (h : Inv 0 [] e)
    (st : ∀ (i : Nat) (hi : i < l.length) acc e, Inv i acc e → noOwn e vs = true ∧ wp (turnC g t m (f l[i]) (wipeE e vs)) (fun o e1 => Inv (i + 1) (acc ++ o.toList) (backE e1 e vs)) X0)
    (fin : ∀ acc e, Inv l.length acc e → QL acc e) : wp (compF g t m vs (l.map f) [] e) QL X := by
  refine wp_compI Inv h (fun i d acc e q hi => ?_) (by rw [List.length_map]; exact fin)
  rw [List.getElem?_map] at q
  cases z : l[i]? with
  | none => rw [z] at q; cases q
  | some a =>
    obtain ⟨h1, h2⟩ := List.getElem?_eq_some_iff.mp z
    rw [z, ← h2] at q; cases q
    exact st i h1 acc e hi
/-! ### cycles -/
theorem fm_snd (l : List (Nat × Nat)) (f : Nat × Nat → Bool) : l.filterMap (fun z => if f z = true then some (D.int (z.2 : Int)) else none) = natsD ((l.filter f).map (·.2)) := by
  induction l with
  | nil => rfl
  | cons a l ih =>
    rw [List.filterMap_cons, List.filter_cons, ih]
    cases f a <;> rfl
theorem min_nat {l : List Nat} (h : l ≠ []) : ∃ m ∈ l, fMin [.lst (natsD l)] = some (.sh (.int (m : Nat))) := by
  cases l with
  | nil => exact absurd rfl h
  | cons a l =>
    show ∃ m ∈ a :: l, (asInts _).bind _ = _
    rw [show natsD (a :: l) = ((a : Int) :: l.map fun p : Nat => (p : Int)).map D.int from by rw [natsD_ints]; rfl, asInts_map, Option.bind_some]
    unfold minI
    have key : ∀ (l : List Nat) (z : Nat), ∃ m, (m = z ∨ m ∈ l) ∧ (l.map fun p : Nat => (p : Int)).foldl (fun a b => if b < a then b else a) (z : Int) = (m : Int) := by
      intro l
      induction l with
      | nil => intro z; exact ⟨z, .inl rfl, rfl⟩
      | cons b l ih =>
        intro z
        rw [List.map_cons, List.foldl_cons]
        by_cases q : b < z
        · rw [if_pos (by omega)]
          obtain ⟨m, h1, h2⟩ := ih b
          exact ⟨m, .inr (by rcases h1 with rfl | h1; exact List.mem_cons_self; exact List.mem_cons_of_mem _ h1), h2⟩
        · rw [if_neg (by omega)]
          obtain ⟨m, h1, h2⟩ := ih z
          exact ⟨m, by rcases h1 with rfl | h1; exact .inl rfl; exact .inr (List.mem_cons_of_mem _ h1), h2⟩
    obtain ⟨m, h1, h2⟩ := key l a
    refine ⟨m, by rcases h1 with rfl | h1; exact List.mem_cons_self; exact List.mem_cons_of_mem _ h1, ?_⟩
    rw [Option.map_some, h2]
theorem at_m1 {w : List Nat} (h : w ≠ []) : atI (natsD w) (-1) = some (.int (w.getLast h : Nat)) := by
  have hl : 0 < w.length := List.length_pos_iff.mpr h
  have e : L2.ixN (natsD w).length (-1) = some (w.length - 1) := by
    rw [natsD_ln]
    unfold L2.ixN
    rw [if_neg (by omega), if_pos (by omega)]
    congr 1; omega
  unfold atI
  rw [e, Option.bind_some, natsD_get, List.getElem?_eq_getElem (by omega), List.getLast_eq_getElem]
  rfl
theorem cut_m1 {w : List Nat} : cutD (natsD w) none (some (-1)) = natsD w.dropLast := by
  unfold cutD
  have h1 : HT.sIx (natsD w).length 0 none = 0 := rfl
  have h2 : HT.sIx (natsD w).length (natsD w).length (some (-1)) = w.length - 1 := by
    rw [natsD_ln]
    show (if (-1 : Int) < 0 then ((-1 : Int) + (w.length : Int)).toNat else min (-1 : Int).toNat w.length) = _
    rw [if_pos (by decide)]
    omega
  rw [h1, h2, List.drop_zero, Nat.sub_zero, List.dropLast_eq_take]
  unfold natsD
  rw [List.map_take]
theorem cut_jm1 {w : List Nat} {j : Nat} (hj : j < w.length) : cutD (natsD w) (some (j : Int)) (some (-1)) = natsD (w.dropLast.drop j) := by
  unfold cutD
  have h1 : HT.sIx (natsD w).length 0 (some (j : Int)) = j := by
    rw [natsD_ln, HT.sIx_nat]; omega
  have h2 : HT.sIx (natsD w).length (natsD w).length (some (-1)) = w.length - 1 := by
    rw [natsD_ln]
    show (if (-1 : Int) < 0 then ((-1 : Int) + (w.length : Int)).toNat else min (-1 : Int).toNat w.length) = _
    rw [if_pos (by decide)]
    omega
  rw [h1, h2, List.dropLast_eq_take, List.drop_take]
  unfold natsD
  rw [List.map_take, List.map_drop]
theorem dIn_natX (i : Nat) (ns : List Nat) : dIn (.int (i : Int)) (natsD ns) = some (decide (i ∈ ns)) := by
  rw [natsD_ints, dIn_int]
  congr 1
  rw [decide_eq_decide, List.mem_map]
  exact ⟨fun ⟨x, h, e⟩ => by rwa [← Int.ofNat_inj.mp e], fun h => ⟨i, h, rfl⟩⟩
/-- the first step of a way -/
theorem wsh_first {n : Nat} {l : List (Nat × Nat)} {a b : Nat} (ha : a < n) (hb : b < n) (h : wsh (rlP l) n a b = true) : ∃ y < n, (a, y) ∈ l ∧ (y = b ∨ wsh (rlP l) n y b = true) := by
  refine wsh_le (r := rlP l) (n := n) (t := fun a b => ∃ y < n, (a, y) ∈ l ∧ (y = b ∨ wsh (rlP l) n y b = true)) ?_ ?_ n (Nat.le_refl _) a ha b hb h
  · rintro a ha b hb c hc ⟨y, hy, h1, h2⟩ ⟨z, hz, h3, h4⟩
    have bc : wsh (rlP l) n b c = true := by
      have bz : wsh (rlP l) n b z = true := wsh_ge n b z (by unfold rlP; exact decide_eq_true h3)
      rcases h4 with rfl | h4
      · exact bz
      · exact wsh_tr _ n b z c hz bz h4
    refine ⟨y, hy, h1, .inr ?_⟩
    rcases h2 with rfl | h2
    · exact bc
    · exact wsh_tr _ n y b c hb h2 bc
  · intro a ha b hb x
    unfold rlP at x
    exact ⟨b, hb, of_decide_eq_true x, .inl rfl⟩
/-- points, each with a pair to the next one, the last to the first -/
def CycOk (n : Nat) (l : List (Nat × Nat)) (q : List Nat) : Prop := 2 ≤ q.length ∧ q.length ≤ n ∧ (∀ p ∈ q, p < n) ∧ ∀ i < q.length, (q.getD i 0, q.getD ((i + 1) % q.length) 0) ∈ l
structure Way (n : Nat) (l : List (Nat × Nat)) (s0 : Nat) (w : List Nat) : Prop where
  ne : w ≠ []
  all : ∀ x ∈ w, x < n ∧ wsh (rlP l) n x s0 = true
  nx : ∀ i, i + 1 < w.length → (w.getD i 0, w.getD (i + 1) 0) ∈ l
  nd : w.dropLast.Nodup
theorem Way.len {n : Nat} {l : List (Nat × Nat)} {s0 : Nat} {w : List Nat} (h : Way n l s0 w) : w.length ≤ n + 1 := by
  have := len_subG w.dropLast (List.range n) h.nd fun x hx => List.mem_range.mpr (h.all x ((List.dropLast_sublist w).mem hx)).1
  rw [List.length_dropLast, List.length_range] at this
  omega
theorem getD_app_l {w v : List Nat} {i : Nat} (h : i < w.length) : (w ++ v).getD i 0 = w.getD i 0 := by
  rw [List.getD_eq_getElem?_getD, List.getD_eq_getElem?_getD, List.getElem?_append_left h]
theorem getD_last {w : List Nat} (h : w ≠ []) : w.getD (w.length - 1) 0 = w.getLast h := by
  have hl : 0 < w.length := List.length_pos_iff.mpr h
  rw [List.getD_eq_getElem?_getD, List.getElem?_eq_getElem (by omega), List.getLast_eq_getElem]; rfl
theorem Way.more {n : Nat} {l : List (Nat × Nat)} {s0 y : Nat} {w : List Nat} (h : Way n l s0 w) (hl : w.getLast h.ne ∉ w.dropLast) (hy : y < n ∧ wsh (rlP l) n y s0 = true) (hp : (w.getLast h.ne, y) ∈ l) : Way n l s0 (w ++ [y]) := by
  refine ⟨by simp, fun x hx => ?_, fun i hi => ?_, ?_⟩
  · rcases List.mem_append.mp hx with q | q
    · exact h.all x q
    · rw [List.mem_singleton.mp q]; exact hy
  · have hw : 0 < w.length := List.length_pos_iff.mpr h.ne
    rw [List.length_append, List.length_singleton] at hi
    by_cases q : i + 1 < w.length
    · rw [getD_app_l (by omega), getD_app_l q]; exact h.nx i q
    · have e : i = w.length - 1 := by omega
      rw [getD_app_l (by omega), e, getD_last h.ne]
      have : (w ++ [y]).getD (w.length - 1 + 1) 0 = y := by
        rw [List.getD_eq_getElem?_getD, List.getElem?_append_right (by omega), show w.length - 1 + 1 - w.length = 0 by omega]; rfl
      rw [this]; exact hp
  · rw [List.dropLast_concat]
    rw [← List.dropLast_concat_getLast h.ne, List.nodup_append]
    refine ⟨h.nd, by simp, fun a ha b hb e => ?_⟩
    rw [List.mem_singleton.mp hb] at e
    exact hl (e ▸ ha)
theorem Way.cyc {n : Nat} {l : List (Nat × Nat)} {s0 j : Nat} {w : List Nat} (h : Way n l s0 w) (dif : ∀ z ∈ l, z.1 ≠ z.2) (hj : j + 1 < w.length) (e : w.getD j 0 = w.getLast h.ne) : CycOk n l (w.dropLast.drop j) := by
  have hlen : (w.dropLast.drop j).length = w.length - 1 - j := by rw [List.length_drop, List.length_dropLast]
  have hg : ∀ i, i < w.length - 1 - j → (w.dropLast.drop j).getD i 0 = w.getD (j + i) 0 := fun i hi => by
    rw [List.getD_eq_getElem?_getD, List.getD_eq_getElem?_getD, List.getElem?_drop, List.dropLast_eq_take, List.getElem?_take_of_lt (by omega)]
  have last : w.getD (w.length - 1) 0 = w.getD j 0 := by rw [getD_last h.ne, e]
  have two : 2 ≤ w.length - 1 - j := by
    refine Classical.byContradiction fun q => ?_
    have : j + 1 = w.length - 1 := by omega
    have p := h.nx j hj
    rw [this, last] at p
    exact dif _ p rfl
  have hwl := h.len
  refine ⟨by rw [hlen]; exact two, by rw [hlen]; omega, fun p hp => (h.all p ((List.dropLast_sublist w).mem (List.mem_of_mem_drop hp))).1, fun i hi => ?_⟩
  rw [hlen] at hi ⊢
  rw [hg i hi]
  by_cases q : i + 1 < w.length - 1 - j
  · rw [Nat.mod_eq_of_lt q, hg _ q, show j + (i + 1) = j + i + 1 by omega]
    exact h.nx _ (by omega)
  · have e2 : i + 1 = w.length - 1 - j := by omega
    rw [e2, Nat.mod_self, hg 0 (by omega), Nat.add_zero, ← last]
    have := h.nx (j + i) (by omega)
    rwa [show j + i + 1 = w.length - 1 by omega] at this
end
end G
end

section
namespace G
open DL PySem PySem.Spec
open L2 (atI)
set_option maxHeartbeats 0
section
variable {Q : Ret → En → Prop} {X : XQ}
/-- if P: .., and on -/
theorem wp_seqIf {c : M Bool} {m n : M Fl} {e : En} {QF : Fl → En → Prop} {X : XQ} (P : Prop) [Decidable P] (hc : wp (c e) (fun k e1 => k = decide P ∧ e1 = e) X0) (h1 : P → wp (m e) (fun fl e1 => Wfl fl (wp (n e1) QF X) (QF fl e1)) X) (h2 : ¬ P → wp (n e) QF X) : wp (sSeq (sIf c m sNil) n e) QF X := by
  rw [wp_sSeq]
  refine wp_ifD P hc h1 fun t => ?_
  show wp (R.ok Fl.nx e) _ _
  rw [wp_ok, Wfl_nx]
  exact h2 t
/-- a filter whose test may draw -/
theorem wp_compBox {α : Type} {g : D → M Unit} {t : M Bool} {m : M D} {vs : List Nat} {QL : List D → En → Prop} {X : XQ} {l : List α} {f : α → D} {c k : Nat} {l0 : List D} (e0 : List D → En) (hno : ∀ l' : List D, noOwn (e0 l') vs = true) (hb : BoxOk c l0)
    (st : ∀ a ∈ l, ∀ (c' : Nat) (l' : List D), c ≤ c' → c' ≤ c + k * l.length → BoxOk c' l' → wp (turnC g t m (f a) (wipeE (e0 l') vs)) (fun o e1 => (o = none ∨ o = some (f a)) ∧ ∃ l'' : List D, backE e1 (e0 l') vs = e0 l'' ∧ BoxOk (c' + k) l'') X0)
    (fin : ∀ (ls : List α) (l' : List D), (∀ a ∈ ls, a ∈ l) → ls.length ≤ l.length → BoxOk (c + k * l.length) l' → QL (ls.map f) (e0 l')) : wp (compF g t m vs (l.map f) [] (e0 l0)) QL X := by
  refine wp_compM (fun i acc e => ∃ (ls : List α) (l' : List D), acc = ls.map f ∧ e = e0 l' ∧ (∀ a ∈ ls, a ∈ l) ∧ ls.length ≤ i ∧ BoxOk (c + k * i) l') ⟨[], l0, rfl, rfl, (fun _ h => by cases h), by simp, by simpa using hb⟩ ?_ ?_
  · rintro i hi acc e ⟨ls, l', rfl, rfl, hs, hl, hb'⟩
    refine ⟨hno _, ?_⟩
    have hk : k * i ≤ k * l.length := Nat.mul_le_mul_left _ (by omega)
    refine wp_mono (st _ (List.getElem_mem hi) _ l' (by omega) (by omega) hb') (fun o e1 h => ?_) fun _ _ _ h => h
    obtain ⟨h1, l'', h2, h3⟩ := h
    have h3' : BoxOk (c + k * (i + 1)) l'' := h3.mono (by rw [Nat.mul_succ]; omega)
    rcases h1 with rfl | rfl
    · exact ⟨ls, l'', by simp, h2, hs, by omega, h3'⟩
    · refine ⟨ls ++ [l[i]], l'', by simp, h2, fun a ha => ?_, by simp; omega, h3'⟩
      rcases List.mem_append.mp ha with q | q
      · exact hs a q
      · rw [List.mem_singleton.mp q]; exact List.getElem_mem hi
  · rintro acc e ⟨ls, l', rfl, rfl, hs, hl, hb'⟩
    exact fin ls l' hs hl hb'
end
theorem mm_exN (k lo hi : Nat) (h : lo ≤ hi) : ∃ m : Nat, (if (if (k : Int) < (hi : Int) then (k : Int) else (hi : Int)) > (lo : Int) then (if (k : Int) < (hi : Int) then (k : Int) else (hi : Int)) else (lo : Int)) = (m : Int) ∧ m ≤ hi := by
  by_cases q : (k : Int) < (hi : Int)
  · rw [if_pos q]
    by_cases q2 : (k : Int) > (lo : Int)
    · exact ⟨k, if_pos q2, by omega⟩
    · exact ⟨lo, if_neg q2, h⟩
  · rw [if_neg q]
    by_cases q2 : (hi : Int) > (lo : Int)
    · exact ⟨hi, if_pos q2, by omega⟩
    · exact ⟨lo, if_neg q2, h⟩
mutual
theorem same_self : ∀ {k : Nat} {v : D}, dGood k v = true → D.same v v = true
  | 0, _, h => by simp [dGood] at h
  | _ + 1, .non, _ => rfl
  | _ + 1, .bl _, _ => by simp [D.same]
  | _ + 1, .int _, _ => by simp [D.same]
  | _ + 1, .str _, _ => by simp [D.same]
  | k + 1, .tup l, h => by
    simp only [dGood, Bool.and_eq_true] at h
    simp only [D.same]; exact sameL_self h.2
  | k + 1, .lst l, h => by
    simp only [dGood, Bool.and_eq_true] at h
    simp only [D.same]; exact sameL_self h.2
  | _ + 1, .dct _, h => by simp [dGood] at h
  | _ + 1, .obj _ _, h => by simp [dGood] at h
theorem sameL_self : ∀ {k : Nat} {l : List D}, dGoodL k l = true → D.sameL l l = true
  | _, [], _ => rfl
  | k, a :: l, h => by
    simp only [dGoodL, Bool.and_eq_true] at h
    simp only [D.sameL]; rw [same_self h.1, sameL_self h.2]; rfl
end
theorem dGood_up {k m : Nat} {v : D} (h : dGood k v = true) (hk : k ≤ m) : dGood m v = true := by
  have up : ∀ (k : Nat), (∀ v, dGood k v = true → dGood (k + 1) v = true) ∧ (∀ l, dGoodL k l = true → dGoodL (k + 1) l = true) := by
    intro k
    induction k with
    | zero =>
      have a : ∀ v, dGood 0 v = true → dGood 1 v = true := fun v h => by simp [dGood] at h
      refine ⟨a, fun l => ?_⟩
      induction l with
      | nil => intro _; simp [dGoodL]
      | cons x l ih => intro h; simp only [dGoodL, Bool.and_eq_true] at h ⊢; exact ⟨a x h.1, ih h.2⟩
    | succ k ih =>
      have a : ∀ v, dGood (k + 1) v = true → dGood (k + 1 + 1) v = true := fun v h => by
        cases v with
        | tup l => simp only [dGood, Bool.and_eq_true] at h ⊢; exact ⟨h.1, ih.2 l h.2⟩
        | lst l => simp only [dGood, Bool.and_eq_true] at h ⊢; exact ⟨h.1, ih.2 l h.2⟩
        | _ => simp only [dGood] at h ⊢ <;> exact h
      refine ⟨a, fun l => ?_⟩
      induction l with
      | nil => intro _; simp [dGoodL]
      | cons x l ih => intro h; simp only [dGoodL, Bool.and_eq_true] at h ⊢; exact ⟨a x h.1, ih h.2⟩
  obtain ⟨d, rfl⟩ := Nat.le.dest hk
  clear hk
  induction d with
  | zero => exact h
  | succ d ih => exact (up (k + d)).1 v ih
theorem mem_get {l : List D} {j : Nat} (h : j < l.length) : l[j]? = some (l.getD j .non) ∧ l.getD j .non ∈ l := by
  have g : l[j]? = some (l.getD j .non) := by rw [List.getD_eq_getElem?_getD, List.getElem?_eq_getElem h]; rfl
  exact ⟨g, List.mem_of_getElem? g⟩
theorem i2_tup {l : List D} : isiD2 "list" "tuple" (.tup l) = some (.sh (.bl true)) := by with_unfolding_all rfl
theorem i2_lst {l : List D} : isiD2 "list" "tuple" (.lst l) = some (.sh (.bl true)) := by with_unfolding_all rfl
theorem i2_non : isiD2 "list" "tuple" .non = some (.sh (.bl false)) := by with_unfolding_all rfl
theorem i2_bl {b : Bool} : isiD2 "list" "tuple" (.bl b) = some (.sh (.bl false)) := by with_unfolding_all rfl
theorem i2_int {b : Int} : isiD2 "list" "tuple" (.int b) = some (.sh (.bl false)) := by with_unfolding_all rfl
theorem i2_str {b : Str} : isiD2 "list" "tuple" (.str b) = some (.sh (.bl false)) := by with_unfolding_all rfl
theorem id_tup {l : List D} : isiD "dict" (.tup l) = some (.sh (.bl false)) := by with_unfolding_all rfl
theorem id_lst {l : List D} : isiD "dict" (.lst l) = some (.sh (.bl false)) := by with_unfolding_all rfl
theorem id_non : isiD "dict" .non = some (.sh (.bl false)) := by with_unfolding_all rfl
theorem id_bl {b : Bool} : isiD "dict" (.bl b) = some (.sh (.bl false)) := by with_unfolding_all rfl
theorem id_int {b : Int} : isiD "dict" (.int b) = some (.sh (.bl false)) := by with_unfolding_all rfl
theorem id_str {b : Str} : isiD "dict" (.str b) = some (.sh (.bl false)) := by with_unfolding_all rfl
end G
end

section
namespace G
open DL PySem PySem.Spec
open L2 (atI)
set_option maxHeartbeats 0
/-! ### sets of points below 9, as ascending tuples -/
def setD (m : Nat) : D := tupN (elems 9 m)
theorem elems_sum {m : Nat} (h : m < 2 ^ 9) : ((elems 9 m).map fun p => 2 ^ p).sum = m := by
  unfold elems
  rw [msk_sum]
  exact msk_eq h fun b _ => rfl
theorem elems_inj {m k : Nat} (h : m < 2 ^ 9) (h' : k < 2 ^ 9) (e : elems 9 m = elems 9 k) : m = k := by rw [← elems_sum h, e, elems_sum h']
theorem elems_pw (n m : Nat) : (elems n m).Pairwise (· < ·) := List.Pairwise.sublist List.filter_sublist List.pairwise_lt_range
def retB : R Ret → Option Bool
  | .ok (.sh (.bl b)) _ => some b
  | _ => none
theorem retB_wp {r : R Ret} {b : Bool} {Q : Ret → En → Prop} {X : XQ} (h : retB r = some b) (k : ∀ outs, Q (.sh (.bl b)) outs) : wp r Q X := by
  unfold retB at h
  split at h
  · cases h; rw [wp_ok]; exact k _
  · cases h
theorem zip_drop1 (l : List Nat) (h : l.Pairwise (· < ·)) : ∀ z ∈ l.zip (l.drop 1), z.1 < z.2 := by
  induction l with
  | nil => intro z hz; simp at hz
  | cons a l ih =>
    intro z hz
    cases l with
    | nil => simp at hz
    | cons b l =>
      rw [List.drop_one, List.tail_cons, List.zip_cons_cons] at hz
      have h' := List.pairwise_cons.mp h
      rcases List.mem_cons.mp hz with rfl | hz
      · exact h'.1 b List.mem_cons_self
      · exact ih h'.2 z (by rw [List.drop_one, List.tail_cons]; exact hz)
theorem cut_1 {l : List Nat} : cutD (natsD l) (some 1) none = natsD (l.drop 1) := by
  unfold cutD
  have h1 : HT.sIx (natsD l).length 0 (some 1) = min 1 l.length := by rw [natsD_ln]; exact HT.sIx_nat _ _ 1
  have h2 : HT.sIx (natsD l).length (natsD l).length none = l.length := by rw [natsD_ln]; rfl
  rw [h1, h2]
  unfold natsD
  rw [← List.map_drop, ← List.map_take]
  congr 1
  rw [List.take_of_length_le (by rw [List.length_drop]; exact Nat.le_refl _)]
  cases l with
  | nil => rfl
  | cons a l => simp
section
variable {Q : Ret → En → Prop} {X : XQ}
theorem lset_wp {m : Nat} (h : Q (.sh (setD m)) [.sh (.int m)]) : wp (s__law_set [.sh (.int m)]) Q X := by
  unfold s__law_set b__law_set
  simp_arith only []
  refine ⟨by decide, by decide, ?_⟩
  rw [show rngL 0 9 = rngL 0 (9 : Nat) from rfl]
  refine wp_compR (fun p => if m.testBit p then some (.int (p : Int)) else none) (by simp [noOwn, own_no]) (fun p hp => ?_) ?_
  · simp_arith only []
    exact wif (fun t => by rw [if_pos t]) (fun t => by rw [if_neg (by rw [t]; decide)])
  · rw [fm_flt (f := fun p => m.testBit p) (fun _ _ => rfl)]
    simp_arith only []
    exact h
theorem maskof_wp {l : List Nat} {d : D} (hd : seqL d = some (natsD l)) (hl : ∀ p ∈ l, p < 60) (hlen : l.length ≤ 1000) (h : Q (.sh (.int ((l.map fun p => 2 ^ p).sum : Nat))) [.sh d]) : wp (s_mask_of [.sh d]) Q X := by
  unfold s_mask_of b_mask_of
  simp_arith only [hd]
  refine ⟨by omega, ?_⟩
  refine wp_compD (fun p => some (.int ((2 ^ p : Nat) : Int))) (by simp [noOwn, own_no]) (fun p hp => ?_) ?_
  · have := hl p hp
    simp_arith only []
    omega
  · rw [fm_some, show (l.map fun p => D.int ((2 ^ p : Nat) : Int)) = natsD (l.map fun p => 2 ^ p) from by unfold natsD; rw [List.map_map]; rfl]
    simp_arith only [nats_sum]
    exact h
theorem maskset_wp {m : Nat} (hm : m < 2 ^ 9) (h : Q (.sh (.int m)) [.sh (setD m)]) : wp (s_mask_of [.sh (setD m)]) Q X := by
  have hl := elems_len 9 m
  refine maskof_wp (l := elems 9 m) rfl (fun p hp => by have := (elems_lt hp).1; omega) (by omega) ?_
  rw [elems_sum hm]; exact h
theorem subsetof_wp {m : Nat} (hm : m < 2 ^ 9) (h : Q (.sh (setD m)) [.sh (.int m)]) : wp (s_subset_of [.sh (.int m)]) Q X := by
  unfold s_subset_of b_subset_of
  simp_arith only []
  refine points_wp hm (by omega) ?_
  simp_arith only []
  exact h
theorem issub_wp {n m : Nat} (hn : n ≤ 9) (hm : m < 2 ^ n) (h : Q (.sh (.bl true)) [.sh (.int n), .sh (setD m)]) : wp (s_is_subset [.sh (.int n), .sh (setD m)]) Q X := by
  have hm9 : m < 2 ^ 9 := Nat.lt_of_lt_of_le hm (Nat.pow_le_pow_right (by omega) hn)
  have hl := elems_len 9 m
  have hel : ∀ p ∈ elems 9 m, p < n := fun p hp => by
    rw [elems_to hm hn] at hp; exact (elems_lt hp).1
  unfold s_is_subset b_is_subset
  refine wp_funC rfl ?_
  refine wp_seqC (fun e => e = [.sh (.int n), .sh (setD m), .no]) ?_ ?_
  · unfold setD tupN
    simp_arith only []
    refine ⟨by omega, ?_⟩
    refine wp_compD (fun _ => some (.bl true)) (by simp [noOwn, own_no]) (fun p hp => ?_) ?_
    · have := hel p hp
      simp_arith only []
      refine isbtw_int ?_
      simp_arith only []
      rw [show decide ((p : Int) ≤ (n : Int) - 1) = true from decide_eq_true (by omega)]
      rfl
    · simp_arith only [all_true]
  rintro e rfl
  unfold setD tupN s_is_rising b_is_rising
  simp_arith only [cut_1, zip_nats, List.length_map]
  refine ⟨by rw [List.length_zip]; omega, ?_⟩
  refine wp_compP (fun _ => some (.bl true)) (by simp [noOwn, own_no]) (fun z hz => ?_) ?_
  · have := zip_drop1 _ (elems_pw 9 m) z hz
    simp_arith only [pr]
    rw [decide_eq_true (by omega)]
  · simp_arith only [all_true]
    exact h
end
theorem sub0 {a b : Nat} : (a - (a &&& b) = 0) ↔ ∀ p, a.testBit p = true → b.testBit p = true := by
  rw [sub_and]
  constructor
  · intro h p hp
    rw [← h, Nat.testBit_and, Bool.and_eq_true] at hp
    exact hp.2
  · intro h
    refine Nat.eq_of_testBit_eq fun p => ?_
    rw [Nat.testBit_and]
    cases q : a.testBit p with
    | false => rfl
    | true => rw [h p q]; rfl
/-- a is within b -/
def wi (a b : Nat) : Bool := decide (a - (a &&& b) = 0)
theorem wi_iff {a b : Nat} : wi a b = true ↔ ∀ p, a.testBit p = true → b.testBit p = true := by unfold wi; rw [decide_eq_true_eq, sub0]
theorem wi_dec {a b : Nat} : decide (((a - (a &&& b) : Nat) : Int) = 0) = wi a b := by unfold wi; rw [decide_eq_decide]; omega
theorem wi_dec' {a b : Nat} : decide (((a - (a &&& b) : Nat) : Int) ≠ 0) = !(wi a b) := by unfold wi; rw [← decide_not, decide_eq_decide]; omega
theorem wi_refl (a : Nat) : wi a a = true := wi_iff.mpr fun _ h => h
theorem wi_tr {a b c : Nat} (h : wi a b = true) (h' : wi b c = true) : wi a c = true := wi_iff.mpr fun p x => wi_iff.mp h' p (wi_iff.mp h p x)
theorem wi_or {a b c : Nat} : wi (a ||| b) c = true ↔ wi a c = true ∧ wi b c = true := by
  rw [wi_iff, wi_iff, wi_iff]
  constructor
  · exact fun h => ⟨fun p x => h p (by rw [Nat.testBit_or, x]; rfl), fun p x => h p (by rw [Nat.testBit_or, x, Bool.or_true])⟩
  · rintro ⟨h1, h2⟩ p x
    rw [Nat.testBit_or, Bool.or_eq_true] at x
    rcases x with x | x
    · exact h1 p x
    · exact h2 p x
theorem wi_and {a b c : Nat} : wi c (a &&& b) = true ↔ wi c a = true ∧ wi c b = true := by
  rw [wi_iff, wi_iff, wi_iff]
  constructor
  · exact fun h => ⟨fun p x => by have := h p x; rw [Nat.testBit_and, Bool.and_eq_true] at this; exact this.1, fun p x => by have := h p x; rw [Nat.testBit_and, Bool.and_eq_true] at this; exact this.2⟩
  · rintro ⟨h1, h2⟩ p x
    rw [Nat.testBit_and, h1 p x, h2 p x]; rfl
theorem wi_orl {a b : Nat} : wi a (a ||| b) = true := wi_iff.mpr fun p x => by rw [Nat.testBit_or, x]; rfl
theorem wi_eq {a b : Nat} (h : wi a b = true) (h' : wi b a = true) : a = b := Nat.eq_of_testBit_eq fun p => by
  have h1 := wi_iff.mp h p
  have h2 := wi_iff.mp h' p
  cases qa : a.testBit p with
  | true => rw [h1 qa]
  | false =>
    cases qb : b.testBit p with
    | false => rfl
    | true => rw [h2 qb] at qa; cases qa
theorem wi_le {a b : Nat} (h : wi a b = true) : a ≤ b := by
  unfold wi at h
  rw [decide_eq_true_eq, sub_and] at h
  rw [← h]
  exact Nat.and_le_right
/-! ### implications: the least mask that respects them -/
def stepI (f : Nat) (z : Nat × Nat) : Nat := if wi z.1 f then f ||| z.2 else f
def stepL (L : List (Nat × Nat)) (f : Nat) : Nat := L.foldl stepI f
def resB (L : List (Nat × Nat)) (m : Nat) : Bool := L.all fun z => !(wi z.1 m) || wi z.2 m
theorem stepI_ge {f : Nat} {z : Nat × Nat} : wi f (stepI f z) = true := by
  unfold stepI; split
  · exact wi_orl
  · exact wi_refl f
theorem stepL_ge : ∀ (L : List (Nat × Nat)) (f : Nat), wi f (stepL L f) = true
  | [], f => wi_refl f
  | z :: L, f => wi_tr stepI_ge (stepL_ge L (stepI f z))
theorem stepL_le {L : List (Nat × Nat)} {m : Nat} (h : resB L m = true) : ∀ f, wi f m = true → wi (stepL L f) m = true := by
  induction L with
  | nil => exact fun f h => h
  | cons z L ih =>
    intro f hf
    unfold resB at h
    rw [List.all_cons, Bool.and_eq_true] at h
    refine ih h.2 _ ?_
    unfold stepI
    by_cases q : wi z.1 f = true
    · rw [if_pos q, wi_or]
      refine ⟨hf, ?_⟩
      have := h.1
      rw [wi_tr q hf] at this
      simpa using this
    · rw [if_neg q]; exact hf
theorem stepL_fix : ∀ {L : List (Nat × Nat)} {f : Nat}, stepL L f = f → resB L f = true
  | [], _, _ => rfl
  | z :: L, f, h => by
    have h' : stepL L (stepI f z) = f := h
    have e : stepI f z = f := wi_eq (by have := stepL_ge L (stepI f z); rw [h'] at this; exact this) stepI_ge
    rw [e] at h'
    unfold resB
    rw [List.all_cons, show (L.all fun z => !(wi z.1 f) || wi z.2 f) = true from stepL_fix h', Bool.and_true]
    cases q : wi z.1 f with
    | false => rfl
    | true =>
      unfold stepI at e
      rw [if_pos q] at e
      have : wi z.2 f = true := by
        have := wi_iff.mpr (fun p (x : z.2.testBit p = true) => (by rw [Nat.testBit_or, x, Bool.or_true] : (f ||| z.2).testBit p = true))
        rwa [e] at this
      rw [this]; rfl
theorem stepL_lt {n : Nat} {L : List (Nat × Nat)} (hL : ∀ z ∈ L, z.1 < 2 ^ n ∧ z.2 < 2 ^ n) : ∀ f, f < 2 ^ n → stepL L f < 2 ^ n := by
  induction L with
  | nil => exact fun f h => h
  | cons z L ih =>
    intro f hf
    refine ih (fun y hy => hL y (List.mem_cons_of_mem _ hy)) _ ?_
    unfold stepI
    split
    · exact Nat.or_lt_two_pow hf (hL z List.mem_cons_self).2
    · exact hf
/-- what is to be: the least one -/
structure CloI (n : Nat) (L : List (Nat × Nat)) (m c : Nat) : Prop where
  lt : c < 2 ^ n
  ge : wi m c = true
  res : resB L c = true
  le : ∀ s, wi m s = true → resB L s = true → wi c s = true
def impD (z : Nat × Nat) : D := .tup [setD z.1, setD z.2]
section
variable {Q : Ret → En → Prop} {X : XQ}
end
end G
end

section
namespace G
open DL PySem PySem.Spec
open L2 (atI)
set_option maxHeartbeats 0
/-! ### contexts -/
structure CtxOk (g m : Nat) (R : List Nat) : Prop where
  len : R.length = g
  g9 : g ≤ 9
  m9 : m ≤ 9
  lt : ∀ x ∈ R, x < 2 ^ m
theorem mx_ex {k g : Nat} (hg : g ≤ k) : ∃ m : Nat, m ≤ k ∧ (if (if (k : Int) < 3 then (k : Int) else 3) > (g : Int) then (if (k : Int) < 3 then (k : Int) else 3) else (g : Int)) = (m : Int) := by
  by_cases q : (k : Int) < 3
  · rw [if_pos q]
    by_cases q2 : (k : Int) > (g : Int)
    · exact ⟨k, Nat.le_refl _, if_pos q2⟩
    · exact ⟨g, hg, if_neg q2⟩
  · rw [if_neg q]
    by_cases q2 : (3 : Int) > (g : Int)
    · exact ⟨3, by omega, if_pos q2⟩
    · exact ⟨g, hg, if_neg q2⟩
theorem two1 (m : Nat) : ((2 ^ m : Nat) : Int) - 1 = ((2 ^ m - 1 : Nat) : Int) := by have := Nat.two_pow_pos m; omega
section
variable {Q : Ret → En → Prop} {X : XQ}
theorem context_wp {c most : Nat} {l : List D} (hm : most ≤ 9) (hb : BoxOk c l) (hc : c < 60000000) (h : ∀ g m R l', g ≤ most → m ≤ most → CtxOk g m R → BoxOk (c + 200) l' → Q (.ow (.l [.int (g : Nat), .int (m : Nat), .lst (natsD R)])) [.io (.l l'), .sh (.int most)]) :
    wp (s__law_context [.io (.l l), .sh (.int most)]) Q X := by
  unfold s__law_context b__law_context
  refine wp_funC rfl ?_
  refine wp_seqC (fun e => ∃ (g m way : Nat) (l' : List D), e = [.io (.l l'), .sh (.int most), .sh (.int g), .sh (.int m), .sh (.int way), .no, .no, .no, .no, .no] ∧ g ≤ most ∧ m ≤ most ∧ way < 6 ∧ BoxOk (c + 3) l') ?_ ?_
  · simp_arith only []
    refine take_wp hb (by omega) (by omega) (by omega) fun g l1 hg hb1 => ?_
    simp_arith only []
    refine take_wp hb1 (by omega) (by omega) (by omega) fun m l2 hm2 hb2 => ?_
    simp_arith only []
    refine take_wp hb2 (by omega) (by omega) (by omega) fun way l3 hw hb3 => ?_
    simp_arith only []
    exact ⟨g, m, way, l3, rfl, by omega, by omega, by omega, hb3⟩
  rintro e ⟨g0, m0, way, l1, rfl, hg0, hm0, hw, hb1⟩
  refine wp_seqC (fun e => ∃ (g m : Nat) (l' : List D), e = [.io (.l l'), .sh (.int most), .sh (.int g), .sh (.int m), .sh (.int way), .no, .no, .no, .no, .no] ∧ g ≤ most ∧ m ≤ most ∧ BoxOk (c + 4) l') ?_ ?_
  · simp_arith only []
    refine take_wp hb1 (by omega) (by omega) (by omega) fun k l2 hk hb2 => ?_
    simp_arith only []
    refine wif_d (fun t => ?_) (fun t => ⟨g0, m0, l2, rfl, hg0, hm0, hb2⟩)
    obtain ⟨a, ha, ea⟩ := mx_ex hg0
    obtain ⟨b, hb', eb⟩ := mx_ex hm0
    rw [ea, eb]
    exact ⟨a, b, l2, rfl, ha, hb', hb2⟩
  rintro e ⟨g, m, l2, rfl, hg, hmm, hb2⟩
  have p9 : 2 ^ m ≤ 2 ^ 9 := Nat.pow_le_pow_right (by omega) (by omega)
  have pm := Nat.two_pow_pos m
  refine wp_seqC (fun e => ∃ (od : Nat) (l' : List D), e = [.io (.l l'), .sh (.int most), .sh (.int g), .sh (.int m), .sh (.int way), .sh (.int od), .sh (.int (2 ^ m - 1 : Nat)), .no, .no, .no] ∧ BoxOk (c + 5) l') ?_ ?_
  · simp_arith only []
    refine take_wp hb2 (by omega) (by omega) (by omega) fun od l3 hod hb3 => ?_
    simp_arith only [two1]
    exact ⟨by omega, 1 + od, l3, by rw [show (1 : Int) + (od : Int) = ((1 + od : Nat) : Int) by omega], hb3⟩
  rintro e ⟨od, l3, rfl, hb3⟩
  refine wp_seqC (fun e => ∃ (R : List Nat) (l' : List D), e = [.io (.l l'), .sh (.int most), .sh (.int g), .sh (.int m), .sh (.int way), .sh (.int od), .sh (.int (2 ^ m - 1 : Nat)), .ow (.l (natsD R)), .no, .no] ∧ R.length = g ∧ (∀ x ∈ R, x < 2 ^ m) ∧ BoxOk (c + 100) l') ?_ ?_
  · simp_arith only [small9 (show g ≤ 1000 by omega), rngL_len]
    refine ⟨by omega, ?_⟩
    refine wp_compRI (fun i acc e => ∃ (R : List Nat) (l' : List D), acc = natsD R ∧ e = [.io (.l l'), .sh (.int most), .sh (.int g), .sh (.int m), .sh (.int way), .sh (.int od), .sh (.int (2 ^ m - 1 : Nat)), .no, .no, .no] ∧ R.length = i ∧ (∀ x ∈ R, x < 2 ^ m) ∧ BoxOk (c + 5 + 9 * i) l') ⟨[], l3, rfl, rfl, rfl, (fun _ h => by cases h), hb3⟩ ?_ ?_
    · rintro i hi acc e ⟨R, l', rfl, rfl, hR, hlt, hb'⟩
      refine ⟨by simp [noOwn, own_no], ?_⟩
      simp_arith only [small9 (show m ≤ 1000 by omega), rngL_len]
      refine ⟨by omega, ?_⟩
      refine wp_compRI (fun j acc e => ∃ (f : Nat → Bool) (l' : List D), acc = natsD (((List.range j).filter f).map fun b => 2 ^ b) ∧ e = [.io (.l l'), .sh (.int most), .sh (.int g), .sh (.int m), .sh (.int way), .sh (.int od), .sh (.int (2 ^ m - 1 : Nat)), .no, .sh (.int i), .no] ∧ BoxOk (c + 5 + 9 * i + j) l') ⟨fun _ => false, l', rfl, rfl, hb'⟩ ?_ ?_
      · rintro j hj acc e ⟨f, l', rfl, rfl, hb'⟩
        refine ⟨by simp [noOwn, own_no], ?_⟩
        simp_arith only []
        refine take_wp hb' (by omega) (by omega) (by omega) fun k l4 hk hb4 => ?_
        simp_arith only []
        have ext : ∀ b : Bool, ((List.range (j + 1)).filter fun p => if p = j then b else f p) = (List.range j).filter f ++ if b then [j] else [] := fun b => by
          rw [List.range_succ, List.filter_append]
          congr 1
          · refine List.filter_congr fun p hp => ?_
            rw [if_neg (by have := List.mem_range.mp hp; omega)]
          · cases b <;> simp
        refine wif_d (fun t => ⟨by omega, ?_⟩) (fun t => ?_)
        · refine ⟨fun p => if p = j then true else f p, l4, ?_, rfl, hb4⟩
          rw [ext true, if_pos rfl]
          unfold natsD
          simp only [List.map_append, List.map_cons, List.map_nil]
        · refine ⟨fun p => if p = j then false else f p, l4, ?_, rfl, hb4⟩
          rw [ext false]
          simp
      · rintro acc e ⟨f, l', rfl, rfl, hb'⟩
        simp_arith only [nats_sum, msk_sum]
        refine ⟨R ++ [msk f m], l', ?_, rfl, by simp [hR], fun x hx => ?_, hb'.mono (by omega)⟩
        · unfold natsD; rw [List.map_append]; first | done | rfl
        · rcases List.mem_append.mp hx with q | q
          · exact hlt x q
          · rw [List.mem_singleton.mp q]; exact msk_lt f m
    · rintro acc e ⟨R, l', rfl, rfl, hR, hlt, hb'⟩
      simp_arith only []
      exact ⟨R, l', rfl, hR, hlt, hb'.mono (by omega)⟩
  rintro e ⟨R, l4, rfl, hR, hlt, hb4⟩
  refine wp_seqC (fun e => ∃ (R : List Nat), e = [.io (.l l4), .sh (.int most), .sh (.int g), .sh (.int m), .sh (.int way), .sh (.int od), .sh (.int (2 ^ m - 1 : Nat)), .ow (.l (natsD R)), .no, .no] ∧ R.length = g ∧ (∀ x ∈ R, x < 2 ^ m)) ?_ ?_
  · have rows : ∀ (F : Nat → Nat), (∀ i < g, F i < 2 ^ m) → ((List.range g).map F).length = g ∧ (∀ x ∈ (List.range g).map F, x < 2 ^ m) := fun F hF => ⟨by simp, fun x hx => by
      obtain ⟨i, hi, rfl⟩ := List.mem_map.mp hx
      exact hF i (List.mem_range.mp hi)⟩
    have emap : ∀ F : Nat → Nat, (List.range g).filterMap (fun i => some (D.int (F i : Nat))) = natsD ((List.range g).map F) := fun F => by
      rw [fm_some]; unfold natsD; rw [List.map_map]; rfl
    refine wp_ifD (way = 1) (by simp_arith only []; exact decide_eq_decide.mpr (by omega)) (fun t => ?_) (fun t => ?_)
    · simp_arith only [small9 (show g ≤ 1000 by omega), rngL_len]
      refine ⟨by omega, ?_⟩
      refine wp_compR (fun i => some (.int ((2 ^ m - 1 - ((2 ^ m - 1) &&& 2 ^ i) : Nat) : Int))) (by simp [noOwn, own_no]) (fun i hi => ?_) ?_
      · simp_arith only []
        omega
      · rw [emap]
        simp_arith only []
        exact ⟨_, rfl, rows _ fun i _ => by omega⟩
    refine wp_ifD (way = 2) (by simp_arith only []; exact decide_eq_decide.mpr (by omega)) (fun t => ?_) (fun t => ?_)
    · simp_arith only [small9 (show g ≤ 1000 by omega), rngL_len]
      refine ⟨by omega, ?_⟩
      refine wp_compR (fun i => some (.int (((2 ^ m - 1) &&& 2 ^ i : Nat) : Int))) (by simp [noOwn, own_no]) (fun i hi => ?_) ?_
      · simp_arith only []
        omega
      · rw [emap]
        simp_arith only []
        exact ⟨_, rfl, rows _ fun i _ => by have := Nat.and_le_left (n := 2 ^ m - 1) (m := 2 ^ i); omega⟩
    refine wp_ifD (way = 3) (by simp_arith only []; exact decide_eq_decide.mpr (by omega)) (fun t => ?_) (fun t => ?_)
    · simp_arith only [small9 (show g ≤ 1000 by omega), rngL_len]
      refine ⟨by omega, ?_⟩
      refine wp_compR (fun i => some (.int (((2 ^ m - 1) &&& (2 ^ i - 1) : Nat) : Int))) (by simp [noOwn, own_no]) (fun i hi => ?_) ?_
      · simp_arith only [two1]
        omega
      · rw [emap]
        simp_arith only []
        exact ⟨_, rfl, rows _ fun i _ => by have := Nat.and_le_left (n := 2 ^ m - 1) (m := 2 ^ i - 1); omega⟩
    refine wp_ifD (way = 4 ∧ 2 < g) (by
      simp_arith only []
      refine wif_d (fun t1 => ?_) (fun t1 => ?_)
      · exact decide_eq_decide.mpr (by omega)
      · exact (decide_eq_false (by omega)).symm) (fun t => ?_) (fun t => ?_)
    · have g0 : R[0]? = some (R.getD 0 0) := gq_get (by omega)
      have e1 : (g : Int) - 1 = ((g - 1 : Nat) : Int) := by omega
      have a0 : atI (natsD R) 0 = some (.int (R.getD 0 0 : Nat)) := by
        have := atN_ (l := natsD R) (i := 0)
        rw [natsD_get, g0] at this
        exact this
      have ml : ∀ (i : Nat), i < g → R.getD i 0 < 2 ^ m := fun i hi => hlt _ (by rw [List.getD_eq_getElem?_getD, List.getElem?_eq_getElem (by omega)]; exact List.getElem_mem _)
      have R1len : (R.set (g - 1) (R.getD 0 0)).length = g := by rw [List.length_set]; exact hR
      have R1lt : ∀ x ∈ R.set (g - 1) (R.getD 0 0), x < 2 ^ m := fun x hx => by
        rcases List.mem_or_eq_of_mem_set hx with q | q
        · exact hlt x q
        · rw [q]; exact ml 0 (by omega)
      obtain ⟨R1, hR1⟩ : ∃ R1, R1 = R.set (g - 1) (R.getD 0 0) := ⟨_, rfl⟩
      have b0 : ∀ i : Nat, i < g → (natsD R1)[i]? = some (.int (R1.getD i 0 : Nat)) := fun i hi => by rw [natsD_get, gq_get (by rw [hR1]; omega)]; rfl
      have c0 : atI (natsD R1) 0 = some (.int (R1.getD 0 0 : Nat)) := (atN_ (l := natsD R1) (i := 0)).trans (b0 0 (by omega))
      have c2 : atI (natsD R1) 2 = some (.int (R1.getD 2 0 : Nat)) := (atN_ (l := natsD R1) (i := 2)).trans (b0 2 (by omega))
      have i1 : L2.ixN g 1 = some 1 := by have := ixN_ (n := g) (i := 1); rw [if_pos (by omega)] at this; exact this
      simp_arith only [a0, e1, wp_nox, hR, show g - 1 < g by omega, ← hR1, c0, c2]
      rw [← hR1] at R1len R1lt
      simp_arith only [R1len, i1]
      refine ⟨by omega, _, rfl, by rw [List.length_set]; exact R1len, fun x hx => ?_⟩
      rcases List.mem_or_eq_of_mem_set hx with q | q
      · exact R1lt x q
      · rw [q]
        have m0 : R1.getD 0 0 < 2 ^ m := R1lt _ (by rw [List.getD_eq_getElem?_getD, List.getElem?_eq_getElem (by omega)]; exact List.getElem_mem _)
        exact Nat.lt_of_le_of_lt Nat.and_le_left m0
    · simp_arith only []
      exact ⟨R, rfl, hR, hlt⟩
  rintro e ⟨R2, rfl, hR2, hlt2⟩
  simp_arith only []
  refine mixed_wp hb4 (by omega) (by omega) fun p l5 hp hb5 => ?_
  have pl := hp.len
  simp_arith only [pl]
  refine ⟨by omega, ?_⟩
  refine wp_compD (fun a => some (.int (R2.getD a 0 : Nat))) (by simp [noOwn, own_no]) (fun a ha => ?_) ?_
  · have ha' := hp.mem.mp ha
    simp_arith only [gq_get (show a < R2.length by omega)]
  · rw [fm_some, show (p.map fun a => D.int (R2.getD a 0 : Nat)) = natsD (p.map fun a => R2.getD a 0) from by unfold natsD; rw [List.map_map]; rfl]
    simp_arith only []
    refine h g m _ l5 hg hmm ⟨by rw [List.length_map]; exact pl, by omega, by omega, fun x hx => ?_⟩ (hb5.mono (by omega))
    obtain ⟨a, ha, rfl⟩ := List.mem_map.mp hx
    have ha' := hp.mem.mp ha
    exact hlt2 _ (by rw [List.getD_eq_getElem?_getD, List.getElem?_eq_getElem (by omega)]; exact List.getElem_mem _)
end
end G
end

section
namespace G
open DL PySem PySem.Spec
open L2 (atI)
set_option maxHeartbeats 0
/-! ### class Context -/
def ctxF (g m : Nat) (R : List Nat) : List (String × D) := [("mark_masks", .lst (natsD ((List.range m).map fun k => msk (fun a => (R.getD a 0).testBit k) g))), ("row_masks", .lst (natsD R)), ("rows", .tup (R.map setD)), ("marks", .int m), ("things", .int g)]
def ctxD (g m : Nat) (R : List Nat) : D := .obj "Context" (ctxF g m R)
theorem hc1 : hasF clsT "Context" "things" = true := by decide
theorem hc2 : hasF clsT "Context" "marks" = true := by decide
theorem hc3 : hasF clsT "Context" "rows" = true := by decide
theorem hc4 : hasF clsT "Context" "row_masks" = true := by decide
theorem hc5 : hasF clsT "Context" "mark_masks" = true := by decide
theorem c_things {g m : Nat} {R : List Nat} : fld clsT "things" (ctxD g m R) = some (.int g) := by simp [fld, ctxD, ctxF, hc1, List.lookup]
theorem c_marks {g m : Nat} {R : List Nat} : fld clsT "marks" (ctxD g m R) = some (.int m) := by simp [fld, ctxD, ctxF, hc2, List.lookup]
theorem c_rows {g m : Nat} {R : List Nat} : fld clsT "rows" (ctxD g m R) = some (.tup (R.map setD)) := by simp [fld, ctxD, ctxF, hc3, List.lookup]
theorem c_rowm {g m : Nat} {R : List Nat} : fld clsT "row_masks" (ctxD g m R) = some (.lst (natsD R)) := by simp [fld, ctxD, ctxF, hc4, List.lookup]
theorem c_markm {g m : Nat} {R : List Nat} : fld clsT "mark_masks" (ctxD g m R) = some (.lst (natsD ((List.range m).map fun k => msk (fun a => (R.getD a 0).testBit k) g))) := by simp [fld, ctxD, ctxF, hc5, List.lookup]
theorem self_ctx {f : String} {g m : Nat} {R : List Nat} (hm : (ctxF g m R).lookup f = none) : selfOf "Context" f (ctxD g m R) = some (ctxD g m R) := by
  unfold selfOf ctxD
  simp [hm]
theorem no_marksat {g m : Nat} {R : List Nat} : (ctxF g m R).lookup "marks_at" = none := by simp [ctxF, List.lookup]
theorem set_get {R : List Nat} {a : Nat} (h : a < R.length) : (R.map setD)[a]? = some (setD (R.getD a 0)) := by
  rw [List.getElem?_map, gq_get h]; rfl
theorem all_set {R : List Nat} {m : Nat} (h : ∀ x ∈ R, x < 2 ^ m) {a : Nat} (ha : a < R.length) : R.getD a 0 < 2 ^ m := h _ (by rw [List.getD_eq_getElem?_getD, List.getElem?_eq_getElem ha]; exact List.getElem_mem _)
section
variable {Q : Ret → En → Prop} {X : XQ}
theorem istup_wp {l : List D} {k : Nat} (h : Q (.sh (.bl (decide (l.length = k)))) [.sh (.tup l), .sh (.int k)]) : wp (s_is_tuple_of [.sh (.tup l), .sh (.int k)]) Q X := by
  unfold s_is_tuple_of b_is_tuple_of
  simp_arith only []
  exact h
theorem btw9_wp {g : Nat} (hg : g ≤ 9) (h : Q (.sh (.bl true)) [.sh (.int g), .sh (.int 0), .sh (.int 9)]) : wp (s_is_between [.sh (.int g), .sh (.int 0), .sh (.int 9)]) Q X := by
  refine isbtw_int ?_
  rw [show (decide ((0 : Int) ≤ (g : Int)) && decide ((g : Int) ≤ 9)) = true from by simp; omega]
  exact h
theorem ctxinit_wp {g m : Nat} {R : List Nat} (ok : CtxOk g m R) (h : Q (.sh .non) [.io (.o "Context" (ctxF g m R)), .sh (.int g), .sh (.int m), .sh (.tup (R.map setD))]) :
    wp (s_Context___init__ [.io (.o "Context" []), .sh (.int g), .sh (.int m), .sh (.tup (R.map setD))]) Q X := by
  obtain ⟨hl, g9, m9, hlt⟩ := ok
  have p9 : 2 ^ m ≤ 2 ^ 9 := Nat.pow_le_pow_right (by omega) m9
  unfold s_Context___init__ b_Context___init__
  refine wp_funC rfl ?_
  refine wp_seqC (fun e => e = [.io (.o "Context" []), .sh (.int g), .sh (.int m), .sh (.tup (R.map setD)), .no, .no, .no]) ?_ ?_
  · simp_arith only []
    refine btw9_wp g9 ?_
    simp_arith only []
  rintro e rfl
  refine wp_seqC (fun e => e = [.io (.o "Context" []), .sh (.int g), .sh (.int m), .sh (.tup (R.map setD)), .no, .no, .no]) ?_ ?_
  · simp_arith only []
    refine btw9_wp m9 ?_
    simp_arith only []
  rintro e rfl
  refine wp_seqC (fun e => e = [.io (.o "Context" []), .sh (.int g), .sh (.int m), .sh (.tup (R.map setD)), .no, .no, .no]) ?_ ?_
  · simp_arith only []
    refine istup_wp ?_
    rw [decide_eq_true (by rw [List.length_map]; exact hl)]
    simp_arith only [List.length_map]
    refine ⟨by omega, ?_⟩
    refine wp_compP (fun _ => some (.bl true)) (by simp [noOwn, own_no]) (fun x hx => ?_) ?_
    · simp_arith only []
      refine issub_wp m9 (hlt x hx) ?_
      simp_arith only []
    · simp_arith only [all_true]
  rintro e rfl
  simp_arith only [hc1, hc2, hc3, hc4, hc5, List.length_map]
  refine ⟨by omega, ?_⟩
  refine wp_compP (fun x => some (.int (x : Nat))) (by simp [noOwn, own_no]) (fun x hx => ?_) ?_
  · have := hlt x hx
    simp_arith only []
    refine maskset_wp (by omega) ?_
    simp_arith only []
  rw [fm_some, show (R.map fun x => D.int (x : Nat)) = natsD R from rfl]
  simp_arith only [hc1, hc2, hc3, hc4, hc5, small9 (show m ≤ 1000 by omega), rngL_len]
  refine ⟨by omega, ?_⟩
  refine wp_compR (fun k => some (.int (msk (fun a => (R.getD a 0).testBit k) g : Nat))) (by simp [noOwn, own_no]) (fun k hk => ?_) ?_
  · simp_arith only [small9 (show g ≤ 1000 by omega), rngL_len]
    refine ⟨by omega, ?_⟩
    refine wp_compR (fun a => if (R.getD a 0).testBit k = true then some (.int (a : Int)) else none) (by simp [noOwn, own_no]) (fun a ha => ?_) ?_
    · simp_arith only [set_get (show a < R.length by omega), setD, tupN, dIn_natX]
      refine wif_d (fun t => ?_) (fun t => ?_)
      · rw [if_pos (elems_mem.mp t).2]
      · rw [if_neg (fun q => t (elems_mem.mpr ⟨by omega, q⟩))]
    · rw [fm_flt (f := fun a => (R.getD a 0).testBit k) (fun _ _ => rfl)]
      simp_arith only []
      refine maskof_wp rfl (fun p hp => by have := List.mem_range.mp (List.mem_filter.mp hp).1; omega) (Nat.le_trans (List.length_filter_le _ _) (by simp; omega)) ?_
      rw [msk_sum]
      simp_arith only []
  · rw [fm_some, show ((List.range m).map fun k => D.int (msk (fun a => (R.getD a 0).testBit k) g : Nat)) = natsD ((List.range m).map fun k => msk (fun a => (R.getD a 0).testBit k) g) from by unfold natsD; rw [List.map_map]; rfl]
    simp_arith only [hc1, hc2, hc3, hc4, hc5]
    exact h
def cxL (g m : Nat) (R : List Nat) : D := .lst [.int g, .int m, .lst (natsD R)]
theorem made_wp {g m : Nat} {R : List Nat} (ok : CtxOk g m R) (h : Q (.ow (.o "Context" (ctxF g m R))) [.sh (cxL g m R)]) : wp (s__law_made [.sh (cxL g m R)]) Q X := by
  have g9 := ok.g9
  have hl := ok.len
  unfold s__law_made b__law_made cxL
  simp_arith only []
  refine ⟨by omega, ?_⟩
  refine wp_compD (fun x => some (setD x)) (by simp [noOwn, own_no]) (fun x hx => ?_) ?_
  · simp_arith only []
    refine lset_wp ?_
    simp_arith only []
  · rw [fm_some]
    simp_arith only []
    refine ctxinit_wp ok ?_
    simp_arith only []
    exact h
theorem marksat1_wp {g m a : Nat} {R : List Nat} (ok : CtxOk g m R) (ha : a < g) (h : Q (.sh (.int (R.getD a 0 : Nat))) [.sh (ctxD g m R), .sh (.int (2 ^ a : Nat))]) : wp (s_Context_marks_at [.sh (ctxD g m R), .sh (.int (2 ^ a : Nat))]) Q X := by
  obtain ⟨hl, g9, m9, hlt⟩ := ok
  have hx := all_set hlt (show a < R.length by omega)
  have e1 : elems 9 (2 ^ a) = [a] := by
    unfold elems
    have : (List.range 9).filter (fun p => (2 ^ a).testBit p) = (List.range 9).filter fun p => p == a := List.filter_congr fun p _ => by
      rw [Nat.testBit_two_pow]
      by_cases q : a = p
      · rw [q]; simp
      · simp [q, Ne.symm q]
    rw [this]
    have : ∀ a : Fin 9, (List.range 9).filter (fun p => p == a.1) = [a.1] := by decide +kernel
    exact this ⟨a, by omega⟩
  unfold s_Context_marks_at b_Context_marks_at
  simp_arith only [c_rowm, c_marks, two1]
  unfold s_shared_mask b_shared_mask
  simp_arith only []
  refine ⟨by omega, ?_⟩
  refine points_wp (n := 9) (Nat.pow_lt_pow_right (by omega) (by omega)) (by omega) ?_
  rw [e1, show natsD [a] = [.int a] from rfl]
  simp_arith only [wp_loop1, wp_loop0, gq_get (show a < R.length by omega)]
  have e2 : (2 ^ m - 1) &&& R.getD a 0 = R.getD a 0 := Nat.eq_of_testBit_eq fun p => by
    rw [Nat.testBit_and, Nat.testBit_two_pow_sub_one]
    cases q : (R.getD a 0).testBit p with
    | false => simp
    | true =>
      have : p < m := Classical.byContradiction fun z => by
        rw [Nat.testBit_lt_two_pow (Nat.lt_of_lt_of_le hx (Nat.pow_le_pow_right (by omega) (by omega)))] at q; cases q
      simp [this]
  rw [e2]
  exact h
end
end G
end

section
namespace G
open DL PySem PySem.Spec
open L2 (atI)
set_option maxHeartbeats 0
def inter (L : List Nat) (S : List Nat) (f : Nat) : Nat := S.foldl (fun f a => f &&& L.getD a 0) f
theorem inter_bit (L : List Nat) (b : Nat) : ∀ (S : List Nat) (f : Nat), (inter L S f).testBit b = (f.testBit b && S.all fun a => (L.getD a 0).testBit b)
  | [], f => by simp [inter]
  | a :: S, f => by
    show (inter L S (f &&& L.getD a 0)).testBit b = _
    rw [inter_bit L b S, Nat.testBit_and, List.all_cons, Bool.and_assoc]
theorem inter_le (L : List Nat) : ∀ (S : List Nat) (f : Nat), inter L S f ≤ f
  | [], f => Nat.le_refl _
  | a :: S, f => Nat.le_trans (inter_le L S (f &&& L.getD a 0)) Nat.and_le_left
def mkM (g m : Nat) (R : List Nat) : List Nat := (List.range m).map fun k => msk (fun a => (R.getD a 0).testBit k) g
theorem things_eq {g m x : Nat} {R : List Nat} (hx : x < 2 ^ m) : inter (mkM g m R) (elems m x) (2 ^ g - 1) = msk (fun a => wi x (R.getD a 0)) g := by
  refine (msk_eq ?_ fun b hb => ?_).symm
  · have := inter_le (mkM g m R) (elems m x) (2 ^ g - 1)
    have := Nat.two_pow_pos g
    omega
  · rw [inter_bit, Nat.testBit_two_pow_sub_one, decide_eq_true hb, Bool.true_and, Bool.eq_iff_iff, List.all_eq_true, wi_iff]
    have hk : ∀ k, k < m → ((mkM g m R).getD k 0).testBit b = (R.getD b 0).testBit k := fun k hk => by
      unfold mkM
      rw [List.getD_eq_getElem?_getD, List.getElem?_map, List.getElem?_range hk]
      show (msk (fun a => (R.getD a 0).testBit k) g).testBit b = _
      rw [msk_bit, decide_eq_true hb, Bool.true_and]
    constructor
    · intro h p hp
      have hpm : p < m := by
        by_cases c : p < m
        · exact c
        · rw [Nat.testBit_lt_two_pow (Nat.lt_of_lt_of_le hx (Nat.pow_le_pow_right (by omega) (by omega : m ≤ p)))] at hp; cases hp
      have := h p (List.mem_filter.mpr ⟨List.mem_range.mpr hpm, hp⟩)
      rw [hk p hpm] at this; exact this
    · intro h k hkk
      obtain ⟨h1, h2⟩ := elems_lt hkk
      rw [hk k h1]; exact h k h2
section
variable {Q : Ret → En → Prop} {X : XQ}
theorem shared_wp {n x f : Nat} {L : List Nat} (hL : L.length = n) (hn : n ≤ 9) (hx : x < 2 ^ n) (h : Q (.sh (.int (inter L (elems n x) f : Nat))) [.sh (.lst (natsD L)), .sh (.int x), .sh (.int f)]) :
    wp (s_shared_mask [.sh (.lst (natsD L)), .sh (.int x), .sh (.int f)]) Q X := by
  unfold s_shared_mask b_shared_mask
  simp_arith only []
  refine points_wp (n := n) hx (by omega) ?_
  simp_arith only []
  refine wp_loopD (fun i e => ∃ s4, e = [.sh (.lst (natsD L)), .sh (.int x), .sh (.int f), .sh (.int (inter L ((elems n x).take i) f : Nat)), s4] ∧ s4.own = none) ⟨.no, rfl, rfl⟩ ?_ ?_
  · rintro i hi e ⟨s4, rfl, h4⟩
    have hq := elems_lt (List.getElem_mem hi)
    simp_arith only [h4, gq_get (show (elems n x)[i] < L.length by omega)]
    refine ⟨.sh (.int ((elems n x)[i] : Nat)), ?_, rfl⟩
    rw [List.take_add_one, List.getElem?_eq_getElem hi]
    unfold inter
    rw [List.foldl_append]; rfl
  · rintro e ⟨s4, rfl, h4⟩
    rw [List.take_length]
    simp_arith only []
    exact h
theorem marksat_wp {g m x : Nat} {R : List Nat} (ok : CtxOk g m R) (hx : x < 2 ^ g) (h : Q (.sh (.int (inter R (elems g x) (2 ^ m - 1) : Nat))) [.sh (ctxD g m R), .sh (.int x)]) : wp (s_Context_marks_at [.sh (ctxD g m R), .sh (.int x)]) Q X := by
  obtain ⟨hl, g9, m9, hlt⟩ := ok
  unfold s_Context_marks_at b_Context_marks_at
  simp_arith only [c_rowm, c_marks, two1]
  refine ⟨by omega, ?_⟩
  refine shared_wp hl g9 hx ?_
  simp_arith only []
  exact h
theorem thingsat_wp {g m x : Nat} {R : List Nat} (ok : CtxOk g m R) (hx : x < 2 ^ m) (h : Q (.sh (.int (msk (fun a => wi x (R.getD a 0)) g : Nat))) [.sh (ctxD g m R), .sh (.int x)]) : wp (s_Context_things_at [.sh (ctxD g m R), .sh (.int x)]) Q X := by
  obtain ⟨hl, g9, m9, hlt⟩ := ok
  rw [← things_eq (m := m) hx] at h
  unfold s_Context_things_at b_Context_things_at
  simp_arith only [c_markm, c_things, two1]
  refine ⟨by omega, ?_⟩
  refine shared_wp (L := mkM g m R) (by unfold mkM; rw [List.length_map, List.length_range]) m9 hx ?_
  simp_arith only []
  exact h
theorem cmarks_wp {g m x : Nat} {R : List Nat} (ok : CtxOk g m R) (hx : x < 2 ^ g) (h : Q (.sh (setD (inter R (elems g x) (2 ^ m - 1)))) [.sh (ctxD g m R), .sh (setD x)]) : wp (s_Context_common_marks [.sh (ctxD g m R), .sh (setD x)]) Q X := by
  have hx9 : x < 2 ^ 9 := Nat.lt_of_lt_of_le hx (Nat.pow_le_pow_right (by omega) ok.g9)
  have hr : inter R (elems g x) (2 ^ m - 1) < 2 ^ 9 := by
    have := inter_le R (elems g x) (2 ^ m - 1)
    have := Nat.pow_le_pow_right (show 0 < 2 by omega) ok.m9
    have := Nat.two_pow_pos m
    omega
  unfold s_Context_common_marks b_Context_common_marks
  simp_arith only [c_things]
  refine issub_wp ok.g9 hx ?_
  simp_arith only [self_ctx (no_marksat (g := g) (m := m) (R := R))]
  refine maskset_wp hx9 ?_
  simp_arith only []
  refine marksat_wp ok hx ?_
  simp_arith only []
  refine subsetof_wp hr ?_
  simp_arith only []
  exact h
theorem no_thingsat {g m : Nat} {R : List Nat} : (ctxF g m R).lookup "things_at" = none := by simp [ctxF, List.lookup]
theorem cthings_wp {g m x : Nat} {R : List Nat} (ok : CtxOk g m R) (hx : x < 2 ^ m) (h : Q (.sh (setD (msk (fun a => wi x (R.getD a 0)) g))) [.sh (ctxD g m R), .sh (setD x)]) : wp (s_Context_common_things [.sh (ctxD g m R), .sh (setD x)]) Q X := by
  have hx9 : x < 2 ^ 9 := Nat.lt_of_lt_of_le hx (Nat.pow_le_pow_right (by omega) ok.m9)
  have hr : msk (fun a => wi x (R.getD a 0)) g < 2 ^ 9 := Nat.lt_of_lt_of_le (msk_lt _ _) (Nat.pow_le_pow_right (by omega) ok.g9)
  unfold s_Context_common_things b_Context_common_things
  simp_arith only [c_marks]
  refine issub_wp ok.m9 hx ?_
  simp_arith only [self_ctx (no_thingsat (g := g) (m := m) (R := R))]
  refine maskset_wp hx9 ?_
  simp_arith only []
  refine thingsat_wp ok hx ?_
  simp_arith only []
  refine subsetof_wp hr ?_
  simp_arith only []
  exact h
theorem cref_wp {g m : Nat} {R : List Nat} {v : D} (hv : retB (s_is_subset [.sh (.int g), .sh v]) = some false) (h : ∀ e, X "InvalidSubset" [("given", v)] (.sh (ctxD g m R) :: .sh v :: e)) : wp (s_Context_common_marks [.sh (ctxD g m R), .sh v]) Q X := by
  unfold s_Context_common_marks b_Context_common_marks
  simp_arith only [c_things]
  refine retB_wp hv fun o => ?_
  simp_arith only [putBack_d']
  exact h []
theorem cref2_wp {g m : Nat} {R : List Nat} {v : D} (hv : retB (s_is_subset [.sh (.int m), .sh v]) = some false) (h : ∀ e, X "InvalidSubset" [("given", v)] (.sh (ctxD g m R) :: .sh v :: e)) : wp (s_Context_common_things [.sh (ctxD g m R), .sh v]) Q X := by
  unfold s_Context_common_things b_Context_common_things
  simp_arith only [c_marks]
  refine retB_wp hv fun o => ?_
  simp_arith only [putBack_d']
  exact h []
theorem lmarks_wp {g m x : Nat} {R : List Nat} (ok : CtxOk g m R) (hx : x < 2 ^ g) (h : Q (.sh (.int (inter R (elems g x) (2 ^ m - 1) : Nat))) [.sh (cxL g m R), .sh (.int x)]) : wp (s__law_marks [.sh (cxL g m R), .sh (.int x)]) Q X := by
  obtain ⟨hl, g9, m9, hlt⟩ := ok
  unfold cxL at h ⊢
  unfold s__law_marks b__law_marks
  simp_arith only [two1, small9 (show g ≤ 1000 by omega)]
  refine ⟨by omega, ?_⟩
  have hs : ∀ i, elems (i + 1) x = elems i x ++ (if x.testBit i then [i] else []) := fun i => by
    unfold elems
    rw [List.range_succ, List.filter_append, List.filter_cons, List.filter_nil]
  refine wp_loopR (fun i e => ∃ s3, e = [.sh (.lst [.int g, .int m, .lst (natsD R)]), .sh (.int x), .sh (.int (inter R (elems i x) (2 ^ m - 1) : Nat)), s3] ∧ s3.own = none) ⟨.no, rfl, rfl⟩ ?_ ?_
  · rintro i hi e ⟨s3, rfl, h3⟩
    simp_arith only [h3, gq_get (show i < R.length by omega)]
    refine wif (fun t => ⟨.sh (.int i), ?_, rfl⟩) (fun t => ⟨.sh (.int i), ?_, rfl⟩)
    · rw [hs, t, if_pos rfl]; unfold inter; rw [List.foldl_append]; rfl
    · rw [hs, t, if_neg (by decide), List.append_nil]
  · rintro e ⟨s3, rfl, h3⟩
    simp_arith only []
    exact h
theorem lthings_wp {g m x : Nat} {R : List Nat} (ok : CtxOk g m R) (h : Q (.sh (.int (msk (fun a => wi x (R.getD a 0)) g : Nat))) [.sh (cxL g m R), .sh (.int x)]) : wp (s__law_things [.sh (cxL g m R), .sh (.int x)]) Q X := by
  obtain ⟨hl, g9, m9, hlt⟩ := ok
  unfold cxL at h ⊢
  unfold s__law_things b__law_things
  simp_arith only [small9 (show g ≤ 1000 by omega), rngL_len]
  refine ⟨by omega, ?_⟩
  refine wp_compR (fun a => if wi x (R.getD a 0) then some (.int ((2 ^ a : Nat) : Int)) else none) (by simp [noOwn, own_no]) (fun a ha => ?_) ?_
  · simp_arith only [gq_get (show a < R.length by omega)]
    exact wif_d (fun t => ⟨by omega, by rw [if_pos (by unfold wi; exact decide_eq_true t)]⟩) (fun t => by rw [if_neg (by unfold wi; rw [decide_eq_false t]; decide)])
  · simp_arith only [sum_pow]
    exact h
end
end G
end

section
namespace G
open DL PySem PySem.Spec
open L2 (atI)
set_option maxHeartbeats 0
theorem w_mm : deq (.str "marks") (.str "marks") = some true := by decide +kernel
theorem w_tm : deq (.str "things") (.str "marks") = some false := by decide +kernel
theorem no_cm {g m : Nat} {R : List Nat} : (ctxF g m R).lookup "common_marks" = none := by simp [ctxF, List.lookup]
theorem no_ct {g m : Nat} {R : List Nat} : (ctxF g m R).lookup "common_things" = none := by simp [ctxF, List.lookup]
theorem lk_gv {x : D} : List.lookup "given" [("given", x)] = some x := by simp [List.lookup]
theorem vT : vGood (.str "told") = true ∧ vGood (.str "subset") = true ∧ vGood (.str "size") = true ∧ vGood (.str "rows") = true := by decide +kernel
theorem dT : dGood 11 (.str "told") = true := by decide +kernel
theorem setD_vG (a : Nat) : vGood (setD a) = true := vG_nat _ (by have := elems_len 9 a; omega)
theorem setD_dG (a : Nat) : dGood 11 (setD a) = true := dG_nat (k := 9) _ (by have := elems_len 9 a; omega)
section
variable {Q : Ret → En → Prop} {X : XQ}
theorem selfs_wp {d : D} (hv : vGood d = true) (hd : dGood 12 d = true) (h : Q (.sh (.bl true)) [.sh d, .sh d]) : wp (s__law_same [.sh d, .sh d]) Q X := by
  refine lsame_wp hv hd ?_
  rw [same_self hd]; exact h
theorem askm_wp {c g m x : Nat} {l : List D} {R : List Nat} (ok : CtxOk g m R) (hx : x < 2 ^ g) (hb : BoxOk c l) (hc : c < 60000000)
    (h : ∀ l', BoxOk (c + 1) l' → Q (.sh (.tup [.str "told", setD (inter R (elems g x) (2 ^ m - 1))])) [.io (.l l'), .sh (ctxD g m R), .sh (.str "marks"), .sh (setD x)]) :
    wp (s__law_asked [.io (.l l), .sh (ctxD g m R), .sh (.str "marks"), .sh (setD x)]) Q X := by
  unfold s__law_asked b__law_asked
  simp_arith only []
  refine take_wp hb (by omega) (by omega) (by omega) fun k l1 hk hb1 => ?_
  simp_arith only [w_mm, self_ctx (no_cm (g := g) (m := m) (R := R))]
  refine wif_d (fun _ => ?_) (fun _ => ?_)
  · refine cmarks_wp ok hx ?_
    simp_arith only []
    exact h l1 hb1
  · refine cmarks_wp ok hx ?_
    simp_arith only []
    exact h l1 hb1
theorem askt_wp {c g m x : Nat} {l : List D} {R : List Nat} (ok : CtxOk g m R) (hx : x < 2 ^ m) (hb : BoxOk c l) (hc : c < 60000000)
    (h : ∀ l', BoxOk (c + 1) l' → Q (.sh (.tup [.str "told", setD (msk (fun a => wi x (R.getD a 0)) g)])) [.io (.l l'), .sh (ctxD g m R), .sh (.str "things"), .sh (setD x)]) :
    wp (s__law_asked [.io (.l l), .sh (ctxD g m R), .sh (.str "things"), .sh (setD x)]) Q X := by
  unfold s__law_asked b__law_asked
  simp_arith only []
  refine take_wp hb (by omega) (by omega) (by omega) fun k l1 hk hb1 => ?_
  simp_arith only [w_tm, self_ctx (no_ct (g := g) (m := m) (R := R))]
  refine wif_d (fun _ => ?_) (fun _ => ?_)
  · refine cthings_wp ok hx ?_
    simp_arith only []
    exact h l1 hb1
  · refine cthings_wp ok hx ?_
    simp_arith only []
    exact h l1 hb1
theorem askno_wp {c g m : Nat} {l : List D} {R : List Nat} {w : Str} {v : D} (hw : (w = "marks" ∧ retB (s_is_subset [.sh (.int g), .sh v]) = some false) ∨ (w = "things" ∧ retB (s_is_subset [.sh (.int m), .sh v]) = some false)) (hb : BoxOk c l) (hc : c < 60000000)
    (h : ∀ l', BoxOk (c + 1) l' → Q (.sh (.tup [.str "subset", v])) [.io (.l l'), .sh (ctxD g m R), .sh (.str w), .sh v]) :
    wp (s__law_asked [.io (.l l), .sh (ctxD g m R), .sh (.str w), .sh v]) Q X := by
  unfold s__law_asked b__law_asked
  simp_arith only []
  refine take_wp hb (by omega) (by omega) (by omega) fun k l1 hk hb1 => ?_
  rcases hw with ⟨rfl, hv⟩ | ⟨rfl, hv⟩
  · simp_arith only [w_mm, self_ctx (no_cm (g := g) (m := m) (R := R))]
    refine wif_d (fun _ => ?_) (fun _ => ?_)
    · refine cref_wp hv fun e => ?_
      simp_arith only [lk_gv, putBack_d']
      exact h l1 hb1
    · refine cref_wp hv fun e => ?_
      simp_arith only [lk_gv, putBack_d']
      exact h l1 hb1
  · simp_arith only [w_tm, self_ctx (no_ct (g := g) (m := m) (R := R))]
    refine wif_d (fun _ => ?_) (fun _ => ?_)
    · refine cref2_wp hv fun e => ?_
      simp_arith only [lk_gv, putBack_d']
      exact h l1 hb1
    · refine cref2_wp hv fun e => ?_
      simp_arith only [lk_gv, putBack_d']
      exact h l1 hb1
theorem told_G (a : Nat) : vGood (.tup [.str "told", setD a]) = true ∧ dGood 12 (.tup [.str "told", setD a]) = true :=
  ⟨vGt (by simp) (vGc vT.1 (vGc (setD_vG a) vGn)), dGt (by simp) (dGc dT (dGc (setD_dG a) dGn))⟩
theorem common_wp {c g m : Nat} {l : List D} {R : List Nat} (ok : CtxOk g m R) (hb : BoxOk c l) (hc : c < 50000000)
    (h : ∀ l', BoxOk (c + 20) l' → Q (.sh (.bl true)) [.io (.l l'), .sh (ctxD g m R), .sh (cxL g m R)]) : wp (s__law_common_right [.io (.l l), .sh (ctxD g m R), .sh (cxL g m R)]) Q X := by
  have hg9 := ok.g9
  have hm9 := ok.m9
  have pg : 2 ^ g ≤ 2 ^ 9 := Nat.pow_le_pow_right (by omega) ok.g9
  have pm : 2 ^ m ≤ 2 ^ 9 := Nat.pow_le_pow_right (by omega) ok.m9
  have qg := Nat.two_pow_pos g
  have qm := Nat.two_pow_pos m
  have hx : cxL g m R = .lst [.int g, .int m, .lst (natsD R)] := rfl
  unfold s__law_common_right b__law_common_right
  simp_arith only []
  refine ⟨by decide, ?_⟩
  refine wp_loopR (k := 5) (lo := 0) (fun i e => ∃ (l' : List D) (s3 s4 s5 s6 : Sl), e = [.io (.l l'), .sh (ctxD g m R), .sh (cxL g m R), s3, s4, s5, s6] ∧ s3.own = none ∧ s4.own = none ∧ s5.own = none ∧ s6.own = none ∧ BoxOk (c + 4 * i) l') ⟨l, .no, .no, .no, .no, rfl, rfl, rfl, rfl, rfl, hb⟩ ?_ ?_
  · rintro i hi e ⟨l', s3, s4, s5, s6, rfl, h3, h4, h5, h6, hb'⟩
    simp only [wp_gSet, gq0, gqs, Wo_some, nio_own h3, st0, sts, zadd_, true_and]
    refine wp_seqC (fun e => ∃ (a b : Nat) (l' : List D), e = [.io (.l l'), .sh (ctxD g m R), .sh (cxL g m R), .sh (.int i), .sh (.lst [.int a, .int b]), s5, s6] ∧ a < 2 ^ g ∧ b < 2 ^ m ∧ BoxOk (c + 4 * i + 2) l') ?_ ?_
    · simp_arith only [hx]
      refine ⟨by omega, ?_⟩
      refine take_wp hb' (by omega) (by omega) (by omega) fun a l1 ha hb1 => ?_
      simp_arith only []
      refine ⟨by omega, ?_⟩
      refine take_wp hb1 (by omega) (by omega) (by omega) fun b l2 hbb hb2 => ?_
      simp_arith only [h4]
      exact ⟨a, b, l2, rfl, by omega, by omega, hb2⟩
    rintro e ⟨a0, b0, l2, rfl, ha0, hb0, hb2⟩
    refine wp_seqC (fun e => ∃ (a b : Nat), e = [.io (.l l2), .sh (ctxD g m R), .sh (cxL g m R), .sh (.int i), .sh (.lst [.int a, .int b]), s5, s6] ∧ a < 2 ^ g ∧ b < 2 ^ m) ?_ ?_
    · simp_arith only []
      refine wif_d (fun _ => ⟨0, 0, rfl, qg, qm⟩) (fun _ => ⟨a0, b0, rfl, ha0, hb0⟩)
    rintro e ⟨a, b, rfl, ha, hbb⟩
    have sg : setD 0 = setD 0 := rfl
    simp_arith only []
    refine lmarks_wp ok ha ?_
    simp_arith only []
    refine lthings_wp ok ?_
    simp_arith only [h5, h6]
    refine lset_wp ?_
    simp_arith only []
    refine askm_wp ok ha hb2 (by omega) fun l3 hb3 => ?_
    simp_arith only []
    refine lset_wp ?_
    simp_arith only []
    refine selfs_wp (told_G _).1 (told_G _).2 ?_
    simp_arith only []
    refine lset_wp ?_
    simp_arith only []
    refine askt_wp ok hbb hb3 (by omega) fun l4 hb4 => ?_
    simp_arith only []
    refine lset_wp ?_
    simp_arith only []
    refine selfs_wp (told_G _).1 (told_G _).2 ?_
    simp_arith only []
    exact ⟨l4, _, _, _, _, rfl, rfl, rfl, rfl, rfl, hb4.mono (by omega)⟩
  · rintro e ⟨l', s3, s4, s5, s6, rfl, h3, h4, h5, h6, hb'⟩
    simp_arith only []
    exact h l' hb'
end
end G
end

section
namespace G
open DL PySem PySem.Spec
open L2 (atI)
set_option maxHeartbeats 0
/-! ### what is refused -/
def backB (d : D) : Bool := match d with
  | .dct [] => true
  | .obj _ _ => false
  | .dct _ => false
  | d => vGood d && dGood 12 d
theorem back_ok {d : D} (h : backB d = true) : (isiD "dict" d = some (.sh (.bl true))) ∨ (isiD "dict" d = some (.sh (.bl false)) ∧ vGood d = true ∧ dGood 12 d = true) := by
  cases d with
  | dct l => exact .inl (by with_unfolding_all rfl)
  | obj _ _ => cases h
  | non => exact .inr ⟨id_non, by simpa [backB] using h⟩
  | bl _ => exact .inr ⟨id_bl, by simpa [backB] using h⟩
  | int _ => exact .inr ⟨id_int, by simpa [backB] using h⟩
  | str _ => exact .inr ⟨id_str, by simpa [backB] using h⟩
  | tup _ => exact .inr ⟨id_tup, by simpa [backB] using h⟩
  | lst _ => exact .inr ⟨id_lst, by simpa [backB] using h⟩
def bads (m : Nat) : List D := [.non, .str "0", .int 0, .lst [.int 0], .tup [.int 0, .int 0], .tup [.int m], .tup [.int (-1)], .tup [.bl true], .tup [.str "0"], .dct [], .tup [.int 0, .non], .tup [.tup [.int 0]], .lst [], .tup [.int ((m : Int) - 1), .int m]]
def bads2 : List D := [.tup [.int 1, .int 0], .lst [.int 0, .int 1], .tup [.int 0, .int 1, .int 1]]
def badOk (m : Nat) (d : D) : Bool := (retB (s_is_subset [.sh (.int m), .sh d]) == some false) && backB d
theorem bads_ok : ∀ m : Fin 10, ((bads m.1).all fun d => badOk m.1 d) = true := by decide +kernel
theorem bads_ok2 : ∀ m : Fin 10, 1 < m.1 → (bads2.all fun d => badOk m.1 d) = true := by decide +kernel
theorem w_ss : deq (.str "subset") (.str "subset") = some true := by decide +kernel
section
variable {QF : Fl → En → Prop} {Q : Ret → En → Prop} {X : XQ}
def bodyB : M Fl := (sSeq (sAsg (mD (rCall s__law_asked (aCons (eAt 0) (aCons (aD (eVar 1)) (aCons (aD (eVar 3)) (aCons (aD (eVar 6)) aNil)))))) (gSet 7))
  (sIf (tOrM (tCmp fNe (eIxV 7 (eC (.int 0))) (eC (.str "subset"))) (tAndM (tNotM (tTru (mD (rOne (eVar 6) (isiD "dict"))))) (tNotM (tTru (mD (rCall s__law_same (aCons (aD (eIxV 7 (eC (.int 1)))) (aCons (aD (eVar 6)) aNil)))))))) (sRet (mR (eC (.bl false)))) sNil))
def envB (l : List D) (g m : Nat) (R : List Nat) (w : Str) (n : Nat) (ds : List D) (s6 s7 : Sl) : En := [.io (.l l), .sh (ctxD g m R), .sh (cxL g m R), .sh (.str w), .sh (.int n), .sh (.lst ds), s6, s7]
theorem bloop_wp {c g m n : Nat} {l ds : List D} {R : List Nat} {w : Str} {s6 s7 : Sl} (hw : (w = "marks" ∧ n = g) ∨ (w = "things" ∧ n = m)) (hb : BoxOk c l) (hc : c < 50000000) (hlen : ds.length ≤ 20) (hds : ∀ d ∈ ds, badOk n d = true) (h6 : s6.own = none) (h7 : s7.own = none)
    (h : ∀ l' s6 s7, BoxOk (c + 20) l' → s6.own = none → s7.own = none → QF .nx (envB l' g m R w n ds s6 s7)) : wp (loopF (gSet 6) bodyB ds (envB l g m R w n ds s6 s7)) QF X := by
  refine wp_loop (fun i e => ∃ (l' : List D) (s6 s7 : Sl), e = envB l' g m R w n ds s6 s7 ∧ s6.own = none ∧ s7.own = none ∧ BoxOk (c + i) l') ⟨l, s6, s7, rfl, h6, h7, hb⟩ ?_ ?_
  · rintro i d e hd ⟨l', s6, s7, rfl, h6, h7, hb'⟩
    have hi := (List.getElem?_eq_some_iff.mp hd).1
    have hbad := hds d (List.mem_of_getElem? hd)
    unfold badOk at hbad
    rw [Bool.and_eq_true] at hbad
    have hr : retB (s_is_subset [.sh (.int n), .sh d]) = some false := by simpa using hbad.1
    have hw' : (w = "marks" ∧ retB (s_is_subset [.sh (.int g), .sh d]) = some false) ∨ (w = "things" ∧ retB (s_is_subset [.sh (.int m), .sh d]) = some false) := by
      rcases hw with ⟨h1, rfl⟩ | ⟨h1, rfl⟩
      · exact .inl ⟨h1, hr⟩
      · exact .inr ⟨h1, hr⟩
    unfold envB bodyB
    simp_arith only [h6, h7]
    refine askno_wp hw' hb' (by omega) fun l2 hb2 => ?_
    simp_arith only [w_ss, h7]
    rcases back_ok hbad.2 with hk | ⟨hk, hv, hg⟩
    · simp_arith only [hk]
      exact ⟨l2, _, _, rfl, rfl, rfl, hb2⟩
    · simp_arith only [hk]
      refine selfs_wp hv hg ?_
      simp_arith only []
      exact ⟨l2, _, _, rfl, rfl, rfl, hb2⟩
  · rintro e ⟨l', s6, s7, rfl, h6, h7, hb'⟩
    exact h l' s6 s7 (hb'.mono (by omega)) h6 h7
theorem setsref_wp {c g m : Nat} {l : List D} {R : List Nat} (ok : CtxOk g m R) (hb : BoxOk c l) (hc : c < 40000000)
    (h : ∀ l', BoxOk (c + 40) l' → Q (.sh (.bl true)) [.io (.l l'), .sh (ctxD g m R), .sh (cxL g m R)]) : wp (s__law_sets_refused_right [.io (.l l), .sh (ctxD g m R), .sh (cxL g m R)]) Q X := by
  have hg9 := ok.g9
  have hm9 := ok.m9
  have hx : cxL g m R = .lst [.int g, .int m, .lst (natsD R)] := rfl
  have all1 : ∀ n : Nat, n ≤ 9 → ∀ d ∈ bads n, badOk n d = true := fun n hn d hd => List.all_eq_true.mp (bads_ok ⟨n, by omega⟩) d hd
  have all2 : ∀ n : Nat, n ≤ 9 → (1 : Int) < (n : Int) → ∀ d ∈ bads n ++ bads2, badOk n d = true := fun n hn h1 d hd => by
    rcases List.mem_append.mp hd with hh | hh
    · exact all1 n hn d hh
    · exact List.all_eq_true.mp (bads_ok2 ⟨n, by omega⟩ (by show 1 < n; omega)) d hh
  unfold s__law_sets_refused_right b__law_sets_refused_right
  simp_arith only [hx]
  refine wp_loop (fun i e => ∃ (l' : List D) (s3 s4 s5 s6 s7 : Sl), e = [.io (.l l'), .sh (ctxD g m R), .sh (cxL g m R), s3, s4, s5, s6, s7] ∧ s3.own = none ∧ s4.own = none ∧ s5.own = none ∧ s6.own = none ∧ s7.own = none ∧ BoxOk (c + 20 * i) l') ⟨l, .no, .no, .no, .no, .no, by rw [hx], rfl, rfl, rfl, rfl, rfl, hb⟩ ?_ ?_
  · rintro i d e hd ⟨l', s3, s4, s5, s6, s7, rfl, h3, h4, h5, h6, h7, hb'⟩
    have hi : i < 2 := (List.getElem?_eq_some_iff.mp hd).1
    obtain ⟨w, n, rfl, hw, hn⟩ : ∃ (w : Str) (n : Nat), d = .tup [.str w, .int n] ∧ ((w = "marks" ∧ n = g) ∨ (w = "things" ∧ n = m)) ∧ n ≤ 9 := by
      have hi' : i = 0 ∨ i = 1 := by omega
      rcases hi' with rfl | rfl
      · exact ⟨"marks", g, by simpa using hd.symm, .inl ⟨rfl, rfl⟩, hg9⟩
      · exact ⟨"things", m, by simpa using hd.symm, .inr ⟨rfl, rfl⟩, hm9⟩
    simp_arith only [h3, h4, h5]
    refine wif_d (fun t => ?_) (fun t => ?_)
    · refine bloop_wp (ds := bads n ++ bads2) hw hb' (by omega) (by simp [bads, bads2]) (all2 n hn t) h6 h7 fun l2 s6 s7 hb2 h6 h7 => ?_
      exact ⟨l2, _, _, _, s6, s7, rfl, rfl, rfl, rfl, h6, h7, hb2.mono (by omega)⟩
    · refine bloop_wp (ds := bads n) hw hb' (by omega) (by simp [bads]) (all1 n hn) h6 h7 fun l2 s6 s7 hb2 h6 h7 => ?_
      exact ⟨l2, _, _, _, s6, s7, rfl, rfl, rfl, rfl, h6, h7, hb2.mono (by omega)⟩
  · rintro e ⟨l', s3, s4, s5, s6, s7, rfl, h3, h4, h5, h6, h7, hb'⟩
    simp_arith only []
    exact h l' (hb'.mono (by simp))
end
end G
end

section
namespace G
open DL PySem PySem.Spec
open L2 (atI)
set_option maxHeartbeats 0
theorem retB_of {r : R Ret} {b : Bool} (h : wp r (fun r _ => r = .sh (.bl b)) X0) : retB r = some b := by
  cases r with
  | ok a e => rw [wp_ok] at h; subst h; rfl
  | ex c fs e => rw [wp_ex] at h; exact h.elim
  | no => rw [wp_no] at h; exact h.elim
theorem retB_set {m x : Nat} (hm : m ≤ 9) (hx : x < 2 ^ m) : retB (s_is_subset [.sh (.int m), .sh (setD x)]) = some true := retB_of (issub_wp hm hx rfl)
/-- rows that are refused -/
def RowsBad (g m : Nat) (v : D) : Prop := retB (s_is_tuple_of [.sh v, .sh (.int g)]) = some false ∨
  ∃ l, v = .tup l ∧ l.length = g ∧ (∀ x ∈ l, (retB (s_is_subset [.sh (.int m), .sh x])).isSome = true) ∧ ∃ x ∈ l, retB (s_is_subset [.sh (.int m), .sh x]) = some false
section
variable {Q : Ret → En → Prop} {X : XQ}
theorem isz_wp {d : D} (hd : retB (s_is_between [.sh d, .sh (.int 0), .sh (.int 9)]) = some false) {a b : D} (h : ∀ e, X "InvalidSize" [("given", d)] (.io (.o "Context" []) :: e)) : wp (s_Context___init__ [.io (.o "Context" []), .sh d, .sh a, .sh b]) Q X := by
  unfold s_Context___init__ b_Context___init__
  simp_arith only []
  refine retB_wp hd fun o => ?_
  simp_arith only [putBack_d']
  exact h _
theorem isz2_wp {g : Nat} {d : D} (hg : g ≤ 9) (hd : retB (s_is_between [.sh d, .sh (.int 0), .sh (.int 9)]) = some false) {b : D} (h : ∀ e, X "InvalidSize" [("given", d)] (.io (.o "Context" []) :: e)) : wp (s_Context___init__ [.io (.o "Context" []), .sh (.int g), .sh d, .sh b]) Q X := by
  unfold s_Context___init__ b_Context___init__
  simp_arith only []
  refine btw9_wp hg ?_
  simp_arith only []
  refine retB_wp hd fun o => ?_
  simp_arith only [putBack_d']
  exact h _
theorem irow_wp {g m : Nat} {v : D} (hg : g ≤ 9) (hm : m ≤ 9) (hv : RowsBad g m v) (h : ∀ e, X "InvalidRows" [("given", v)] (.io (.o "Context" []) :: e)) : wp (s_Context___init__ [.io (.o "Context" []), .sh (.int g), .sh (.int m), .sh v]) Q X := by
  unfold s_Context___init__ b_Context___init__
  simp_arith only []
  refine btw9_wp hg ?_
  simp_arith only []
  refine btw9_wp hm ?_
  simp_arith only []
  rcases hv with hv | ⟨l, rfl, hl, hall, x, hx, hxf⟩
  · refine retB_wp hv fun o => ?_
    simp_arith only [putBack_d']
    exact h _
  · refine istup_wp ?_
    rw [decide_eq_true hl]
    simp_arith only []
    refine ⟨by omega, ?_⟩
    rw [show l = l.map id from (List.map_id l).symm]
    refine wp_compP (fun x => some (.bl ((retB (s_is_subset [.sh (.int m), .sh x])).getD false))) (by simp [noOwn, own_no]) (fun y hy => ?_) ?_
    · have := hall y hy
      cases q : retB (s_is_subset [.sh (.int m), .sh y]) with
      | none => rw [q] at this; cases this
      | some b =>
        simp_arith only [id]
        refine retB_wp q fun o => ?_
        simp_arith only [putBack_d']
        rfl
    · rw [fm_some, show (l.map fun x => D.bl ((retB (s_is_subset [.sh (.int m), .sh x])).getD false)) = (l.map fun x => (retB (s_is_subset [.sh (.int m), .sh x])).getD false).map D.bl from by rw [List.map_map]; rfl]
      have e : ((l.map fun x => (retB (s_is_subset [.sh (.int m), .sh x])).getD false).all id) = false := by
        rw [List.all_eq_false]
        exact ⟨false, List.mem_map.mpr ⟨x, hx, by rw [hxf]; rfl⟩, by decide⟩
      simp_arith only [e, List.map_id]
      exact h _
theorem caughtok_wp {c g m : Nat} {l : List D} {R : List Nat} (ok : CtxOk g m R) (hb : BoxOk c l) (hc : c < 60000000)
    (h : ∀ l', BoxOk (c + 1) l' → Q (.sh (.tup [.str "told", ctxD g m R])) [.io (.l l'), .sh (.int g), .sh (.int m), .sh (.tup (R.map setD))]) :
    wp (s__law_caught [.io (.l l), .sh (.int g), .sh (.int m), .sh (.tup (R.map setD))]) Q X := by
  unfold s__law_caught b__law_caught
  simp_arith only []
  refine take_wp hb (by omega) (by omega) (by omega) fun k l1 hk hb1 => ?_
  simp_arith only []
  refine wif_d (fun _ => ?_) (fun _ => ?_)
  · refine ctxinit_wp ok ?_
    simp_arith only []
    exact h l1 hb1
  · refine ctxinit_wp ok ?_
    simp_arith only []
    exact h l1 hb1
theorem caughtex_wp {c : Nat} {l : List D} {a b r v : D} {cls : String} {w : Str} (hw : (cls = "InvalidSize" ∧ w = "size") ∨ (cls = "InvalidRows" ∧ w = "rows"))
    (H : ∀ (Q' : Ret → En → Prop) (X' : XQ), (∀ e, X' cls [("given", v)] (.io (.o "Context" []) :: e)) → wp (s_Context___init__ [.io (.o "Context" []), .sh a, .sh b, .sh r]) Q' X') (hb : BoxOk c l) (hc : c < 60000000)
    (h : ∀ l', BoxOk (c + 1) l' → Q (.sh (.tup [.str w, v])) [.io (.l l'), .sh a, .sh b, .sh r]) : wp (s__law_caught [.io (.l l), .sh a, .sh b, .sh r]) Q X := by
  unfold s__law_caught b__law_caught
  simp_arith only []
  refine take_wp hb (by omega) (by omega) (by omega) fun k l1 hk hb1 => ?_
  have h1 := h l1 hb1
  simp_arith only []
  rcases hw with ⟨rfl, rfl⟩ | ⟨rfl, rfl⟩
  · refine wif_d (fun _ => ?_) (fun _ => ?_)
    · refine H _ _ fun e => ?_
      simp_arith only [lk_gv, putBack_d']
      exact h1
    · refine H _ _ fun e => ?_
      simp_arith only [lk_gv, putBack_d']
      exact h1
  · refine wif_d (fun _ => ?_) (fun _ => ?_)
    · refine H _ _ fun e => ?_
      simp_arith only [lk_gv, putBack_d']
      exact ⟨List.mem_singleton.mpr rfl, h1⟩
    · refine H _ _ fun e => ?_
      simp_arith only [lk_gv, putBack_d']
      exact ⟨List.mem_singleton.mpr rfl, h1⟩
end
end G
end

section
namespace G
open DL PySem PySem.Spec
open L2 (atI)
set_option maxHeartbeats 0
/-! ### equal contexts -/
theorem okD_sets (R : List Nat) : okD (.tup (R.map setD)) = true := by
  have := (ok_lst_iff (l := R.map setD)).mpr fun x hx => by
    obtain ⟨a, _, rfl⟩ := List.mem_map.mp hx
    exact tupN_ok (elems 9 a)
  unfold okD SeqAt.shaped at this ⊢
  exact this
theorem eqv_set (a b : Nat) : PyData.eqv (setD a).py (setD b).py = decide (elems 9 a = elems 9 b) := by
  have := deq_natT (elems 9 a) (elems 9 b)
  unfold deq at this
  have h1 : okD (.tup (natsD (elems 9 a))) = true := by rw [natsD_ints]; exact ok_tupI _
  have h2 : okD (.tup (natsD (elems 9 b))) = true := by rw [natsD_ints]; exact ok_tupI _
  rw [h1, h2] at this
  exact Option.some.inj this
theorem eqv_sets : ∀ R S : List Nat, (∀ x ∈ R, x < 2 ^ 9) → (∀ x ∈ S, x < 2 ^ 9) → PyData.eqvAll (pys (R.map setD)) (pys (S.map setD)) = decide (R = S)
  | [], [], _, _ => rfl
  | [], _ :: _, _, _ => rfl
  | _ :: _, [], _, _ => rfl
  | a :: R, b :: S, hR, hS => by
    show (PyData.eqv (setD a).py (setD b).py && PyData.eqvAll (pys (R.map setD)) (pys (S.map setD))) = _
    rw [eqv_sets R S (fun x hx => hR x (List.mem_cons_of_mem _ hx)) (fun x hx => hS x (List.mem_cons_of_mem _ hx)), eqv_set]
    by_cases e : a = b
    · subst e; simp
    · have : ¬ elems 9 a = elems 9 b := fun z => e (elems_inj (hR a (List.mem_cons_self ..)) (hS b (List.mem_cons_self ..)) z)
      simp [e, this]
theorem deq_sets {R S : List Nat} (hR : ∀ x ∈ R, x < 2 ^ 9) (hS : ∀ x ∈ S, x < 2 ^ 9) : deq (.tup (R.map setD)) (.tup (S.map setD)) = some (decide (R = S)) := by
  unfold deq
  rw [okD_sets, okD_sets]
  show some (PyData.eqvAll (pys (R.map setD)) (pys (S.map setD))) = _
  rw [eqv_sets R S hR hS]
theorem ok9 {g m : Nat} {R : List Nat} (ok : CtxOk g m R) : ∀ x ∈ R, x < 2 ^ 9 := fun x hx => Nat.lt_of_lt_of_le (ok.lt x hx) (Nat.pow_le_pow_right (by omega) ok.m9)
theorem isa_cx {g m : Nat} {R : List Nat} : isaD "Context" (ctxD g m R) = some (.sh (.bl true)) := by with_unfolding_all rfl
theorem eq_wp {g m g' m' : Nat} {R R' : List Nat} (ok : CtxOk g m R) (ok' : CtxOk g' m' R') : eqRes (s_Context___eq__ [.sh (ctxD g m R), .sh (ctxD g' m' R')]) = some (decide (m = m') && decide (R = R')) := by
  refine eqRes_wp ?_
  unfold s_Context___eq__ b_Context___eq__
  simp_arith only [isa_cx, c_marks, c_rows, deq_sets (ok9 ok) (ok9 ok')]
  refine wif_d (fun t => ?_) (fun t => ?_)
  · have e : m = m' := by omega
    rw [decide_eq_true e, Bool.true_and]
  · have e : ¬ m = m' := by omega
    rw [decide_eq_false e, Bool.false_and]
theorem f_eq {g m g' m' : Nat} {R R' : List Nat} (ok : CtxOk g m R) (ok' : CtxOk g' m' R') : fEqO "Context" s_Context___eq__ (ctxD g m R) (.obj "Context" (ctxF g' m' R')) = some (.sh (.bl (decide (m = m') && decide (R = R')))) := by
  have := eq_wp ok ok'
  unfold ctxD at this ⊢
  rw [fEqO_o, this]; rfl
theorem f_ne {g m g' m' : Nat} {R R' : List Nat} (ok : CtxOk g m R) (ok' : CtxOk g' m' R') : fNeO "Context" s_Context___eq__ (ctxD g m R) (.obj "Context" (ctxF g' m' R')) = some (.sh (.bl (!(decide (m = m') && decide (R = R'))))) := by
  have := eq_wp ok ok'
  unfold ctxD at this ⊢
  rw [fNeO_o, this]; rfl
theorem f_tup {g m : Nat} {R : List Nat} {l : List D} : fEqO "Context" s_Context___eq__ (ctxD g m R) (.tup l) = some (.sh (.bl false)) := by
  have : eqRes (s_Context___eq__ [.sh (ctxD g m R), .sh (.tup l)]) = some false := by
    refine eqRes_wp ?_
    unfold s_Context___eq__ b_Context___eq__
    simp_arith only []
  unfold ctxD at this ⊢
  rw [fEqO_ot, this]; rfl
theorem f_int {g m : Nat} {R : List Nat} {i : Int} : fEqO "Context" s_Context___eq__ (ctxD g m R) (.int i) = some (.sh (.bl false)) := by
  have : eqRes (s_Context___eq__ [.sh (ctxD g m R), .sh (.int i)]) = some false := by
    refine eqRes_wp ?_
    unfold s_Context___eq__ b_Context___eq__
    simp_arith only []
  unfold ctxD at this ⊢
  rw [fEqO_oi, this]; rfl
end G
end

section
namespace G
open DL PySem PySem.Spec
open L2 (atI)
set_option maxHeartbeats 0
theorem xor_ne {x p m : Nat} (hx : x < 2 ^ m) (hp : p < m) : ∃ r : Nat, PySem.Builtin.bitXor (x : Int) ((2 ^ p : Nat) : Int) = (r : Int) ∧ r < 2 ^ m ∧ r ≠ x := by
  unfold PySem.Builtin.bitXor
  rw [or_nat, and_nat]
  have hle : x &&& 2 ^ p ≤ x := Nat.and_le_left
  cases c : x.testBit p with
  | true =>
    have e : x ||| 2 ^ p = x := Nat.eq_of_testBit_eq fun b => by
      rw [Nat.testBit_or, Nat.testBit_two_pow]
      by_cases q : p = b
      · subst q; rw [c]; rfl
      · rw [decide_eq_false q, Bool.or_false]
    have hpos : x &&& 2 ^ p ≠ 0 := fun z => by
      have : (x &&& 2 ^ p).testBit p = true := by rw [Nat.testBit_and, c, Nat.testBit_two_pow_self]; rfl
      rw [z, Nat.zero_testBit] at this; cases this
    rw [e]
    exact ⟨x - (x &&& 2 ^ p), by omega, by omega, by omega⟩
  | false =>
    have e : x &&& 2 ^ p = 0 := Nat.eq_of_testBit_eq fun b => by
      rw [Nat.testBit_and, Nat.testBit_two_pow, Nat.zero_testBit]
      by_cases q : p = b
      · subst q; rw [c]; rfl
      · rw [decide_eq_false q, Bool.and_false]
    rw [e]
    refine ⟨x ||| 2 ^ p, by omega, Nat.or_lt_two_pow hx (Nat.pow_lt_pow_right (by omega) hp), fun z => ?_⟩
    have : (x ||| 2 ^ p).testBit p = true := by rw [Nat.testBit_or, Nat.testBit_two_pow_self, Bool.or_true]
    rw [z, c] at this; cases this
theorem cut_k {l : List Nat} {k : Nat} : cutD (natsD l) (some (k : Int)) none = natsD (l.drop k) := by
  unfold cutD
  have h1 : HT.sIx (natsD l).length 0 (some (k : Int)) = min k l.length := by rw [natsD_ln]; exact HT.sIx_nat _ _ k
  have h2 : HT.sIx (natsD l).length (natsD l).length none = l.length := by rw [natsD_ln]; rfl
  rw [h1, h2]
  unfold natsD
  rw [← List.map_drop, ← List.map_take]
  congr 1
  rw [List.take_of_length_le (by rw [List.length_drop]; exact Nat.le_refl _)]
  rcases Nat.le_total k l.length with h | h
  · rw [Nat.min_eq_left h]
  · rw [Nat.min_eq_right h, List.drop_of_length_le (Nat.le_refl _), List.drop_of_length_le h]
def Dif (m : Nat) (R : List Nat) (z : Nat × Nat × List Nat) : Prop := CtxOk z.1 z.2.1 z.2.2 ∧ (decide (m = z.2.1) && decide (R = z.2.2)) = false
def cz (z : Nat × Nat × List Nat) : D := cxL z.1 z.2.1 z.2.2
theorem dif_rows {m : Nat} {R S : List Nat} {g : Nat} (ok : CtxOk g m S) (h : R ≠ S) : Dif m R (g, m, S) := ⟨ok, by rw [decide_eq_false h, Bool.and_false]⟩
def envE (g m : Nat) (R : List Nat) (os : List (Nat × Nat × List Nat)) (s4 s5 : Sl) : En := [.sh (ctxD g m R), .sh (cxL g m R), .sh (.tup (R.map setD)), .ow (.l (os.map cz)), s4, s5, .no]
section
variable {Q : Ret → En → Prop} {X : XQ}
theorem equals_wp {g m : Nat} {R : List Nat} (ok : CtxOk g m R) (h : Q (.sh (.bl true)) [.sh (ctxD g m R), .sh (cxL g m R)]) : wp (s__law_equals_right [.sh (ctxD g m R), .sh (cxL g m R)]) Q X := by
  obtain ⟨hl, g9, m9, hlt⟩ := id ok
  have hx : cxL g m R = .lst [.int g, .int m, .lst (natsD R)] := rfl
  have ee : (decide (m = m) && decide (R = R)) = true := by simp
  unfold s__law_equals_right b__law_equals_right
  refine wp_funC rfl ?_
  refine wp_seqC (fun e => e = [.sh (ctxD g m R), .sh (cxL g m R), .sh (.tup (R.map setD)), .no, .no, .no, .no]) ?_ ?_
  · simp_arith only [hx]
    refine ⟨by omega, ?_⟩
    refine wp_compD (fun x => some (setD x)) (by simp [noOwn, own_no]) (fun x _ => ?_) ?_
    · simp_arith only []
      refine lset_wp ?_
      simp_arith only []; try rfl
    rw [fm_some]
    simp_arith only []
    try rfl
  rintro e rfl
  refine wp_seqC (fun e => e = [.sh (ctxD g m R), .sh (cxL g m R), .sh (.tup (R.map setD)), .no, .no, .no, .no]) ?_ ?_
  · simp_arith only []
    refine made_wp ok ?_
    simp_arith only [f_eq ok ok, ee, Bool.and_self]
    refine made_wp ok ?_
    simp_arith only [f_ne ok ok, ee, f_tup, f_int, Bool.and_self, Bool.not_true]
  rintro e rfl
  refine wp_seqC (fun e => e = envE g m R [] .no .no) ?_ ?_
  · simp_arith only []
    rfl
  rintro e rfl
  refine wp_seqC (fun e => ∃ os, e = envE g m R os .no .no ∧ (∀ z ∈ os, Dif m R z) ∧ os.length ≤ 1) ?_ ?_
  · unfold envE
    simp_arith only [hx]
    refine wif_d (fun t => ?_) (fun t => ⟨[], rfl, (fun _ h => by cases h), by simp⟩)
    have hd : Dif m R (g, m + 1, R) := ⟨⟨hl, g9, (by show m + 1 ≤ 9; omega), fun x hh => Nat.lt_of_lt_of_le (hlt x hh) (Nat.pow_le_pow_right (by omega) (by show m ≤ m + 1; omega))⟩, by rw [decide_eq_false (show ¬ m = m + 1 by omega)]; rfl⟩
    exact ⟨by simp, [(g, m + 1, R)], rfl, fun z hz => by rw [List.mem_singleton.mp hz]; exact hd, by simp⟩
  rintro e ⟨os, rfl, hos, hosl⟩
  refine wp_seqC (fun e => ∃ os, e = envE g m R os .no .no ∧ (∀ z ∈ os, Dif m R z) ∧ os.length ≤ 2) ?_ ?_
  · unfold envE
    simp_arith only [hx, natsD_ln, List.length_map]
    refine wif_d (fun t => ?_) (fun t => ⟨os, rfl, hos, by omega⟩)
    have hd : Dif m R (g + 1, m, R ++ [0]) := dif_rows ⟨by rw [List.length_append, hl]; rfl, by omega, m9, fun x hh => by
      rcases List.mem_append.mp hh with hh | hh
      · exact hlt x hh
      · rw [List.mem_singleton.mp hh]; exact Nat.two_pow_pos m⟩ fun z => by have := congrArg List.length z; simp at this
    refine ⟨by omega, by omega, os ++ [(g + 1, m, R ++ [0])], ?_, fun z hz => ?_, by rw [List.length_append]; simp; omega⟩
    · simp [cz, cxL, natsD]
    · rcases List.mem_append.mp hz with hz | hz
      · exact hos z hz
      · rw [List.mem_singleton.mp hz]; exact hd
  rintro e ⟨os, rfl, hos, hosl⟩
  refine wp_seqC (fun e => ∃ os s4, e = envE g m R os s4 .no ∧ s4.own = none ∧ (∀ z ∈ os, Dif m R z) ∧ os.length ≤ 11) ?_ ?_
  · obtain ⟨k, hk, hk2⟩ : ∃ k : Nat, (if (0 : Int) < (m : Int) then (g : Int) else 0) = (k : Int) ∧ (k = 0 ∨ (k = g ∧ 0 < m)) := by
      by_cases q : (0 : Int) < (m : Int)
      · exact ⟨g, if_pos q, .inr ⟨rfl, by omega⟩⟩
      · exact ⟨0, if_neg q, .inl rfl⟩
    unfold envE
    simp_arith only [hx, small9 (show g ≤ 1000 by omega)]
    refine wif_d (fun tm => ?_) (fun _ => ?_)
    · refine wp_loopR (fun i e => ∃ os s4, e = envE g m R os s4 .no ∧ s4.own = none ∧ (∀ z ∈ os, Dif m R z) ∧ os.length ≤ 2 + i) ⟨os, .no, by unfold envE; rw [hx], rfl, hos, by omega⟩ ?_ ?_
      · rintro i hi e ⟨os, s4, rfl, h4, hos, hosl⟩
        have hiR : i < R.length := by omega
        have hxi : R.getD i 0 < 2 ^ m := all_set hlt hiR
        have fin : ∀ p r : Nat, p < m → PySem.Builtin.bitXor (R.getD i 0 : Nat) ((2 ^ p : Nat) : Int) = (r : Int) → r < 2 ^ m → r ≠ R.getD i 0 → Dif m R (g, m, R.take i ++ [r] ++ R.drop (i + 1)) := fun p r hp he hr hne => by
          refine dif_rows ⟨?_, g9, m9, fun x hh => ?_⟩ fun z => ?_
          · simp only [List.length_append, List.length_take, List.length_drop, List.length_singleton]; omega
          · rcases List.mem_append.mp hh with hh | hh
            · rcases List.mem_append.mp hh with hh | hh
              · exact hlt x (List.mem_of_mem_take hh)
              · rw [List.mem_singleton.mp hh]; exact hr
            · exact hlt x (List.mem_of_mem_drop hh)
          · apply hne
            have := congrArg (fun l : List Nat => l.getD i 0) z
            simp only [List.getD_eq_getElem?_getD] at this
            rw [List.append_assoc, List.getElem?_append_right (by rw [List.length_take]; omega), List.length_take, Nat.min_eq_left (by omega), Nat.sub_self] at this
            rw [List.getD_eq_getElem?_getD, this]; rfl
        unfold envE
        have ht : (natsD R).take i = natsD (R.take i) := List.map_take.symm
        have hcut : cutD (natsD R) (some ((i : Int) + 1)) none = natsD (R.drop (i + 1)) := cut_k (k := i + 1)
        have last : ∀ p r : Nat, p < m → PySem.Builtin.bitXor (R.getD i 0 : Nat) ((2 ^ p : Nat) : Int) = (r : Int) → r < 2 ^ m → r ≠ R.getD i 0 → (R.take i).length ≤ 999999 ∧ (natsD (R.take i) ++ [D.int (r : Int)]).length + (R.drop (i + 1)).length ≤ 1000000 ∧ os.length < 1000000 ∧ ∃ (os_1 : List (Nat × Nat × List Nat)) (s4 : Sl),
            [Sl.sh (ctxD g m R), Sl.sh (.lst [.int g, .int m, .lst (natsD R)]), Sl.sh (.tup (R.map setD)), Sl.ow (.l (os.map cz ++ [.lst [.int g, .int m, .lst (natsD (R.take i) ++ [D.int (r : Int)] ++ natsD (R.drop (i + 1)))]])), Sl.sh (.int i), Sl.no, Sl.no] =
            [Sl.sh (ctxD g m R), Sl.sh (.lst [.int g, .int m, .lst (natsD R)]), Sl.sh (.tup (R.map setD)), Sl.ow (.l (os_1.map cz)), s4, Sl.no, Sl.no] ∧ s4.own = none ∧ (∀ z ∈ os_1, Dif m R z) ∧ os_1.length ≤ 2 + (i + 1) := fun p r hp he hr hne => by
          refine ⟨by rw [List.length_take]; omega, by rw [List.length_append, natsD_ln, List.length_take, List.length_drop]; show _ + 1 + _ ≤ _; omega, by omega, os ++ [(g, m, R.take i ++ [r] ++ R.drop (i + 1))], .sh (.int i), ?_, rfl, fun z hz => ?_, by rw [List.length_append]; show _ + 1 ≤ _; omega⟩
          · rw [List.map_append]; simp [cz, cxL, natsD]
          · rcases List.mem_append.mp hz with hz | hz
            · exact hos z hz
            · rw [List.mem_singleton.mp hz]; exact fin p r hp he hr hne
        simp_arith only [h4, hx, gq_get hiR, cut_to, List.length_map, ht, hcut]
        refine wif_d (fun t => ⟨by omega, ?_⟩) (fun t => ?_)
        · obtain ⟨r, he, hr, hne⟩ := xor_ne hxi t
          rw [he]
          exact last i r t he hr hne
        · have hm0 : 0 < m := by omega
          obtain ⟨r, he, hr, hne⟩ := xor_ne hxi hm0
          have he1 : PySem.Builtin.bitXor (R.getD i 0 : Nat) 1 = (r : Int) := he
          rw [he1]
          exact last 0 r hm0 he hr hne
      · rintro e ⟨os, s4, rfl, h4, hos, hosl⟩
        exact ⟨rfl, os, s4, rfl, h4, hos, by omega⟩
    · refine ⟨by decide, ?_⟩
      rw [show rngL 0 0 = [] from rfl]
      simp_arith only [wp_loop0]
      exact ⟨os, .no, rfl, rfl, hos, by omega⟩
  rintro e ⟨os, s4, rfl, h4, hos, hosl⟩
  refine wp_seqC (fun e => ∃ os s4, e = envE g m R os s4 .no ∧ s4.own = none ∧ (∀ z ∈ os, Dif m R z) ∧ os.length ≤ 12) ?_ ?_
  · unfold envE
    simp_arith only [hx, cut_m1, List.length_map]
    refine wif_d (fun t => ?_) (fun t => ⟨os, s4, rfl, h4, hos, by omega⟩)
    have hd : Dif m R (g - 1, m, R.dropLast) := dif_rows ⟨by rw [List.length_dropLast, hl], by omega, m9, fun x hh => hlt x (List.dropLast_subset R hh)⟩ fun z => by have := congrArg List.length z; rw [List.length_dropLast] at this; omega
    refine ⟨by omega, os ++ [(g - 1, m, R.dropLast)], s4, ?_, h4, fun z hz => ?_, by rw [List.length_append]; simp; omega⟩
    · have e1 : (g : Int) - 1 = ((g - 1 : Nat) : Int) := by omega
      rw [e1, List.map_append]; rfl
    · rcases List.mem_append.mp hz with hz | hz
      · exact hos z hz
      · rw [List.mem_singleton.mp hz]; exact hd
  rintro e ⟨os, s4, rfl, h4, hos, hosl⟩
  refine wp_seqC (fun e => ∃ s3 s4 s5 s6, e = [.sh (ctxD g m R), .sh (cxL g m R), .sh (.tup (R.map setD)), s3, s4, s5, s6]) ?_ ?_
  · unfold envE
    simp_arith only []
    refine wp_loopM (fun _ e => ∃ s3 s5, e = [.sh (ctxD g m R), .sh (cxL g m R), .sh (.tup (R.map setD)), s3, s4, s5, .no] ∧ s5.own = none) ⟨_, .no, rfl, rfl⟩ ?_ ?_
    · rintro i hi e ⟨s3, s5, rfl, h5⟩
      obtain ⟨ok', hne⟩ := hos _ (List.getElem_mem hi)
      unfold cz
      simp_arith only [h5]
      refine made_wp ok' ?_
      simp_arith only [f_eq ok ok', hne]
      refine made_wp ok' ?_
      simp_arith only [f_ne ok ok', hne, Bool.not_false, Bool.not_true]
      exact ⟨s3, _, rfl, rfl⟩
    · rintro e ⟨s3, s5, rfl, h5⟩
      exact ⟨rfl, s3, s4, s5, _, rfl⟩
  rintro e ⟨s3, s4, s5, s6, rfl⟩
  simp_arith only []
  exact h
end
end G
end

section
namespace G
open DL PySem PySem.Spec
open L2 (atI)
set_option maxHeartbeats 0
def sizes : List D := [.int (-1), .int 10, .non, .bl true, .bl false, .str "3", .tup [.int 3], .lst [], .dct [], .int (10 ^ 29)]
def sizeOk (d : D) : Bool := (retB (s_is_between [.sh d, .sh (.int 0), .sh (.int 9)]) == some false) && backB d
theorem sizes_ok : (sizes.all fun d => sizeOk d) = true := by decide +kernel
def rws (m : Nat) : List D := [.lst [.int 0], .tup [.int m], .tup [.int 0, .int 0], .tup [.int (-1)], .tup [.bl true], .non, .int 0, .str "0", .tup [.int m, .int ((m : Int) + 1)], .tup [.tup []]]
def rowOk (m : Nat) (d : D) : Bool := (retB (s_is_subset [.sh (.int m), .sh d]) == some false) && (vGood d && dGood 11 d)
theorem rws_ok : ∀ m : Fin 10, ((rws m.1).all fun d => rowOk m.1 d) = true := by decide +kernel
theorem rws_ok2 : ∀ m : Fin 10, 1 < m.1 → rowOk m.1 (.tup [.int 1, .int 0]) = true := by decide +kernel
theorem w_zz : deq (.str "size") (.str "size") = some true := by decide +kernel
theorem w_rr : deq (.str "rows") (.str "rows") = some true := by decide +kernel
theorem cutd {w : List D} : cutD w none (some (-1)) = w.dropLast := by
  unfold cutD
  have h1 : HT.sIx w.length 0 none = 0 := rfl
  have h2 : HT.sIx w.length w.length (some (-1)) = w.length - 1 := by
    show (if (-1 : Int) < 0 then ((-1 : Int) + (w.length : Int)).toNat else min (-1 : Int).toNat w.length) = _
    rw [if_pos (by decide)]
    omega
  rw [h1, h2]
  simp [List.dropLast_eq_take]
theorem cutk {w : List D} {k : Nat} : cutD w (some (k : Int)) none = w.drop k := by
  unfold cutD
  have h1 : HT.sIx w.length 0 (some (k : Int)) = min k w.length := HT.sIx_nat _ _ k
  have h2 : HT.sIx w.length w.length none = w.length := rfl
  rw [h1, h2, List.take_of_length_le (by rw [List.length_drop]; exact Nat.le_refl _)]
  rcases Nat.le_total k w.length with h | h
  · rw [Nat.min_eq_left h]
  · rw [Nat.min_eq_right h, List.drop_of_length_le (Nat.le_refl _), List.drop_of_length_le h]
def GoodB (v : D) : Prop := isiD "dict" v = some (.sh (.bl true)) ∨ (isiD "dict" v = some (.sh (.bl false)) ∧ vGood v = true ∧ dGood 12 v = true)
def WOk (g m : Nat) (v : D) : Prop := RowsBad g m v ∧ GoodB v
section
variable {Q : Ret → En → Prop} {X : XQ}
theorem tupno {d : D} {g : Nat} (h : isiD "tuple" d = some (.sh (.bl false))) : retB (s_is_tuple_of [.sh d, .sh (.int g)]) = some false := by
  refine retB_of ?_
  unfold s_is_tuple_of b_is_tuple_of
  simp_arith only [h]
theorem tuplen {l : List D} {g : Nat} (h : l.length ≠ g) : retB (s_is_tuple_of [.sh (.tup l), .sh (.int g)]) = some false := by
  refine retB_of ?_
  refine istup_wp ?_
  rw [decide_eq_false h]
theorem good_tup {l : List D} (h : l.length ≤ 1000) (h1 : ∀ x ∈ l, vGood x = true) (h2 : ∀ x ∈ l, dGood 11 x = true) : GoodB (.tup l) := .inr ⟨id_tup, vGt h (vGoodL_of h1), dGt h (dGoodL_of h2)⟩
theorem set_all {R : List Nat} {P : D → Prop} (h : ∀ a, P (setD a)) : ∀ x ∈ R.map setD, P x := fun x hx => by obtain ⟨a, _, rfl⟩ := List.mem_map.mp hx; exact h a
theorem row_wok {g m i : Nat} {R : List Nat} {d : D} (ok : CtxOk g m R) (hi : i < g) (hd : rowOk m d = true) : WOk g m (.tup ((R.take i).map setD ++ [d] ++ (R.drop (i + 1)).map setD)) := by
  unfold rowOk at hd
  rw [Bool.and_eq_true, Bool.and_eq_true] at hd
  have hr : retB (s_is_subset [.sh (.int m), .sh d]) = some false := by simpa using hd.1
  have hl := ok.len
  have hg := ok.g9
  have key : ∀ {P : D → Prop}, (∀ a ∈ R, P (setD a)) → P d → ∀ x ∈ (R.take i).map setD ++ [d] ++ (R.drop (i + 1)).map setD, P x := fun h1 h2 x hx => by
    rcases List.mem_append.mp hx with hx | hx
    · rcases List.mem_append.mp hx with hx | hx
      · obtain ⟨a, ha, rfl⟩ := List.mem_map.mp hx; exact h1 a (List.mem_of_mem_take ha)
      · rw [List.mem_singleton.mp hx]; exact h2
    · obtain ⟨a, ha, rfl⟩ := List.mem_map.mp hx; exact h1 a (List.mem_of_mem_drop ha)
  have hlen : ((R.take i).map setD ++ [d] ++ (R.drop (i + 1)).map setD).length = g := by
    simp only [List.length_append, List.length_map, List.length_take, List.length_drop, List.length_singleton]; omega
  refine ⟨.inr ⟨_, rfl, hlen, key (fun a ha => by rw [retB_set ok.m9 (ok.lt a ha)]; rfl) (by rw [hr]; rfl), d, by simp, hr⟩, good_tup (by omega) (key (fun a _ => setD_vG a) hd.2.1) (key (fun a _ => setD_dG a) hd.2.2)⟩
def envF (l : List D) (g m : Nat) (R : List Nat) (s5 s6 s7 s8 s9 s10 s11 : Sl) : En := [.io (.l l), .sh (cxL g m R), .sh (.int g), .sh (.int m), .sh (.tup (R.map setD)), s5, s6, s7, s8, s9, s10, s11]
theorem refused_wp {c g m : Nat} {l : List D} {R : List Nat} (ok : CtxOk g m R) (hb : BoxOk c l) (hc : c < 40000000)
    (h : ∀ l', BoxOk (c + 200) l' → Q (.sh (.bl true)) [.io (.l l'), .sh (cxL g m R)]) : wp (s__law_refused_right [.io (.l l), .sh (cxL g m R)]) Q X := by
  obtain ⟨hl, g9, m9, hlt⟩ := id ok
  have hx : cxL g m R = .lst [.int g, .int m, .lst (natsD R)] := rfl
  unfold s__law_refused_right b__law_refused_right
  refine wp_funC rfl ?_
  refine wp_seqC (fun e => e = [.io (.l l), .sh (cxL g m R), .sh (.int g), .sh (.int m), .no, .no, .no, .no, .no, .no, .no, .no]) ?_ ?_
  · simp_arith only [hx]
  rintro e rfl
  refine wp_seqC (fun e => e = envF l g m R .no .no .no .no .no .no .no) ?_ ?_
  · simp_arith only [hx]
    refine ⟨by omega, ?_⟩
    refine wp_compD (fun x => some (setD x)) (by simp [noOwn, own_no]) (fun x _ => ?_) ?_
    · simp_arith only []
      refine lset_wp ?_
      simp_arith only []; try rfl
    rw [fm_some]
    simp_arith only []
    rfl
  rintro e rfl
  refine wp_seqC (fun e => ∃ l' s5 s6 s7, e = envF l' g m R s5 s6 s7 .no .no .no .no ∧ s7.own = none ∧ BoxOk (c + 50) l') ?_ ?_
  · unfold envF
    simp_arith only []
    refine wp_loop (fun i e => ∃ l' s5 s6 s7, e = envF l' g m R s5 s6 s7 .no .no .no .no ∧ s5.own = none ∧ s6.own = none ∧ s7.own = none ∧ i ≤ 10 ∧ BoxOk (c + 5 * i) l') ⟨l, .no, .no, .no, rfl, rfl, rfl, rfl, by omega, hb⟩ ?_ ?_
    · rintro i d e hd ⟨l', s5, s6, s7, rfl, h5, h6, h7, hi0, hb'⟩
      have hi : i < 10 := (List.getElem?_eq_some_iff.mp hd).1
      have hok : sizeOk d = true := List.all_eq_true.mp sizes_ok d (List.mem_of_getElem? (l := sizes) (i := i) hd)
      unfold sizeOk at hok
      rw [Bool.and_eq_true] at hok
      have hr : retB (s_is_between [.sh d, .sh (.int 0), .sh (.int 9)]) = some false := by simpa using hok.1
      unfold envF
      simp_arith only [h5]
      refine wp_loop (fun j e => ∃ l' s6 s7, e = envF l' g m R (.sh d) s6 s7 .no .no .no .no ∧ s6.own = none ∧ s7.own = none ∧ j ≤ 5 ∧ BoxOk (c + 5 * i + j) l') ⟨l', s6, s7, rfl, h6, h7, by omega, hb'⟩ ?_ ?_
      · rintro j q e hq ⟨l2, s6, s7, rfl, h6, h7, hj0, hb2⟩
        have hj : j < 5 := (List.getElem?_eq_some_iff.mp hq).1
        obtain ⟨a, b, r, rfl, H⟩ : ∃ a b r, q = .tup [a, b, r] ∧ ∀ (Q' : Ret → En → Prop) (X' : XQ), (∀ e, X' "InvalidSize" [("given", d)] (.io (.o "Context" []) :: e)) → wp (s_Context___init__ [.io (.o "Context" []), .sh a, .sh b, .sh r]) Q' X' := by
          have hj' : j = 0 ∨ j = 1 ∨ j = 2 ∨ j = 3 ∨ j = 4 := by omega
          rcases hj' with rfl | rfl | rfl | rfl | rfl
          · exact ⟨_, _, _, by simpa using hq.symm, fun _ _ hh => isz_wp hr hh⟩
          · exact ⟨_, _, _, by simpa using hq.symm, fun _ _ hh => isz_wp hr hh⟩
          · exact ⟨_, _, _, by simpa using hq.symm, fun _ _ hh => isz_wp hr hh⟩
          · exact ⟨_, _, _, by simpa using hq.symm, fun _ _ hh => isz2_wp g9 hr hh⟩
          · exact ⟨_, _, _, by simpa using hq.symm, fun _ _ hh => isz2_wp g9 hr hh⟩
        unfold envF
        simp_arith only [h6]
        refine caughtex_wp (.inl ⟨rfl, rfl⟩) H hb2 (by omega) fun l3 hb3 => ?_
        simp_arith only [h7, w_zz]
        rcases back_ok hok.2 with hk | ⟨hk, hv, hg⟩
        · simp_arith only [hk]
          exact ⟨l3, _, _, rfl, rfl, rfl, by omega, hb3⟩
        · simp_arith only [hk]
          refine selfs_wp hv hg ?_
          simp_arith only []
          exact ⟨l3, _, _, rfl, rfl, rfl, by omega, hb3⟩
      · rintro e ⟨l2, s6, s7, rfl, h6, h7, hj0, hb2⟩
        exact ⟨l2, _, s6, s7, rfl, rfl, h6, h7, by omega, hb2.mono (by simp at hj0 ⊢; omega)⟩
    · rintro e ⟨l', s5, s6, s7, rfl, h5, h6, h7, hi0, hb'⟩
      exact ⟨rfl, l', s5, s6, s7, rfl, h7, hb'.mono (by omega)⟩
  rintro e ⟨l1, s5, s6, s7, rfl, h7, hb1⟩
  have hlm : (R.map setD).length = g := by rw [List.length_map, hl]
  have k1 : WOk g m (.lst (R.map setD)) := ⟨.inl (tupno (by with_unfolding_all rfl)), .inr ⟨id_lst, vGl (by omega) (vGoodL_of (set_all setD_vG)), dGl (by omega) (dGoodL_of (set_all setD_dG))⟩⟩
  have vt : vGood (.tup []) = true := by decide +kernel
  have dt : dGood 11 (.tup []) = true := by decide +kernel
  have app : ∀ {P : D → Prop}, (∀ a, P (setD a)) → P (.tup []) → ∀ x ∈ R.map setD ++ [D.tup []], P x := fun h1 h2 x hx => by
    rcases List.mem_append.mp hx with hx | hx
    · exact set_all h1 x hx
    · rw [List.mem_singleton.mp hx]; exact h2
  have k2 : WOk g m (.tup (R.map setD ++ [.tup []])) := ⟨.inl (tuplen (by rw [List.length_append, hlm]; simp)), good_tup (by rw [List.length_append, hlm]; show g + 1 ≤ 1000; omega) (app setD_vG vt) (app setD_dG dt)⟩
  have k3 : WOk g m .non := ⟨.inl (tupno (by with_unfolding_all rfl)), .inr ⟨id_non, by decide +kernel, by decide +kernel⟩⟩
  have k4 : WOk g m (.str "rows") := ⟨.inl (tupno (by with_unfolding_all rfl)), .inr ⟨id_str, by decide +kernel, by decide +kernel⟩⟩
  have k5 : WOk g m (.int 5) := ⟨.inl (tupno (by with_unfolding_all rfl)), .inr ⟨id_int, by decide +kernel, by decide +kernel⟩⟩
  have k6 : WOk g m (.dct []) := ⟨.inl (tupno (by with_unfolding_all rfl)), .inl (by with_unfolding_all rfl)⟩
  have k7 : 0 < g → WOk g m (.tup (R.map setD).dropLast) := fun hg => ⟨.inl (tuplen (by rw [List.length_dropLast, hlm]; omega)), good_tup (by rw [List.length_dropLast, hlm]; omega) (fun x hx => set_all (P := fun x => vGood x = true) setD_vG x (List.dropLast_subset _ hx)) (fun x hx => set_all (P := fun x => dGood 11 x = true) setD_dG x (List.dropLast_subset _ hx))⟩
  have k7' : g = 0 → WOk g m (.tup [.tup []]) := fun hg => ⟨.inl (tuplen (by simp; omega)), good_tup (by simp) (fun x hx => by rw [List.mem_singleton.mp hx]; exact vt) (fun x hx => by rw [List.mem_singleton.mp hx]; exact dt)⟩
  have k8 : WOk g m (.tup (List.replicate (g + 1) [D.non]).flatten) := by
    have e : (List.replicate (g + 1) [D.non]).flatten = List.replicate (g + 1) D.non := by simp
    rw [e]
    exact ⟨.inl (tuplen (by rw [List.length_replicate]; omega)), good_tup (by rw [List.length_replicate]; omega) (fun x hx => by rw [(List.mem_replicate.mp hx).2]; decide +kernel) (fun x hx => by rw [(List.mem_replicate.mp hx).2]; decide +kernel)⟩
  refine wp_seqC (fun e => ∃ ds, e = envF l1 g m R s5 s6 s7 (.ow (.l ds)) .no .no .no ∧ (∀ v ∈ ds, WOk g m v) ∧ ds.length ≤ 8) ?_ ?_
  · have e9 : (g : Int) + 1 = ((g + 1 : Nat) : Int) := by omega
    have hmul : fMul1 (.tup [.non]) (.int ((g + 1 : Nat) : Int)) = some (.sh (.tup (List.replicate (g + 1) [D.non]).flatten)) := by
      show (if ((g + 1 : Nat) : Int) = 1 then some (Ret.sh (D.tup [D.non])) else fMul (.tup [.non]) (.int ((g + 1 : Nat) : Int))) = _
      by_cases hg : g = 0
      · rw [if_pos (by omega), hg]; rfl
      · rw [if_neg (by omega)]
        show (if _ then _ else _) = _
        rw [if_pos ⟨by simp, by omega, by omega, by simp⟩, Int.toNat_natCast]
    unfold envF
    simp_arith only [hlm, cutd, e9, hmul]
    refine ⟨by omega, wif_d (fun t => ?_) (fun t => ?_)⟩
    · refine ⟨_, rfl, fun v hv => ?_, by simp⟩
      simp only [List.mem_cons, List.not_mem_nil, or_false] at hv
      rcases hv with rfl | rfl | rfl | rfl | rfl | rfl | rfl | rfl
      · exact k1
      · exact k2
      · exact k3
      · exact k4
      · exact k5
      · exact k6
      · exact k7 (by omega)
      · exact k8
    · refine ⟨_, rfl, fun v hv => ?_, by simp⟩
      simp only [List.mem_cons, List.not_mem_nil, or_false] at hv
      rcases hv with rfl | rfl | rfl | rfl | rfl | rfl | rfl | rfl
      · exact k1
      · exact k2
      · exact k3
      · exact k4
      · exact k5
      · exact k6
      · exact k7' (by omega)
      · exact k8
  rintro e ⟨ds, rfl, hds, hdl⟩
  refine wp_seqC (fun e => ∃ ds s9 s10, e = envF l1 g m R s5 s6 s7 (.ow (.l ds)) s9 s10 .no ∧ (∀ v ∈ ds, WOk g m v) ∧ ds.length ≤ 100) ?_ ?_
  · obtain ⟨k, hk, hkg, hk2⟩ : ∃ k : Nat, (if (2 : Int) < (g : Int) then (2 : Int) else (g : Int)) = (k : Int) ∧ k ≤ g ∧ k ≤ 2 := by
      by_cases q : (2 : Int) < (g : Int)
      · exact ⟨2, if_pos q, by omega, by omega⟩
      · exact ⟨g, if_neg q, by omega, by omega⟩
    unfold envF
    simp_arith only [hk, small9 (show k ≤ 1000 by omega)]
    refine wp_loopR (fun i e => ∃ ds s9 s10, e = envF l1 g m R s5 s6 s7 (.ow (.l ds)) s9 s10 .no ∧ s9.own = none ∧ s10.own = none ∧ (∀ v ∈ ds, WOk g m v) ∧ ds.length ≤ 8 + 30 * i) ⟨ds, .no, .no, rfl, rfl, rfl, hds, by omega⟩ ?_ ?_
    · rintro i hi e ⟨ds, s9, s10, rfl, h9, h10, hds, hdl⟩
      have hig : i < g := by omega
      have ht : (R.map setD).take i = (R.take i).map setD := List.map_take.symm
      have hd' : cutD (R.map setD) (some ((i : Int) + 1)) none = (R.drop (i + 1)).map setD := by
        exact (cutk (k := i + 1)).trans List.map_drop.symm
      have add : ∀ d, rowOk m d = true → WOk g m (.tup ((R.take i).map setD ++ [d] ++ (R.drop (i + 1)).map setD)) := fun d hd => row_wok ok hig hd
      have lt1 : (R.take i).length ≤ 9 := by rw [List.length_take]; omega
      have lt2 : (R.drop (i + 1)).length ≤ 9 := by rw [List.length_drop]; omega
      unfold envF
      simp only [wp_gSet, gq0, gqs, Wo_some, nio_own h9, st0, sts, zadd_, true_and]
      refine wp_seqC (fun e => ∃ ds s10, e = envF l1 g m R s5 s6 s7 (.ow (.l ds)) (.sh (.int i)) s10 .no ∧ s10.own = none ∧ (∀ v ∈ ds, WOk g m v) ∧ ds.length ≤ 8 + 30 * i + 10) ?_ ?_
      · simp_arith only []
        refine wp_loop (fun j e => ∃ ds s10, e = envF l1 g m R s5 s6 s7 (.ow (.l ds)) (.sh (.int i)) s10 .no ∧ s10.own = none ∧ (∀ v ∈ ds, WOk g m v) ∧ j ≤ 10 ∧ ds.length ≤ 8 + 30 * i + j) ⟨ds, s10, rfl, h10, hds, by omega, by omega⟩ ?_ ?_
        · rintro j d e hd ⟨ds, s10, rfl, h10, hds, hj0, hdl⟩
          have hj : j < 10 := (List.getElem?_eq_some_iff.mp hd).1
          have hok : rowOk m d = true := List.all_eq_true.mp (rws_ok ⟨m, by omega⟩) d (List.mem_of_getElem? (l := rws m) (i := j) hd)
          unfold envF
          simp_arith only [h10, cut_to, ht, hd', List.length_append, List.length_map, List.length_cons, List.length_nil]
          refine ⟨by omega, by omega, by omega, ds ++ [.tup ((R.take i).map setD ++ [d] ++ (R.drop (i + 1)).map setD)], _, rfl, rfl, fun v hv => ?_, by omega, by rw [List.length_append]; show _ + 1 ≤ _; omega⟩
          rcases List.mem_append.mp hv with hv | hv
          · exact hds v hv
          · rw [List.mem_singleton.mp hv]; exact add d hok
        · rintro e ⟨ds, s10, rfl, h10, hds, hj0, hdl⟩
          exact ⟨rfl, ds, s10, rfl, h10, hds, by simp at hj0 hdl ⊢; omega⟩
      rintro e ⟨ds, s10, rfl, h10, hds, hdl⟩
      unfold envF
      simp_arith only [cut_to, ht, hd', List.length_append, List.length_map, List.length_cons, List.length_nil]
      refine wif_d (fun t => ?_) (fun t => ⟨ds, _, s10, rfl, rfl, h10, hds, by omega⟩)
      refine ⟨by omega, by omega, by omega, ds ++ [.tup ((R.take i).map setD ++ [.tup [.int 1, .int 0]] ++ (R.drop (i + 1)).map setD)], _, s10, rfl, rfl, h10, fun v hv => ?_, by rw [List.length_append]; show _ + 1 ≤ _; omega⟩
      rcases List.mem_append.mp hv with hv | hv
      · exact hds v hv
      · rw [List.mem_singleton.mp hv]; exact add _ (rws_ok2 ⟨m, by omega⟩ (by show 1 < m; omega))
    · rintro e ⟨ds, s9, s10, rfl, h9, h10, hds, hdl⟩
      exact ⟨rfl, ds, s9, s10, rfl, hds, by omega⟩
  rintro e ⟨ds, s9, s10, rfl, hds, hdl⟩
  refine wp_seqC (fun e => ∃ l' s1 s2 s3 s4 s5 s6 s7 s8 s9 s10, e = .io (.l l') :: .sh (cxL g m R) :: [s1, s2, s3, s4, s5, s6, s7, s8, s9, s10] ∧ BoxOk (c + 200) l') ?_ ?_
  · unfold envF
    simp_arith only []
    refine wp_loop (fun i e => ∃ l' s7 s11, e = envF l' g m R s5 s6 s7 (.sh (.lst ds)) s9 s10 s11 ∧ s7.own = none ∧ s11.own = none ∧ i ≤ ds.length ∧ BoxOk (c + 50 + i) l') ⟨l1, s7, .no, rfl, h7, rfl, by omega, hb1⟩ ?_ ?_
    · rintro i d e hd ⟨l', s7, s11, rfl, h7, h11, hi0, hb'⟩
      have hi := (List.getElem?_eq_some_iff.mp hd).1
      obtain ⟨hw, hg⟩ := hds d (List.mem_of_getElem? hd)
      unfold envF
      simp_arith only [h11]
      refine caughtex_wp (.inr ⟨rfl, rfl⟩) (fun _ _ hh => irow_wp g9 m9 hw hh) hb' (by omega) fun l3 hb3 => ?_
      simp_arith only [h7, w_rr]
      rcases hg with hk | ⟨hk, hv, hg⟩
      · simp_arith only [hk]
        exact ⟨l3, _, _, rfl, rfl, rfl, by omega, hb3⟩
      · simp_arith only [hk]
        refine selfs_wp hv hg ?_
        simp_arith only []
        exact ⟨l3, _, _, rfl, rfl, rfl, by omega, hb3⟩
    · rintro e ⟨l', s7, s11, rfl, h7, h11, hi0, hb'⟩
      exact ⟨rfl, l', _, _, _, _, _, _, _, _, _, _, rfl, hb'.mono (by omega)⟩
  rintro e ⟨l', s1, s2, s3, s4, s5, s6, s7, s8, s9, s10, rfl, hb'⟩
  simp_arith only []
  exact h l' hb'
end
end G
end

section
namespace G
open DL PySem PySem.Spec
open L2 (atI)
set_option maxHeartbeats 0
theorem w_to : deq (.str "told") (.str "told") = some true := by decide +kernel
section
variable {Q : Ret → En → Prop} {X : XQ}
theorem right_wp {c most : Nat} {l : List D} (hm : most ≤ 9) (hb : BoxOk c l) (hc : c < 1000000) (h : ∀ l', Q (.sh (.bl true)) [.io (.l l'), .sh (.int most)]) : wp (s__law_right [.io (.l l), .sh (.int most)]) Q X := by
  unfold s__law_right b__law_right
  refine wp_funC rfl ?_
  refine wp_seqC (fun e => ∃ g m R l', e = [.io (.l l'), .sh (.int most), .sh (cxL g m R), .no, .no, .no, .no, .no, .no] ∧ CtxOk g m R ∧ BoxOk (c + 200) l') ?_ ?_
  · simp_arith only []
    refine context_wp hm hb (by omega) fun g m R l1 _ _ ok hb1 => ?_
    simp_arith only []
    exact ⟨g, m, R, l1, rfl, ok, hb1⟩
  rintro e ⟨g, m, R, l1, rfl, ok, hb1⟩
  have hx : cxL g m R = .lst [.int g, .int m, .lst (natsD R)] := rfl
  have hg9 := ok.g9
  have hl := ok.len
  refine wp_seqC (fun e => e = [.io (.l l1), .sh (.int most), .sh (cxL g m R), .sh (.tup (R.map setD)), .no, .no, .no, .no, .no]) ?_ ?_
  · simp_arith only [hx]
    refine ⟨by omega, ?_⟩
    refine wp_compD (fun x => some (setD x)) (by simp [noOwn, own_no]) (fun x _ => ?_) ?_
    · simp_arith only []
      refine lset_wp ?_
      simp_arith only []; try rfl
    rw [fm_some]
    simp_arith only []
    try rfl
  rintro e rfl
  refine wp_seqC (fun e => ∃ l', e = [.io (.l l'), .sh (.int most), .sh (cxL g m R), .sh (.tup (R.map setD)), .sh (.tup [.str "told", ctxD g m R]), .no, .no, .no, .no] ∧ BoxOk (c + 201) l') ?_ ?_
  · simp_arith only [hx]
    refine caughtok_wp ok hb1 (by omega) fun l2 hb2 => ?_
    simp_arith only []
    exact ⟨l2, rfl, hb2⟩
  rintro e ⟨l2, rfl, hb2⟩
  refine wp_seqC (fun e => e = [.io (.l l2), .sh (.int most), .sh (cxL g m R), .sh (.tup (R.map setD)), .sh (.tup [.str "told", ctxD g m R]), .no, .no, .no, .no]) ?_ ?_
  · simp_arith only [w_to, isa_cx]
  rintro e rfl
  refine wp_seqC (fun e => e = [.io (.l l2), .sh (.int most), .sh (cxL g m R), .sh (.tup (R.map setD)), .sh (.tup [.str "told", ctxD g m R]), .sh (ctxD g m R), .no, .no, .no]) ?_ ?_
  · simp_arith only []
  rintro e rfl
  refine wp_seqC (fun e => ∃ l', e = [.io (.l l'), .sh (.int most), .sh (cxL g m R), .sh (.tup (R.map setD)), .sh (.tup [.str "told", ctxD g m R]), .sh (ctxD g m R), .no, .no, .no] ∧ BoxOk (c + 300) l') ?_ ?_
  · simp_arith only []
    refine common_wp ok hb2 (by omega) fun l3 hb3 => ?_
    simp_arith only []
    refine setsref_wp ok hb3 (by omega) fun l4 hb4 => ?_
    simp_arith only []
    exact ⟨l4, rfl, hb4.mono (by omega)⟩
  rintro e ⟨l3, rfl, hb3⟩
  refine wp_seqC (fun e => ∃ g' m' R' l', e = [.io (.l l'), .sh (.int most), .sh (cxL g m R), .sh (.tup (R.map setD)), .sh (.tup [.str "told", ctxD g m R]), .sh (ctxD g m R), .sh (cxL g' m' R'), .no, .no] ∧ CtxOk g' m' R' ∧ BoxOk (c + 500) l') ?_ ?_
  · simp_arith only []
    refine context_wp hm hb3 (by omega) fun g' m' R' l4 _ _ ok' hb4 => ?_
    simp_arith only []
    exact ⟨g', m', R', l4, rfl, ok', hb4.mono (by omega)⟩
  rintro e ⟨g', m', R', l4, rfl, ok', hb4⟩
  refine wp_seqC (fun e => e = [.io (.l l4), .sh (.int most), .sh (cxL g m R), .sh (.tup (R.map setD)), .sh (.tup [.str "told", ctxD g m R]), .sh (ctxD g m R), .sh (cxL g' m' R'), .sh (ctxD g' m' R'), .no]) ?_ ?_
  · simp_arith only []
    refine made_wp ok' ?_
    simp_arith only []
    rfl
  rintro e rfl
  refine wp_seqC (fun e => ∃ l', e = [.io (.l l'), .sh (.int most), .sh (cxL g m R), .sh (.tup (R.map setD)), .sh (.tup [.str "told", ctxD g m R]), .sh (ctxD g m R), .sh (cxL g' m' R'), .sh (ctxD g' m' R'), .no] ∧ BoxOk (c + 600) l') ?_ ?_
  · simp_arith only []
    refine common_wp ok' hb4 (by omega) fun l5 hb5 => ?_
    simp_arith only []
    refine common_wp ok hb5 (by omega) fun l6 hb6 => ?_
    simp_arith only []
    exact ⟨l6, rfl, hb6.mono (by omega)⟩
  rintro e ⟨l5, rfl, hb5⟩
  have vg : vGood (.lst [.int g, .int m, .tup (R.map setD)]) = true := vGl (by simp) (vGc vGi (vGc vGi (vGc (vGt (by rw [List.length_map]; omega) (vGoodL_of (set_all setD_vG))) vGn)))
  have sD10 : ∀ a, dGood 10 (setD a) = true := fun a => dG_nat (k := 8) _ (by have := elems_len 9 a; omega)
  have dg : dGood 12 (.lst [.int g, .int m, .tup (R.map setD)]) = true := dGl (by simp) (dGc dGi (dGc dGi (dGc (dGt (by rw [List.length_map]; omega) (dGoodL_of (set_all sD10))) dGn)))
  refine wp_seqC (fun e => e = [.io (.l l5), .sh (.int most), .sh (cxL g m R), .sh (.tup (R.map setD)), .sh (.tup [.str "told", ctxD g m R]), .sh (ctxD g m R), .sh (cxL g' m' R'), .sh (ctxD g' m' R'), .no]) ?_ ?_
  · simp_arith only [c_things, c_marks, c_rows, hx]
    refine selfs_wp vg dg ?_
    simp_arith only []
    rw [hx]
  rintro e rfl
  simp_arith only []
  refine equals_wp ok ?_
  simp_arith only []
  refine refused_wp ok hb5 (by omega) fun l6 hb6 => ?_
  simp_arith only []
  exact h l6
end
theorem law_ok : ∀ ns : List Int, ns.length ≤ 63 → ∃ o, s_law [.sh (.lst (ns.map .int))] = .ok (.sh (.bl true)) o := by
  intro ns hl
  have key : wp (s_law [.sh (.lst (ns.map .int))]) (fun r _ => r = .sh (.bl true)) (fun _ _ _ => False) := by
    unfold s_law b_law
    simp_arith only []
    obtain ⟨m, hm, hm2⟩ := mm_exN (ns.map D.int).length 2 3 (by omega)
    rw [show ((3 : Nat) : Int) = 3 from rfl, show ((2 : Nat) : Int) = 2 from rfl] at hm
    rw [hm]
    simp_arith only [small9 (show m ≤ 1000 by omega)]
    refine wp_loopR (fun _ e => ∃ s1 s2, e = [.sh (.lst (ns.map .int)), s1, s2] ∧ s1.own = none ∧ nio s2 = true) ⟨.no, .no, rfl, rfl, rfl⟩ ?_ ?_
    · rintro i hi e ⟨s1, s2, rfl, h1, h2⟩
      simp_arith only [h1, h2]
      refine cell_wp (by omega) hl fun g => ?_
      simp_arith only [h1, h2]
      refine box_wp fun l hb => ?_
      simp_arith only [h1, h2]
      refine take_wp hb (by omega) (by omega) (by omega) fun k l1 hk hb1 => ?_
      obtain ⟨n, hn, hn9⟩ : ∃ n : Nat, atI [D.int 4, .int 5, .int 3, .int 6, .int 4, .int 5, .int 7, .int 9] (k : Int) = some (.int (n : Nat)) ∧ n ≤ 9 := by
        have hk' : k = 0 ∨ k = 1 ∨ k = 2 ∨ k = 3 ∨ k = 4 ∨ k = 5 ∨ k = 6 ∨ k = 7 := by omega
        rcases hk' with rfl | rfl | rfl | rfl | rfl | rfl | rfl | rfl
        · exact ⟨4, rfl, by omega⟩
        · exact ⟨5, rfl, by omega⟩
        · exact ⟨3, rfl, by omega⟩
        · exact ⟨6, rfl, by omega⟩
        · exact ⟨4, rfl, by omega⟩
        · exact ⟨5, rfl, by omega⟩
        · exact ⟨7, rfl, by omega⟩
        · exact ⟨9, rfl, by omega⟩
      simp_arith only [hn]
      refine right_wp hn9 hb1 (by omega) fun l2 => ?_
      simp_arith only []
      exact ⟨_, _, rfl, rfl, rfl⟩
    · rintro e ⟨s1, s2, rfl, h1, h2⟩
      simp_arith only []
  obtain ⟨a, e, h1, h2⟩ := wp_toE key
  exact ⟨e, by rw [h1, h2]⟩
end G
end

section
namespace G
open DL PySem PySem.Spec L2
open PyProof.Rows hiding St
set_option maxHeartbeats 0

def fnL : List He.DefD := [dd "is_integer" (topS 7), dd "is_between" (topS 8), dd "is_tuple_of" (topS 9), dd "is_rising" (topS 10), dd "is_subset" (topS 12), dd "mask_of" (topS 13), dd "points_in" (topS 15), dd "subset_of" (topS 14), dd "shared_mask" (topS 18), dd "_law_cell" (topS 21), dd "_law_box" (topS 22), dd "_law_take" (topS 23), dd "_law_same" (topS 24), dd "_law_set" (topS 25), dd "_law_mixed" (topS 26), dd "_law_context" (topS 27), dd "_law_marks" (topS 28), dd "_law_things" (topS 29), ddm "Context" "__init__" "Context.__init__" (clsM (topS 19) 0), dd "_law_made" (topS 30), dd "_law_caught" (topS 31), ddm "Context" "things_at" "Context.things_at" (clsM (topS 19) 3), ddm "Context" "common_things" "Context.common_things" (clsM (topS 19) 6), ddm "Context" "marks_at" "Context.marks_at" (clsM (topS 19) 2), ddm "Context" "common_marks" "Context.common_marks" (clsM (topS 19) 5), dd "_law_asked" (topS 32), dd "_law_common_right" (topS 33), dd "_law_sets_refused_right" (topS 34), ddm "Context" "__eq__" "Context.__eq__" (clsM (topS 19) 1), dd "_law_equals_right" (topS 35), dd "_law_refused_right" (topS 36), dd "_law_right" (topS 37), dd "law" (topS 38), ddm "InvalidRows" "__init__" "InvalidRows.__init__" (clsM (topS 5) 0), ddm "InvalidSize" "__init__" "InvalidSize.__init__" (clsM (topS 3) 0), ddm "InvalidSubset" "__init__" "InvalidSubset.__init__" (clsM (topS 4) 0)]
def faL : List He.Fa := [.glo "is_integer", .glo "is_between", .glo "is_tuple_of", .glo "is_rising", .glo "is_subset", .glo "mask_of", .glo "points_in", .glo "subset_of", .glo "shared_mask", .glo "_law_cell", .glo "_law_box", .glo "_law_take", .glo "_law_same", .glo "_law_set", .glo "_law_mixed", .glo "_law_context", .glo "_law_marks", .glo "_law_things", .glo "Context", .mkr "Context", .glo "_law_made", .glo "_law_caught", .cls "Context", .meth "Context" "things_at", .meth "Context" "common_things", .meth "Context" "marks_at", .meth "Context" "common_marks", .glo "_law_asked", .glo "_law_common_right", .glo "_law_sets_refused_right", .meth "Context" "__eq__", .glo "_law_equals_right", .glo "_law_refused_right", .glo "_law_right", .glo "law", .glo "InvalidRows", .glo "InvalidSize", .glo "InvalidSubset", .glo "OrderError", .int "MOST" (9)]
def looseL : List PySem.Str := (["_wall", "OrderError", "InvalidSize", "InvalidSubset", "InvalidRows", "is_integer", "is_between", "is_tuple_of", "is_rising", "is_subset", "mask_of", "subset_of", "points_in", "MOST", "shared_mask", "Context", "_law_cell", "_law_box", "_law_take", "_law_same", "_law_set", "_law_mixed", "_law_context", "_law_marks", "_law_things", "_law_made", "_law_caught", "_law_asked", "_law_common_right", "_law_sets_refused_right"] : List PySem.Str) ++ (["_law_equals_right", "_law_refused_right", "_law_right"] : List PySem.Str)
abbrev rowL : PySem.W.OpenRow := PySem.W.OpenLaw.row PySem.Challenge.rw_orderbench_k45_contexts
def ecL : List (String × String) := [("InvalidRows", "given"), ("InvalidSize", "given"), ("InvalidSubset", "given")]
def bsL : List String := ["OrderError"]
def isL : List String := ["Context"]
def xsL : List (String × String × Bool) := [("InvalidRows", "InvalidSize", false)]
abbrev hookL : PySem.W.Hook := hookY 5 (bnames.map He.Fa.free ++ (faC clsT ++ faL)) fnL (chkB ecL bsL isL xsL)
def obL (s : PySem.W.SharedT) : AlX := obsYG 5 (bnames.map He.Fa.free ++ (faC clsT ++ faL)) fnL (chkB ecL bsL isL xsL) (HandSHeadRun.getT s)
theorem obL_eq (s : PySem.W.SharedT) : obL s = hookL.obs s.abs := obsYG_eq (HandSHeadRun.getT_eq s)
theorem runL (w : World) : HandSHeadRun.RunEq rowL (PySem.W.view rowL.prog [38]) hookL obL 4000 looseL w := by
  intro os
  kernel_rfl
theorem tab_of {K : PySem.W.Frag} {h : Heap} {mg : MG} (X : K.In h) (N : h.Ns mainGlobals mg) (c : He.SaysD (bnames.map He.Fa.free ++ (faC clsT ++ faL)) fnL K) (cx : chkB ecL bsL isL xsL K = true) : Tab K mg where
  bs := bs_of X N c
  is_Context := isa_of X N c cx (List.mem_append_right _ (List.mem_append_right _ (List.mem_of_getElem? (l := faL) (i := 18) rfl))) (List.mem_append_right _ (List.mem_append_right _ (List.mem_of_getElem? (l := faL) (i := 22) rfl))) (by decide)
  x_InvalidRows_InvalidSize := exm_fact X N c cx (List.mem_append_right _ (List.mem_append_right _ (List.mem_of_getElem? (l := faL) (i := 35) rfl))) (List.mem_append_right _ (List.mem_append_right _ (List.mem_of_getElem? (l := faL) (i := 36) rfl))) (by decide)
  cl := clt_of X N c (fun f h => List.mem_append_right _ (List.mem_append_left _ h))
  g_MOST := gi_of X N c (List.mem_append_right _ (List.mem_append_right _ (List.mem_of_getElem? (l := faL) (i := 39) rfl)))
  b_OrderError := bc_of X N c (chk_ex cx) (List.mem_append_right _ (List.mem_append_right _ (List.mem_of_getElem? (l := faL) (i := 38) rfl))) (by decide)
  e_InvalidRows := ec_of X N c (chk_ex cx) 33 rfl (List.mem_append_right _ (List.mem_append_right _ (List.mem_of_getElem? (l := faL) (i := 35) rfl))) (by decide)
  e_InvalidSize := ec_of X N c (chk_ex cx) 34 rfl (List.mem_append_right _ (List.mem_append_right _ (List.mem_of_getElem? (l := faL) (i := 36) rfl))) (by decide)
  e_InvalidSubset := ec_of X N c (chk_ex cx) 35 rfl (List.mem_append_right _ (List.mem_append_right _ (List.mem_of_getElem? (l := faL) (i := 37) rfl))) (by decide)
  f_is_integer := fd_of X N c 0 rfl (List.mem_append_right _ (List.mem_append_right _ (List.mem_of_getElem? (l := faL) (i := 0) rfl)))
  f_is_between := fd_of X N c 1 rfl (List.mem_append_right _ (List.mem_append_right _ (List.mem_of_getElem? (l := faL) (i := 1) rfl)))
  f_is_tuple_of := fd_of X N c 2 rfl (List.mem_append_right _ (List.mem_append_right _ (List.mem_of_getElem? (l := faL) (i := 2) rfl)))
  f_is_rising := fd_of X N c 3 rfl (List.mem_append_right _ (List.mem_append_right _ (List.mem_of_getElem? (l := faL) (i := 3) rfl)))
  f_is_subset := fd_of X N c 4 rfl (List.mem_append_right _ (List.mem_append_right _ (List.mem_of_getElem? (l := faL) (i := 4) rfl)))
  f_mask_of := fd_of X N c 5 rfl (List.mem_append_right _ (List.mem_append_right _ (List.mem_of_getElem? (l := faL) (i := 5) rfl)))
  f_points_in := fd_of X N c 6 rfl (List.mem_append_right _ (List.mem_append_right _ (List.mem_of_getElem? (l := faL) (i := 6) rfl)))
  f_subset_of := fd_of X N c 7 rfl (List.mem_append_right _ (List.mem_append_right _ (List.mem_of_getElem? (l := faL) (i := 7) rfl)))
  f_shared_mask := fd_of X N c 8 rfl (List.mem_append_right _ (List.mem_append_right _ (List.mem_of_getElem? (l := faL) (i := 8) rfl)))
  f__law_cell := fd_of X N c 9 rfl (List.mem_append_right _ (List.mem_append_right _ (List.mem_of_getElem? (l := faL) (i := 9) rfl)))
  f__law_box := fd_of X N c 10 rfl (List.mem_append_right _ (List.mem_append_right _ (List.mem_of_getElem? (l := faL) (i := 10) rfl)))
  f__law_take := fd_of X N c 11 rfl (List.mem_append_right _ (List.mem_append_right _ (List.mem_of_getElem? (l := faL) (i := 11) rfl)))
  f__law_same := fd_of X N c 12 rfl (List.mem_append_right _ (List.mem_append_right _ (List.mem_of_getElem? (l := faL) (i := 12) rfl)))
  f__law_set := fd_of X N c 13 rfl (List.mem_append_right _ (List.mem_append_right _ (List.mem_of_getElem? (l := faL) (i := 13) rfl)))
  f__law_mixed := fd_of X N c 14 rfl (List.mem_append_right _ (List.mem_append_right _ (List.mem_of_getElem? (l := faL) (i := 14) rfl)))
  f__law_context := fd_of X N c 15 rfl (List.mem_append_right _ (List.mem_append_right _ (List.mem_of_getElem? (l := faL) (i := 15) rfl)))
  f__law_marks := fd_of X N c 16 rfl (List.mem_append_right _ (List.mem_append_right _ (List.mem_of_getElem? (l := faL) (i := 16) rfl)))
  f__law_things := fd_of X N c 17 rfl (List.mem_append_right _ (List.mem_append_right _ (List.mem_of_getElem? (l := faL) (i := 17) rfl)))
  f_Context___init__ := fi_of X N c 18 rfl (List.mem_append_right _ (List.mem_append_right _ (List.mem_of_getElem? (l := faL) (i := 18) rfl))) (List.mem_append_right _ (List.mem_append_right _ (List.mem_of_getElem? (l := faL) (i := 19) rfl)))
  f__law_made := fd_of X N c 19 rfl (List.mem_append_right _ (List.mem_append_right _ (List.mem_of_getElem? (l := faL) (i := 20) rfl)))
  f__law_caught := fd_of X N c 20 rfl (List.mem_append_right _ (List.mem_append_right _ (List.mem_of_getElem? (l := faL) (i := 21) rfl)))
  f_Context_things_at := fm_of X N c 21 rfl (List.mem_append_right _ (List.mem_append_right _ (List.mem_of_getElem? (l := faL) (i := 18) rfl))) (List.mem_append_right _ (List.mem_append_right _ (List.mem_of_getElem? (l := faL) (i := 22) rfl))) (List.mem_append_right _ (List.mem_append_right _ (List.mem_of_getElem? (l := faL) (i := 23) rfl)))
  f_Context_common_things := fm_of X N c 22 rfl (List.mem_append_right _ (List.mem_append_right _ (List.mem_of_getElem? (l := faL) (i := 18) rfl))) (List.mem_append_right _ (List.mem_append_right _ (List.mem_of_getElem? (l := faL) (i := 22) rfl))) (List.mem_append_right _ (List.mem_append_right _ (List.mem_of_getElem? (l := faL) (i := 24) rfl)))
  f_Context_marks_at := fm_of X N c 23 rfl (List.mem_append_right _ (List.mem_append_right _ (List.mem_of_getElem? (l := faL) (i := 18) rfl))) (List.mem_append_right _ (List.mem_append_right _ (List.mem_of_getElem? (l := faL) (i := 22) rfl))) (List.mem_append_right _ (List.mem_append_right _ (List.mem_of_getElem? (l := faL) (i := 25) rfl)))
  f_Context_common_marks := fm_of X N c 24 rfl (List.mem_append_right _ (List.mem_append_right _ (List.mem_of_getElem? (l := faL) (i := 18) rfl))) (List.mem_append_right _ (List.mem_append_right _ (List.mem_of_getElem? (l := faL) (i := 22) rfl))) (List.mem_append_right _ (List.mem_append_right _ (List.mem_of_getElem? (l := faL) (i := 26) rfl)))
  f__law_asked := fd_of X N c 25 rfl (List.mem_append_right _ (List.mem_append_right _ (List.mem_of_getElem? (l := faL) (i := 27) rfl)))
  f__law_common_right := fd_of X N c 26 rfl (List.mem_append_right _ (List.mem_append_right _ (List.mem_of_getElem? (l := faL) (i := 28) rfl)))
  f__law_sets_refused_right := fd_of X N c 27 rfl (List.mem_append_right _ (List.mem_append_right _ (List.mem_of_getElem? (l := faL) (i := 29) rfl)))
  f_Context___eq__ := fm_of X N c 28 rfl (List.mem_append_right _ (List.mem_append_right _ (List.mem_of_getElem? (l := faL) (i := 18) rfl))) (List.mem_append_right _ (List.mem_append_right _ (List.mem_of_getElem? (l := faL) (i := 22) rfl))) (List.mem_append_right _ (List.mem_append_right _ (List.mem_of_getElem? (l := faL) (i := 30) rfl)))
  f__law_equals_right := fd_of X N c 29 rfl (List.mem_append_right _ (List.mem_append_right _ (List.mem_of_getElem? (l := faL) (i := 31) rfl)))
  f__law_refused_right := fd_of X N c 30 rfl (List.mem_append_right _ (List.mem_append_right _ (List.mem_of_getElem? (l := faL) (i := 32) rfl)))
  f__law_right := fd_of X N c 31 rfl (List.mem_append_right _ (List.mem_append_right _ (List.mem_of_getElem? (l := faL) (i := 33) rfl)))
  f_law := fd_of X N c 32 rfl (List.mem_append_right _ (List.mem_append_right _ (List.mem_of_getElem? (l := faL) (i := 34) rfl)))
theorem walkL : ∀ (w : World) (mg : MG) (h : Heap), hookL.says w h → h.Ns mainGlobals mg → ∃ K : PySem.W.Frag, K.In h ∧ ∀ base : Heap, DF (PySem.Challenge.rw_orderbench_k45_contexts).prog w K mg base 16 "law" (topS 38) ["script"] s_law := by
  intro w mg h Y N
  obtain ⟨K, KX, c, cx⟩ := Y
  exact ⟨K, KX, fun base => df_law (tab_of KX N c cx)⟩
end G
open PySem PySem.W PySem.Calls PyProof.Rows
set_option maxHeartbeats 0
theorem PySem.Challenge.cw_orderbench_k45_contexts_holds : PySem.Challenge.rw_orderbench_k45_contexts.Holds := by
  w_on; o_law
  refine HandSHeadRun.head_any (r := OpenLaw.row PySem.Challenge.rw_orderbench_k45_contexts) (q := view (OpenLaw.row PySem.Challenge.rw_orderbench_k45_contexts).prog [38]) (H := G.hookL) (ob := G.obL) (M := 4000) (loose := G.looseL) (d := HandSHeadRun.topDef (OpenLaw.row PySem.Challenge.rw_orderbench_k45_contexts).prog 38) (kwd := []) G.obL_eq
    (by kernel_rfl) (fun s => by kernel_rfl) G.runL (by kernel_rfl) (by kernel_rfl) (by kernel_rfl) (by rfl) (by first | assumption | decide +kernel) (by decide +kernel) ⟨rfl, rfl, rfl, rfl, rfl, by decide +kernel⟩ ?hw ?hc
  case hw => w_witness2
  case hc => exact DL.walk_D (l := PySem.Challenge.rw_orderbench_k45_contexts) (n := 63) (k := 16) (x := "script") (nm := "law") (st := G.topS 38) (sem := G.s_law) rfl (by decide) (by kernel_rfl) ⟨rfl, by decide, by decide⟩ (by kernel_rfl) (fun _ _ _ _ _ _ us h => match us, h with | [_], _ => rfl) G.walkL G.law_ok
end
