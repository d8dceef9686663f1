import PyProof.Rows.All
import Wide.All
import OpenK.AllK
import Wide.FinOn
import KE.KStateDown
import Lean
import HandS.ForMost
import HandS.Exc
import HandS.WordsExc
import HandS.IsInst
import HandS.WideBits
import HandS.Conv
import HandS.Deep
import HandS.TupAny
import HandS.Style
import HandS.Flow
import HandS.SortInts
import HandS.NoneIn
import HandS.ExcOwn
import HandS.Defaults
import HandS.More
import HandS.Zip
import HandS.TupMul
import HandS.Ends
import HandS.Words
import HandS.Head0
import HandS.Head1
import HandS.Head2
import HandS.HeadEnd
import HandS.HeadHook1
import HandS.HeadHook2
import PySem.Challenge.RW_orderbench_k00_sets_and_masks
set_option Elab.async false
set_option linter.all false
set_option maxRecDepth 100000
section
namespace DL
open PySem PySem.Spec PyProof.Rows L2

/-! ### data without addresses -/
inductive D where
  | non | bl (b : Bool) | int (i : Int) | str (x : Str)
  | tup (l : List D) | lst (l : List D)
  | dct (l : List (Key × D))
  | obj (c : String) (l : List (String × D))
/-- what a name owns: a list that changes, an object that is being made -/
inductive Ct where
  | l (l : List D)
  | o (c : String) (fs : List (String × D))
inductive Sl where
  | no | sh (d : D) | ow (x : Ct) | io (x : Ct)
abbrev En := List Sl
inductive R (α : Type) where
  | ok (a : α) (e : En) | ex (c : String) (fs : List (String × D)) (e : En) | no
abbrev M (α : Type) := En → R α
def M.ret {α : Type} (a : α) : M α := fun e => .ok a e
def M.bnd {α β : Type} (m : M α) (f : α → M β) : M β := fun e => match m e with
  | .ok a e' => f a e'
  | .ex c fs e' => .ex c fs e'
  | .no => .no
inductive Ret where | sh (d : D) | ow (x : Ct)
def Ret.d : Ret → Option D
  | .sh d => some d
  | .ow (.l l) => some (.lst l)
  | .ow (.o c fs) => some (.obj c fs)
abbrev FS := List Sl → R Ret
inductive Fl where | nx | bk | ct | rt (r : Ret)

/-! ### what a value stands for -/
abbrev MG := Str → Option Value
/-- a list that is there for good: tracked, or of the module's own part (the script may be) -/
def LsT (K : PySem.W.Frag) (G : Hp) (a : Addr) (vs : List V) : Prop := Rd G a (.lst vs) ∨ ∃ (us : List Value) (n : Nat), K.lookup a = some { cls := .type "list", data := .seq us.toArray n } ∧ us.length ≤ sizeLine ∧ Vals vs us
theorem LsT.sq {K : PySem.W.Frag} {G : Hp} {a : Addr} {vs : List V} (h : LsT K G a vs) : SqL K G a vs := by
  rcases h with h | ⟨us, n, h1, h2, h3⟩
  · exact .inl h
  · exact .inr ⟨_, us.toArray, n, h1, rfl, rfl, rfl, by simpa using h2, by simpa using h3⟩
inductive Rep (K : PySem.W.Frag) (mg : MG) (G : Hp) : V → D → Prop where
  | non : Rep K mg G .non .non
  | bl (b : Bool) : Rep K mg G (.bl b) (.bl b)
  | int (i : Int) : Rep K mg G (.int i) (.int i)
  | str (x : Str) : Rep K mg G (.str x) (.str x)
  | tup {a : Addr} {vs : List V} {l : List D} : SqT K G a vs → vs.length = l.length → (∀ (i : Nat) v d, vs[i]? = some v → l[i]? = some d → Rep K mg G v d) → Rep K mg G (.ref a) (.tup l)
  | lst {a : Addr} {vs : List V} {l : List D} : LsT K G a vs → vs.length = l.length → (∀ (i : Nat) v d, vs[i]? = some v → l[i]? = some d → Rep K mg G v d) → Rep K mg G (.ref a) (.lst l)
  | dct {a : Addr} {kvs : List (Key × V)} {l : List (Key × D)} : G a = some (.dK kvs) → kvs.length = l.length → (∀ (i : Nat) kv kd, kvs[i]? = some kv → l[i]? = some kd → kv.1 = kd.1) →
      (∀ (i : Nat) kv kd, kvs[i]? = some kv → l[i]? = some kd → Rep K mg G kv.2 kd.2) → Rep K mg G (.ref a) (.dct l)
  | obj {a C dx : Addr} {fs : List (Str × V)} {c : String} {l : List (String × D)} (vf : String → V) : G a = some (.ins C dx fs) → mg (Str.ofString c) = some (.ref C) →
      (∀ f d, l.lookup f = some d → fs.lookup (Str.ofString f) = some (vf f)) → (∀ f d, l.lookup f = some d → Rep K mg G (vf f) d) → (∀ f, l.lookup f = none → fs.lookup (Str.ofString f) = none) → Rep K mg G (.ref a) (.obj c l)
def Reps (K : PySem.W.Frag) (mg : MG) (G : Hp) (vs : List V) (l : List D) : Prop := vs.length = l.length ∧ ∀ (i : Nat) v d, vs[i]? = some v → l[i]? = some d → Rep K mg G v d

theorem Same.seqT {K : PySem.W.Frag} {H H' : Hp} {a : Addr} {xs : List V} (e : Same H H') (h : SqT K H a xs) : SqT K H' a xs := by
  rcases h with (h | ⟨o, h⟩) | h
  · exact .inl (.inl (e _ _ h))
  · exact .inl (.inr ⟨o, e _ _ h⟩)
  · exact .inr h
theorem Same.rd {H H' : Hp} {a : Addr} {u : HO} (e : Same H H') (h : Rd H a u) : Rd H' a u := by
  rcases h with h | ⟨o, h⟩
  · exact .inl (e _ _ h)
  · exact .inr ⟨o, e _ _ h⟩
theorem Same.ls {K : PySem.W.Frag} {H H' : Hp} {a : Addr} {vs : List V} (e : Same H H') (h : LsT K H a vs) : LsT K H' a vs := by
  rcases h with h | h
  · exact .inl (Same.rd e h)
  · exact .inr h
section
variable {K : PySem.W.Frag} {mg : MG} {G G' : Hp}
theorem Rep.mono (e : Same G G') : ∀ {v : V} {d : D}, Rep K mg G v d → Rep K mg G' v d := by
  intro v d h
  induction h with
  | non => exact .non
  | bl b => exact .bl b
  | int i => exact .int i
  | str x => exact .str x
  | tup h1 h2 _ ih => exact .tup (Same.seqT e h1) h2 ih
  | lst h1 h2 _ ih => exact .lst (Same.ls e h1) h2 ih
  | dct h1 h2 h3 _ ih => exact .dct (e _ _ h1) h2 h3 ih
  | obj vf h1 h2 h3 _ h5 ih => exact .obj vf (e _ _ h1) h2 h3 ih h5
theorem Reps.mono (e : Same G G') {vs : List V} {l : List D} (h : Reps K mg G vs l) : Reps K mg G' vs l := ⟨h.1, fun i v d a b => (h.2 i v d a b).mono e⟩
theorem Reps.nil : Reps K mg G [] [] := ⟨rfl, fun _ _ _ h => by simp at h⟩
theorem Reps.cons {v : V} {d : D} {vs : List V} {l : List D} (h : Rep K mg G v d) (t : Reps K mg G vs l) : Reps K mg G (v :: vs) (d :: l) := ⟨by simp [t.1], fun i v' d' a b => by
  cases i with
  | zero => simp at a b; subst a b; exact h
  | succ i => exact t.2 i v' d' (by simpa using a) (by simpa using b)⟩
theorem Reps.append {vs ws : List V} {l m : List D} (h : Reps K mg G vs l) (t : Reps K mg G ws m) : Reps K mg G (vs ++ ws) (l ++ m) := ⟨by simp [h.1, t.1], fun i v d a b => by
  by_cases hi : i < vs.length
  · rw [List.getElem?_append_left hi] at a
    rw [List.getElem?_append_left (by rw [← h.1]; exact hi)] at b
    exact h.2 i v d a b
  · rw [List.getElem?_append_right (by omega)] at a
    rw [List.getElem?_append_right (by rw [← h.1]; omega)] at b
    rw [← h.1] at b
    exact t.2 _ v d a b⟩
theorem Reps.one {v : V} {d : D} (h : Rep K mg G v d) : Reps K mg G [v] [d] := .cons h .nil
theorem Reps.get {vs : List V} {l : List D} (h : Reps K mg G vs l) {i : Nat} {d : D} (e : l[i]? = some d) : ∃ v, vs[i]? = some v ∧ Rep K mg G v d := by
  obtain ⟨hi, _⟩ := List.getElem?_eq_some_iff.mp e
  have hv : i < vs.length := by rw [h.1]; exact hi
  exact ⟨vs[i], List.getElem?_eq_getElem hv, h.2 i _ d (List.getElem?_eq_getElem hv) e⟩
theorem Reps.get' {vs : List V} {l : List D} (h : Reps K mg G vs l) {i : Nat} {v : V} (e : vs[i]? = some v) : ∃ d, l[i]? = some d ∧ Rep K mg G v d := by
  obtain ⟨hi, _⟩ := List.getElem?_eq_some_iff.mp e
  have hv : i < l.length := by rw [← h.1]; exact hi
  exact ⟨l[i], List.getElem?_eq_getElem hv, h.2 i v _ e (List.getElem?_eq_getElem hv)⟩
theorem Reps.set {vs : List V} {l : List D} (h : Reps K mg G vs l) {v : V} {d : D} (r : Rep K mg G v d) (i : Nat) : Reps K mg G (vs.set i v) (l.set i d) := ⟨by simp [h.1], fun j v' d' a b => by
  by_cases hj : i = j
  · subst hj
    have h1 : i < vs.length := by
      obtain ⟨q, _⟩ := List.getElem?_eq_some_iff.mp a
      simpa using q
    rw [List.getElem?_set_self h1] at a
    rw [List.getElem?_set_self (by rw [← h.1]; exact h1)] at b
    cases a; cases b; exact r
  · rw [List.getElem?_set_ne hj] at a b
    exact h.2 j v' d' a b⟩
theorem Rep.ref_tup {v : V} {l : List D} (h : Rep K mg G v (.tup l)) : ∃ a vs, v = .ref a ∧ SqT K G a vs ∧ Reps K mg G vs l := by
  cases h with
  | tup h1 h2 h3 => exact ⟨_, _, rfl, h1, h2, h3⟩
theorem Rep.ref_lst {v : V} {l : List D} (h : Rep K mg G v (.lst l)) : ∃ a vs, v = .ref a ∧ LsT K G a vs ∧ Reps K mg G vs l := by
  cases h with
  | lst h1 h2 h3 => exact ⟨_, _, rfl, h1, h2, h3⟩
theorem Rep.mk_tup {a : Addr} {vs : List V} {l : List D} (h : SqT K G a vs) (r : Reps K mg G vs l) : Rep K mg G (.ref a) (.tup l) := .tup h r.1 r.2
theorem Rep.mk_lst {a : Addr} {vs : List V} {l : List D} (h : LsT K G a vs) (r : Reps K mg G vs l) : Rep K mg G (.ref a) (.lst l) := .lst h r.1 r.2
end

/-- what is owned at a -/
def CtR (K : PySem.W.Frag) (mg : MG) (G H : Hp) (a : Addr) : Ct → Prop
  | .l l => ∃ vs, H a = some (.lst vs) ∧ Reps K mg G vs l
  | .o c fs => ∃ C dx ws, H a = some (.ins C dx ws) ∧ H dx = some (.own a) ∧ G dx = none ∧ mg (Str.ofString c) = some (.ref C) ∧ ws.length ≤ fs.length ∧
      ∃ vf : String → V, (∀ f d, fs.lookup f = some d → ws.lookup (Str.ofString f) = some (vf f) ∧ Rep K mg G (vf f) d) ∧ ∀ f, fs.lookup f = none → ws.lookup (Str.ofString f) = none
def Sl.own : Sl → Option Ct
  | .ow x => some x
  | .io x => some x
  | _ => none
/-- what stays through a def: ia the addresses of the parameters that it may change (O0), G0 and H0 the worlds at its entry, F cells that are kept as they are -/
structure Pm where
  ia : Nat → Addr
  G0 : Hp
  H0 : Hp
  O0 : Nat → Prop
  F : Hp
/-- the state: the values' world G, the names' slots -/
structure Sr (K : PySem.W.Frag) (mg : MG) (p : Pm) (G : Hp) (σ : L2.St) (H : Hp) (e : En) : Prop where
  sub : Same G H
  len : σ.length = e.length
  sh : ∀ (i : Nat) d, e[i]? = some (.sh d) → ∃ v, σ[i]? = some (some v) ∧ Rep K mg G v d
  ow : ∀ (i : Nat) s x, e[i]? = some s → s.own = some x → ∃ a, σ[i]? = some (some (.ref a)) ∧ G a = none ∧ CtR K mg G H a x
  io : ∀ (i : Nat) x, e[i]? = some (.io x) → σ[i]? = some (some (.ref (p.ia i))) ∧ p.O0 i
  ap : ∀ (i j : Nat) s t x y a, e[i]? = some s → e[j]? = some t → s.own = some x → t.own = some y → σ[i]? = some (some (.ref a)) → σ[j]? = some (some (.ref a)) → i = j
  fr : ∀ a o, p.H0 a = some o → (∀ i, p.O0 i → p.ia i ≠ a) → H a = some o
  nw : ∀ a o, G a = some o → p.G0 a = some o ∨ p.H0 a = none
  of : ∀ (i : Nat) x a, e[i]? = some (.ow x) → σ[i]? = some (some (.ref a)) → p.H0 a = none
  dm : ∀ a, H a = none → p.H0 a = none
  kp : ∀ a o, p.F a = some o → H a = some o ∧ G a = none
  ka : ∀ (i : Nat) s x a, e[i]? = some s → s.own = some x → σ[i]? = some (some (.ref a)) → p.F a = none
abbrev Srp := Sr
/-- an error's own dict -/
def Xr (K : PySem.W.Frag) (mg : MG) (G H : Hp) (d : Addr) (fs : List (String × D)) : Prop :=
  ∃ ws : List (Str × V), H d = some (.xd ws) ∧ ∀ f x, fs.lookup f = some x → ∃ v, ws.lookup (Str.ofString f) = some v ∧ Rep K mg G v x
/-- what is to hold behind an expression, by its meaning -/
def Wp {α : Type} (K : PySem.W.Frag) (mg : MG) (W : WX) (p : Pm) (G : Hp) (σ : L2.St) (r : R α) (k : α → Hp → Hp → En → Prop) : Prop := match r with
  | .ok a e => ∀ G' H', Same G G' → Srp K mg p G' σ H' e → k a G' H' e
  | .ex c fs e => ∀ G' H' C d, Same G G' → Srp K mg p G' σ H' e → mg (Str.ofString c) = some (.ref C) → Xr K mg G' H' d fs → W (.ref C) (some d) σ H'
  | .no => False
/-- .. a statement -/
def RetK (K : PySem.W.Frag) (mg : MG) (p : Pm) (G : Hp) (σ : L2.St) (H : Hp) (e : En) (Q : VK) : Ret → Prop
  | .sh d => ∀ v, Rep K mg G v d → Q v H
  | .ow x => ∀ a : Addr, G a = none → CtR K mg G H a x → p.H0 a = none → p.F a = none → (∀ (i : Nat) s y, e[i]? = some s → s.own = some y → σ[i]? ≠ some (some (V.ref a))) → Q (.ref a) H
def Ws (K : PySem.W.Frag) (mg : MG) (W : WX) (p : Pm) (G : Hp) (r : R Fl) (E : Ends) : Prop := match r with
  | .ok fl e => ∀ G' σ' H', Same G G' → Srp K mg p G' σ' H' e → (match fl with
    | .nx => E.nx σ' H'
    | .bk => E.bk σ' H'
    | .ct => E.ct σ' H'
    | .rt r => RetK K mg p G' σ' H' e E.rt r)
  | .ex c fs e => ∀ G' σ' H' C d, Same G G' → Srp K mg p G' σ' H' e → mg (Str.ofString c) = some (.ref C) → Xr K mg G' H' d fs → W (.ref C) (some d) σ' H'
  | .no => False
section
variable {K : PySem.W.Frag} {mg : MG} {W : WX} {p : Pm} {G G' : Hp} {σ : L2.St} {α β : Type}
theorem Wp.mono {r : R α} {k k' : α → Hp → Hp → En → Prop} (h : Wp K mg W p G σ r k) (hk : ∀ a G' H' e, Same G G' → Srp K mg p G' σ H' e → k a G' H' e → k' a G' H' e) : Wp K mg W p G σ r k' := by
  cases r with
  | ok a e => exact fun G' H' s z => hk a G' H' e s z (h G' H' s z)
  | ex c fs e => exact h
  | no => exact h
theorem Wp.up {r : R α} {k : α → Hp → Hp → En → Prop} (h : Wp K mg W p G σ r k) (s : Same G G') : Wp K mg W p G' σ r k := by
  cases r with
  | ok a e => exact fun G2 H2 s2 z => h G2 H2 (s.trans s2) z
  | ex c fs e => exact fun G2 H2 C d s2 z => h G2 H2 C d (s.trans s2) z
  | no => exact h
theorem Wp.bnd {m : M α} {f : α → M β} {e : En} {k : β → Hp → Hp → En → Prop} (h : Wp K mg W p G σ (M.bnd m f e) k) :
    Wp K mg W p G σ (m e) fun a G' H' e' => Wp K mg W p G' σ (f a e') k := by
  unfold M.bnd at h
  cases r : m e with
  | ok a e' => rw [r] at h; exact fun G' H' s z => Wp.up h s
  | ex c fs e' => rw [r] at h; exact h
  | no => rw [r] at h; exact h
theorem Ws.up {r : R Fl} {E : Ends} (h : Ws K mg W p G r E) (s : Same G G') : Ws K mg W p G' r E := by
  cases r with
  | ok a e => exact fun G2 σ2 H2 s2 z => h G2 σ2 H2 (s.trans s2) z
  | ex c fs e => exact fun G2 σ2 H2 C d s2 z => h G2 σ2 H2 C d (s.trans s2) z
  | no => exact h
/-- an expression's meaning, then a statement's -/
theorem Ws.bnd {m : M α} {f : α → M Fl} {e : En} {E : Ends} (h : Ws K mg W p G (M.bnd m f e) E) : Wp K mg W p G σ (m e) fun a G' H' e' => Ws K mg W p G' (f a e') E := by
  unfold M.bnd at h
  cases r : m e with
  | ok a e' => rw [r] at h; exact fun G' H' s z => Ws.up h s
  | ex c fs e' => rw [r] at h; exact fun G' H' C d => h G' σ H' C d
  | no => rw [r] at h; exact h
end

/-! ### contexts -/
/-- what is known of where one stands -/
structure CI where
  P : Program
  w : World
  K : PySem.W.Frag
  mg : MG
  base : Heap
  N : List Str
  sc : Scope
  fn : Str → Bool
  k : Nat
structure Okx (I : CI) (W : WX) (X : Cx) : Prop where
  hP : X.prog = I.P
  hw : X.w = I.w
  hK : X.K = I.K
  hmg : X.mg = I.mg
  hbase : X.base = I.base
  hN : X.N = I.N
  hsc : X.env.scope = I.sc
  hfn : X.fn = I.fn
  nd : I.N.Nodup
  calm : X.calm = true
  room : Room I.k X.A
  takes : Takes X W
  passes : PassesOwn (model X.prog X.w) X.A X.env X.xe
/-! ### meanings simulate readings -/
def SimE (I : CI) (W : WX) (t : TE) (m : M D) : Prop := ∀ (p : Pm) G σ H e (Q : VK), Srp I.K I.mg p G σ H e → Wp I.K I.mg W p G σ (m e) (fun d G' H' _ => ∀ v, Rep I.K I.mg G' v d → Q v H') → t σ H Q
def SimT (I : CI) (W : WX) (t : TT) (m : M Bool) : Prop := ∀ (p : Pm) G σ H e (Q : Bool → Hp → Prop), Srp I.K I.mg p G σ H e → Wp I.K I.mg W p G σ (m e) (fun b _ H' _ => Q b H') → t σ H Q
def SimA (I : CI) (W : WX) (t : TA) (m : M (List D)) : Prop := ∀ (p : Pm) G σ H e (Q : List V → Hp → Prop), Srp I.K I.mg p G σ H e → Wp I.K I.mg W p G σ (m e) (fun ds G' H' _ => ∀ vs, Reps I.K I.mg G' vs ds → Q vs H') → t σ H Q
/-- a result: a value, or a new thing that nobody else holds -/
def SimR (I : CI) (W : WX) (t : TE) (m : M Ret) : Prop := ∀ (p : Pm) G σ H e (Q : VK), Srp I.K I.mg p G σ H e → Wp I.K I.mg W p G σ (m e) (fun r G' H' e' => RetK I.K I.mg p G' σ H' e' Q r) → t σ H Q
def SimS (I : CI) (W : WX) (t : TS) (m : M Fl) : Prop := ∀ (p : Pm) G σ H e (E : Ends), Srp I.K I.mg p G σ H e → Ws I.K I.mg W p G (m e) E → t E σ H
def DE (I : CI) (W : WX) (e : Expr) (m : M D) : Prop := ∃ t, (∀ X, Okx I W X → PE X e t) ∧ SimE I W t m
def DT (I : CI) (W : WX) (e : Expr) (m : M Bool) : Prop := ∃ t, (∀ X, Okx I W X → PT X e t) ∧ SimT I W t m
def DA (I : CI) (W : WX) (es : List Expr) (m : M (List D)) : Prop := ∃ t, (∀ X, Okx I W X → PA X es t) ∧ SimA I W t m
def DR (I : CI) (W : WX) (e : Expr) (m : M Ret) : Prop := ∃ t, (∀ X, Okx I W X → PE X e t) ∧ SimR I W t m
def DS (I : CI) (W : WX) (st : Stmt) (m : M Fl) : Prop := ∃ t, (∀ X, Okx I W X → PS X st t) ∧ SimS I W t m
def DSs (I : CI) (W : WX) (sts : List Stmt) (m : M Fl) : Prop := ∃ t, (∀ X, Okx I W X → PSs X sts t) ∧ SimS I W t m
end DL
end

section
namespace DL
open PySem PySem.Spec L2
open PyProof.Rows hiding St

def Ct.d : Ct → D
  | .l ys => .lst ys
  | .o c fs => .obj c fs
def Sl.put (x : Ct) : Sl → Sl
  | .ow _ => .ow x
  | .io _ => .io x
  | s => s
def Sl.isIo : Sl → Bool
  | .io _ => true
  | _ => false
theorem Sl.put_own {x y : Ct} : ∀ {s : Sl}, s.own = some y → (s.put x).own = some x
  | .ow _, _ => rfl
  | .io _, _ => rfl
  | .no, h => nomatch h
  | .sh _, h => nomatch h
section
variable {K : PySem.W.Frag} {mg : MG} {p : Pm} {G G' H H' : Hp} {σ : L2.St} {e : En} {a b : Addr} {x y : Ct}

theorem CtR.at (h : CtR K mg G H a x) : ∃ o, H a = some o ∧ (∀ c, o ≠ .own c) := by
  cases x with
  | l l => obtain ⟨vs, h, _⟩ := h; exact ⟨_, h, fun _ z => nomatch z⟩
  | o c fs => obtain ⟨C, dx, ws, h, _⟩ := h; exact ⟨_, h, fun _ z => nomatch z⟩
/-- other cells may change -/
theorem CtR.keep (h : CtR K mg G H a x) (k : ∀ b o, H b = some o → (b = a ∨ o = .own a) → H' b = some o) : CtR K mg G H' a x := by
  cases x with
  | l l => obtain ⟨vs, h, r⟩ := h; exact ⟨vs, k _ _ h (.inl rfl), r⟩
  | o c fs =>
    obtain ⟨C, dx, ws, h, h2, r⟩ := h
    exact ⟨C, dx, ws, k _ _ h (.inl rfl), k _ _ h2 (.inr rfl), r⟩
theorem CtR.mono (h : CtR K mg G H a x) (s : Same G G') (n : ∀ b, H b = some (.own a) → G b = none → G' b = none) : CtR K mg G' H a x := by
  cases x with
  | l l => obtain ⟨vs, h, r⟩ := h; exact ⟨vs, h, r.mono s⟩
  | o c fs =>
    obtain ⟨C, dx, ws, h, h2, h3, h4, h5, vf, h6, h7⟩ := h
    exact ⟨C, dx, ws, h, h2, n _ h2 h3, h4, h5, vf, fun f d q => ⟨(h6 f d q).1, (h6 f d q).2.mono s⟩, h7⟩
/-- a new thing is given up to all -/
theorem Sr.freeze (S : Srp K mg p G σ H e) (ga : G a = none) (c : CtR K mg G H a x) (h0 : p.H0 a = none) (hF : p.F a = none) (ap : ∀ (i : Nat) s y, e[i]? = some s → s.own = some y → σ[i]? ≠ some (some (V.ref a))) :
    ∃ G', Same G G' ∧ Srp K mg p G' σ H e ∧ Rep K mg G' (.ref a) x.d := by
  obtain ⟨o, ho, no⟩ := c.at
  have s : Same G (upd G a o) := fun b u q => by
    rw [upd_ne (fun z => by rw [z, ga] at q; cases q)]
    exact q
  refine ⟨upd G a o, s, ⟨?_, S.len, ?_, ?_, S.io, S.ap, S.fr, ?_, S.of, S.dm, fun b u q => ⟨(S.kp b u q).1, by rw [upd_ne (fun z => by rw [z, hF] at q; cases q)]; exact (S.kp b u q).2⟩, S.ka⟩, ?_⟩
  · intro b u q
    by_cases hb : b = a
    · subst hb; rw [upd_same] at q; cases q; exact ho
    · rw [upd_ne hb] at q; exact S.sub _ _ q
  · intro i d q
    obtain ⟨v, h1, h2⟩ := S.sh i d q
    exact ⟨v, h1, h2.mono s⟩
  · intro i t y q1 q2
    obtain ⟨a2, h1, h2, h3⟩ := S.ow i t y q1 q2
    have ne : a2 ≠ a := fun z => ap i t y q1 q2 (by rw [h1, z])
    refine ⟨a2, h1, by rw [upd_ne ne]; exact h2, h3.mono s fun b hb gb => ?_⟩
    by_cases z : b = a
    · subst z; rw [ho] at hb; cases hb; exact absurd rfl (no a2)
    · rw [upd_ne z]; exact gb
  · intro b u q
    by_cases hb : b = a
    · subst hb; exact .inr h0
    · rw [upd_ne hb] at q; exact S.nw _ _ q
  · cases x with
    | l l =>
      obtain ⟨vs, h, r⟩ := c
      rw [ho] at h; cases h
      exact .mk_lst (.inl (.inl upd_same)) (r.mono s)
    | o c fs =>
      obtain ⟨C, dx, ws, h, h2, h3, h4, h5, vf, h6, h7⟩ := c
      rw [ho] at h; cases h
      exact .obj vf upd_same h4 (fun f d q => (h6 f d q).1) (fun f d q => (h6 f d q).2.mono s) h7
theorem Sr.lt (S : Srp K mg p G σ H e) {i : Nat} {s : Sl} (h : e[i]? = some s) : i < σ.length := by
  obtain ⟨q, _⟩ := List.getElem?_eq_some_iff.mp h
  rw [S.len]; exact q
/-- a slot that is no parameter's own is stored anew -/
theorem Sr.setSh (S : Srp K mg p G σ H e) {i : Nat} {v : V} {d : D} (r : Rep K mg G v d) (hi : i < e.length) (io : ∀ x, e[i]? ≠ some (.io x)) : Srp K mg p G (σ.set i (some v)) H (e.set i (.sh d)) := by
  have hl : i < σ.length := by rw [S.len]; exact hi
  refine ⟨S.sub, by simp [S.len], ?_, ?_, ?_, ?_, S.fr, S.nw, ?_, S.dm, S.kp, fun j t y a q1 q2 q3 => ?_⟩
  · intro j d' q
    by_cases hj : i = j
    · subst hj
      rw [List.getElem?_set_self hi] at q; cases q
      exact ⟨v, List.getElem?_set_self hl, r⟩
    · rw [List.getElem?_set_ne hj] at q
      rw [List.getElem?_set_ne hj]
      exact S.sh j d' q
  · intro j t y q1 q2
    by_cases hj : i = j
    · subst hj
      rw [List.getElem?_set_self hi] at q1; cases q1; cases q2
    · rw [List.getElem?_set_ne hj] at q1
      rw [List.getElem?_set_ne hj]
      exact S.ow j t y q1 q2
  · intro j y q1
    by_cases hj : i = j
    · subst hj
      rw [List.getElem?_set_self hi] at q1; cases q1
    · rw [List.getElem?_set_ne hj] at q1
      rw [List.getElem?_set_ne hj]
      exact S.io j y q1
  · intro j k s t y z a h1 h2 h3 h4 h5 h6
    by_cases hj : i = j
    · subst hj
      rw [List.getElem?_set_self hi] at h1; cases h1; cases h3
    · by_cases hk : i = k
      · subst hk
        rw [List.getElem?_set_self hi] at h2; cases h2; cases h4
      · rw [List.getElem?_set_ne hj] at h1 h5
        rw [List.getElem?_set_ne hk] at h2 h6
        exact S.ap j k s t y z a h1 h2 h3 h4 h5 h6
  · intro j y a q1 q2
    by_cases hj : i = j
    · subst hj
      rw [List.getElem?_set_self hi] at q1; cases q1
    · rw [List.getElem?_set_ne hj] at q1 q2
      exact S.of j y a q1 q2
  · by_cases hj : i = j
    · subst hj
      rw [List.getElem?_set_self hi] at q1; cases q1; cases q2
    · rw [List.getElem?_set_ne hj] at q1 q3
      exact S.ka j t y a q1 q2 q3
theorem Sr.setOw (S : Srp K mg p G σ H e) {i : Nat} (ga : G a = none) (c : CtR K mg G H a x) (h0 : p.H0 a = none) (hF : p.F a = none) (ap : ∀ (i : Nat) s y, e[i]? = some s → s.own = some y → σ[i]? ≠ some (some (V.ref a)))
    (hi : i < e.length) (io : ∀ x, e[i]? ≠ some (.io x)) : Srp K mg p G (σ.set i (some (.ref a))) H (e.set i (.ow x)) := by
  have hl : i < σ.length := by rw [S.len]; exact hi
  refine ⟨S.sub, by simp [S.len], ?_, ?_, ?_, ?_, S.fr, S.nw, ?_, S.dm, S.kp, fun j t y a' q1 q2 q3 => ?_⟩
  · intro j d' q
    by_cases hj : i = j
    · subst hj
      rw [List.getElem?_set_self hi] at q; cases q
    · rw [List.getElem?_set_ne hj] at q
      rw [List.getElem?_set_ne hj]
      exact S.sh j d' q
  · intro j t y q1 q2
    by_cases hj : i = j
    · subst hj
      rw [List.getElem?_set_self hi] at q1; cases q1; cases q2
      exact ⟨a, List.getElem?_set_self hl, ga, c⟩
    · rw [List.getElem?_set_ne hj] at q1
      rw [List.getElem?_set_ne hj]
      exact S.ow j t y q1 q2
  · intro j y q1
    by_cases hj : i = j
    · subst hj
      rw [List.getElem?_set_self hi] at q1; cases q1
    · rw [List.getElem?_set_ne hj] at q1
      rw [List.getElem?_set_ne hj]
      exact S.io j y q1
  · intro j k s t y z a' h1 h2 h3 h4 h5 h6
    by_cases hj : i = j
    · by_cases hk : i = k
      · rw [← hj, ← hk]
      · subst hj
        rw [List.getElem?_set_self hl] at h5; cases h5
        rw [List.getElem?_set_ne hk] at h2 h6
        exact absurd h6 (ap k t z h2 h4)
    · by_cases hk : i = k
      · subst hk
        rw [List.getElem?_set_self hl] at h6; cases h6
        rw [List.getElem?_set_ne hj] at h1 h5
        exact absurd h5 (ap j s y h1 h3)
      · rw [List.getElem?_set_ne hj] at h1 h5
        rw [List.getElem?_set_ne hk] at h2 h6
        exact S.ap j k s t y z a' h1 h2 h3 h4 h5 h6
  · intro j y a' q1 q2
    by_cases hj : i = j
    · subst hj
      rw [List.getElem?_set_self hl] at q2; cases q2
      exact h0
    · rw [List.getElem?_set_ne hj] at q1 q2
      exact S.of j y a' q1 q2
  · by_cases hj : i = j
    · subst hj
      rw [List.getElem?_set_self hl] at q3; cases q3
      exact hF
    · rw [List.getElem?_set_ne hj] at q1 q3
      exact S.ka j t y a' q1 q2 q3
/-- a slot's meaning is forgotten -/
theorem Sr.drop (S : Srp K mg p G σ H e) (i : Nat) : Srp K mg p G σ H (e.set i .no) := by
  have no : ∀ {j : Nat} {s : Sl}, (e.set i .no)[j]? = some s → s = .no ∨ e[j]? = some s := fun {j s} q => by
    by_cases hj : i = j
    · subst hj
      by_cases hi : i < e.length
      · rw [List.getElem?_set_self hi] at q; cases q; exact .inl rfl
      · rw [List.getElem?_eq_none (by simpa using hi)] at q; cases q
    · rw [List.getElem?_set_ne hj] at q; exact .inr q
  refine ⟨S.sub, by simp [S.len], ?_, ?_, ?_, ?_, S.fr, S.nw, ?_, S.dm, S.kp, fun j t y a q1 q2 q3 => (no q1).elim (fun z => by subst z; cases q2) fun z => S.ka j t y a z q2 q3⟩
  · intro j d q
    rcases no q with z | z
    · cases z
    · exact S.sh j d z
  · intro j t y q1 q2
    rcases no q1 with z | z
    · subst z; cases q2
    · exact S.ow j t y z q2
  · intro j y q1
    rcases no q1 with z | z
    · cases z
    · exact S.io j y z
  · intro j k s t y z a h1 h2 h3 h4 h5 h6
    rcases no h1 with z1 | z1
    · subst z1; cases h3
    · rcases no h2 with z2 | z2
      · subst z2; cases h4
      · exact S.ap j k s t y z a z1 z2 h3 h4 h5 h6
  · intro j y a q1 q2
    rcases no q1 with z | z
    · cases z
    · exact S.of j y a z q2
/-- an own slot's thing is given up -/
theorem Sr.freezeSlot (S : Srp K mg p G σ H e) {i : Nat} (h : e[i]? = some (.ow x)) : ∃ a G', σ[i]? = some (some (.ref a)) ∧ Same G G' ∧ Srp K mg p G' σ H (e.set i (.sh x.d)) ∧ Rep K mg G' (.ref a) x.d := by
  obtain ⟨a, h1, h2, h3⟩ := S.ow i _ x h rfl
  have io : ∀ y, e[i]? ≠ some (.io y) := fun y z => by rw [h] at z; cases z
  obtain ⟨hi, _⟩ := List.getElem?_eq_some_iff.mp h
  have hl : i < σ.length := by rw [S.len]; exact hi
  have S1 := S.drop i
  obtain ⟨G', s, S2, r⟩ := S1.freeze (a := a) h2 h3 (S.of i x a h h1) (S.ka i _ x a h rfl h1) (fun j s y q1 q2 z => by
    by_cases hj : i = j
    · subst hj
      rw [List.getElem?_set_self hi] at q1; cases q1; cases q2
    · rw [List.getElem?_set_ne hj] at q1
      exact hj (S.ap i j _ s x y a h q1 rfl q2 h1 z))
  refine ⟨a, G', h1, s, ?_, r⟩
  have S3 := S2.setSh (i := i) r (by simpa using hi) (fun y z => by rw [List.getElem?_set_self hi] at z; cases z)
  have e1 : σ.set i (some (.ref a)) = σ := by
    obtain ⟨_, q⟩ := List.getElem?_eq_some_iff.mp h1
    rw [← q]
    exact List.set_getElem_self _
  rw [e1, List.set_set] at S3
  exact S3
/-- a new object for all -/
theorem Sr.laid (S : Srp K mg p G σ H e) {q : Addr} {o : HO} (n : H q = none) : Same G (upd G q o) ∧ Srp K mg p (upd G q o) σ (upd H q o) e := by
  have gn : G q = none := by
    cases z : G q with
    | none => rfl
    | some u => rw [S.sub _ _ z] at n; cases n
  have s : Same G (upd G q o) := fun b u z => by
    rw [upd_ne (fun y => by rw [y, gn] at z; cases z)]
    exact z
  have kp : ∀ b u, H b = some u → upd H q o b = some u := fun b u z => by
    rw [upd_ne (fun y => by rw [y, n] at z; cases z)]
    exact z
  refine ⟨s, ⟨?_, S.len, ?_, ?_, S.io, S.ap, fun a u h1 h2 => kp _ _ (S.fr a u h1 h2), ?_, S.of, ?_, fun b u z => ⟨kp _ _ (S.kp b u z).1, by rw [upd_ne (fun y => by rw [y] at z; have := (S.kp _ _ z).1; rw [n] at this; cases this)]; exact (S.kp b u z).2⟩, S.ka⟩⟩
  · intro b u z
    by_cases hb : b = q
    · subst hb; rw [upd_same] at z ⊢; exact z
    · rw [upd_ne hb] at z ⊢; exact S.sub _ _ z
  · intro i d z
    obtain ⟨v, h1, h2⟩ := S.sh i d z
    exact ⟨v, h1, h2.mono s⟩
  · intro i t y q1 q2
    obtain ⟨a2, h1, h2, h3⟩ := S.ow i t y q1 q2
    obtain ⟨u, hu, _⟩ := h3.at
    have ne : a2 ≠ q := fun z => by rw [z, n] at hu; cases hu
    refine ⟨a2, h1, by rw [upd_ne ne]; exact h2, (h3.mono s fun b hb gb => ?_).keep fun b u hb _ => kp b u hb⟩
    rw [upd_ne (fun z => by rw [z, n] at hb; cases hb)]
    exact gb
  · intro b u z
    by_cases hb : b = q
    · subst hb; exact .inr (S.dm _ n)
    · rw [upd_ne hb] at z; exact S.nw _ _ z
  · intro b z
    by_cases hb : b = q
    · subst hb; exact S.dm _ n
    · rw [upd_ne hb] at z; exact S.dm _ z
/-- a new object, nobody's as yet -/
theorem Sr.laidOw (S : Srp K mg p G σ H e) {q : Addr} {o : HO} (n : H q = none) : Srp K mg p G σ (upd H q o) e ∧ G q = none ∧ p.H0 q = none ∧ p.F q = none ∧ ∀ (i : Nat) s y, e[i]? = some s → s.own = some y → σ[i]? ≠ some (some (V.ref q)) := by
  have gn : G q = none := by
    cases z : G q with
    | none => rfl
    | some u => rw [S.sub _ _ z] at n; cases n
  have kp : ∀ b u, H b = some u → upd H q o b = some u := fun b u z => by
    rw [upd_ne (fun y => by rw [y, n] at z; cases z)]
    exact z
  refine ⟨⟨fun b u z => kp _ _ (S.sub _ _ z), S.len, S.sh, ?_, S.io, S.ap, fun a u h1 h2 => kp _ _ (S.fr a u h1 h2), S.nw, S.of, ?_, fun b u z => ⟨kp _ _ (S.kp b u z).1, (S.kp b u z).2⟩, S.ka⟩, gn, S.dm _ n, ?_, ?_⟩
  · intro i t y q1 q2
    obtain ⟨a2, h1, h2, h3⟩ := S.ow i t y q1 q2
    exact ⟨a2, h1, h2, h3.keep fun b u hb _ => kp b u hb⟩
  · intro b z
    by_cases hb : b = q
    · subst hb; exact S.dm _ n
    · rw [upd_ne hb] at z; exact S.dm _ z
  · cases z : p.F q with
    | none => rfl
    | some u => have := (S.kp _ _ z).1; rw [n] at this; cases this
  · intro i s y q1 q2 z
    obtain ⟨a2, h1, h2, h3⟩ := S.ow i s y q1 q2
    rw [h1] at z; cases z
    obtain ⟨u, hu, _⟩ := h3.at
    rw [n] at hu; cases hu
/-- what an own slot holds is changed -/
theorem Sr.change (S : Srp K mg p G σ H e) {i : Nat} {s : Sl} {o : HO} (h : e[i]? = some s) (hs : s.own = some x) (ha : σ[i]? = some (some (.ref a))) (no : ∀ c, o ≠ .own c)
    (c : CtR K mg G (upd H a o) a y) : Srp K mg p G σ (upd H a o) (e.set i (s.put y)) := by
  obtain ⟨hi, _⟩ := List.getElem?_eq_some_iff.mp h
  obtain ⟨a', h1, h2, h3⟩ := S.ow i s x h hs
  rw [ha] at h1; cases h1
  obtain ⟨u0, hu0, nu0⟩ := h3.at
  have at_ : ∀ {j : Nat} {t : Sl}, (e.set i (s.put y))[j]? = some t → (j = i ∧ t = s.put y) ∨ (j ≠ i ∧ e[j]? = some t) := fun {j t} q => by
    by_cases hj : i = j
    · subst hj
      rw [List.getElem?_set_self hi] at q; cases q; exact .inl ⟨rfl, rfl⟩
    · rw [List.getElem?_set_ne hj] at q; exact .inr ⟨fun z => hj z.symm, q⟩
  have at2 : ∀ {j : Nat} {t : Sl} {z : Ct}, (e.set i (s.put y))[j]? = some t → t.own = some z → ∃ t' z', e[j]? = some t' ∧ t'.own = some z' := fun {j t z} q1 q2 => by
    rcases at_ q1 with ⟨rfl, rfl⟩ | ⟨_, q⟩
    · exact ⟨s, x, h, hs⟩
    · exact ⟨t, z, q, q2⟩
  refine ⟨?_, by simp [S.len], ?_, ?_, ?_, ?_, ?_, S.nw, ?_, ?_, fun b u z => ⟨(upd_ne (fun w => by subst w; have := S.ka i s x b h hs ha; rw [this] at z; cases z)).trans (S.kp b u z).1, (S.kp b u z).2⟩, fun j t y' b q1 q2 q3 => by
    obtain ⟨t', z', k1, k2⟩ := at2 q1 q2
    exact S.ka j t' z' b k1 k2 q3⟩
  · intro b u q
    rw [upd_ne (fun z => by rw [z, h2] at q; cases q)]
    exact S.sub _ _ q
  · intro j d q
    rcases at_ q with ⟨rfl, z⟩ | ⟨_, q⟩
    · have : (s.put y).own = some y := Sl.put_own hs
      rw [← z] at this; cases this
    · exact S.sh j d q
  · intro j t z q1 q2
    rcases at_ q1 with ⟨rfl, rfl⟩ | ⟨hj, q⟩
    · rw [Sl.put_own hs] at q2; cases q2
      exact ⟨a, ha, h2, c⟩
    · obtain ⟨a2, k1, k2, k3⟩ := S.ow j t z q q2
      have ne : a2 ≠ a := fun w => hj (S.ap j i t s z x a q h q2 hs (by rw [k1, w]) ha)
      refine ⟨a2, k1, k2, k3.keep fun b u hb hc => ?_⟩
      refine (upd_ne fun w => ?_).trans hb
      subst w
      rcases hc with hc | hc
      · exact ne hc.symm
      · rw [hb] at hu0; cases hu0
        exact nu0 _ hc
  · intro j z q1
    rcases at_ q1 with ⟨rfl, w⟩ | ⟨hj, q⟩
    · cases s with
      | io x' =>
        exact S.io j x' h
      | ow _ => cases w
      | no => cases w
      | sh _ => cases w
    · exact S.io j z q
  · intro j k s1 t y1 z b h1 h2 h3 h4 h5 h6
    obtain ⟨t1, z1, k1, k2⟩ := at2 h1 h3
    obtain ⟨t2, z2, k3, k4⟩ := at2 h2 h4
    exact S.ap j k t1 t2 z1 z2 b k1 k3 k2 k4 h5 h6
  · intro b u q1 q2
    have hb : b ≠ a := fun w => by
      subst w
      cases s with
      | io x' =>
        obtain ⟨k1, k2⟩ := S.io i x' h
        rw [ha] at k1; cases k1
        exact q2 i k2 rfl
      | ow x' =>
        have := S.of i x' b h ha
        rw [this] at q1; cases q1
      | no => cases hs
      | sh _ => cases hs
    rw [upd_ne hb]; exact S.fr b u q1 q2
  · intro j z b q1 q2
    rcases at_ q1 with ⟨rfl, w⟩ | ⟨hj, q⟩
    · cases s with
      | ow x' => exact S.of j x' b h q2
      | io _ => cases w
      | no => cases w
      | sh _ => cases w
    · exact S.of j z b q q2
  · intro b z
    by_cases hb : b = a
    · subst hb; rw [upd_same] at z; cases z
    · rw [upd_ne hb] at z; exact S.dm _ z
end

/-! ### from a new thing to a value -/
def mD (m : M Ret) : M D := M.bnd m fun r => match r with
  | .sh d => M.ret d
  | .ow x => M.ret x.d
theorem SimE.of_r {I : CI} {W : WX} {t : TE} {m : M Ret} (h : SimR I W t m) : SimE I W t (mD m) := by
  intro p G σ H e Q S w
  refine h p G σ H e Q S (Wp.mono (Wp.bnd w) fun r G' H' e' s S' q => ?_)
  cases r with
  | sh d => exact fun v r => q G' H' (Same.refl _) S' v r
  | ow x =>
    intro a ga c h0 hF ap
    obtain ⟨G2, s2, S2, r2⟩ := Sr.freeze S' ga c h0 hF ap
    exact q G2 H' s2 S2 _ r2
def mR (m : M D) : M Ret := M.bnd m fun d => M.ret (.sh d)
theorem SimR.of_e {I : CI} {W : WX} {t : TE} {m : M D} (h : SimE I W t m) : SimR I W t (mR m) := by
  intro p G σ H e Q S w
  refine h p G σ H e Q S (Wp.mono (Wp.bnd w) fun d G' H' e' s S' q => ?_)
  exact fun v r => q G' H' (Same.refl _) S' v r
theorem de_r {I : CI} {W : WX} {e : Expr} {m : M Ret} (h : DR I W e m) : DE I W e (mD m) := let ⟨t, h1, h2⟩ := h; ⟨t, h1, .of_r h2⟩
theorem dr_e {I : CI} {W : WX} {e : Expr} {m : M D} (h : DE I W e m) : DR I W e (mR m) := let ⟨t, h1, h2⟩ := h; ⟨t, h1, .of_e h2⟩
end DL
end

section
namespace DL
open PySem PySem.Spec L2
open PyProof.Rows hiding St

/-! ### data as PyData -/
mutual
def D.py : D → PyData
  | .non => .none
  | .bl b => .bool b
  | .int i => .int i
  | .str x => .str x
  | .tup xs => .tuple (pys xs)
  | .lst xs => .list (pys xs)
  | .dct _ => .dict []
  | .obj _ _ => .dict []
def pys : List D → List PyData
  | [] => []
  | x :: xs => x.py :: pys xs
end
def lay (d : D) : Bool := d.py.canLay0
def okD (d : D) : Bool := SeqAt.shaped d.py
def deq (a b : D) : Option Bool := if okD a && okD b then some (PyData.eqv a.py b.py) else none
theorem pys_map : ∀ xs : List D, pys xs = xs.map D.py
  | [] => by simp [pys]
  | x :: xs => by simp [pys, pys_map xs]
section
variable {K : PySem.W.Frag} {mg : MG} {G H : Hp}
theorem canLayAll0_iff : ∀ xs : List PyData, PyData.canLayAll0 xs = true ↔ ∀ x ∈ xs, x.canLay0 = true
  | [] => by simp [PyData.canLayAll0]
  | x :: xs => by simp [PyData.canLayAll0, canLayAll0_iff xs]
theorem dpAll_of : ∀ {vs : List V} {l : List D}, vs.length = l.length → (∀ (i : Nat) v d, vs[i]? = some v → l[i]? = some d → Dp K H v d.py) → DpAll K H vs (pys l)
  | [], [], _, _ => by simp only [pys]; exact .nil
  | v :: vs, d :: l, hl, h => by
    simp only [pys]
    exact .cons (h 0 v d rfl rfl) (dpAll_of (by simpa using hl) fun i v' d' a b => h (i + 1) v' d' (by simpa using a) (by simpa using b))
  | [], _ :: _, h, _ => by simp at h
  | _ :: _, [], h, _ => by simp at h
theorem lay_item {xs : List D} (h : PyData.canLayAll0 (pys xs) = true) {i : Nat} {d : D} (e : xs[i]? = some d) : d.py.canLay0 = true := by
  rw [pys_map] at h
  exact (canLayAll0_iff _).mp h _ (List.mem_map.mpr ⟨d, List.mem_of_getElem? e, rfl⟩)
theorem Rep.dp (s : Same G H) : ∀ {v : V} {d : D}, Rep K mg G v d → d.py.canLay0 = true → Dp K H v d.py := by
  intro v d h
  induction h with
  | non => intro _; simp only [D.py]; exact .non
  | bl b => intro _; simp only [D.py]; exact .bl b
  | int i => intro _; simp only [D.py]; exact .int i
  | str x => intro _; simp only [D.py]; exact .str x
  | tup h1 h2 _ ih =>
    intro c
    simp only [D.py, PyData.canLay0] at c ⊢
    exact .tup (Same.seqT s h1) (dpAll_of h2 fun i v d a b => ih i v d a b (lay_item c b))
  | lst h1 h2 _ ih =>
    intro c
    simp only [D.py, PyData.canLay0] at c ⊢
    exact .lst (LsT.sq (Same.ls s h1)) (dpAll_of h2 fun i v d a b => ih i v d a b (lay_item c b))
  | dct _ _ _ _ _ => intro c; simp [D.py, PyData.canLay0] at c
  | obj _ _ _ _ _ _ _ => intro c; simp [D.py, PyData.canLay0] at c
theorem Reps.dpl (s : Same G H) {a : Addr} {vs : List V} {l : List D} (hs : SqL K H a vs) (r : Reps K mg G vs l) (c : (D.lst l).py.canLay0 = true) : Dp K H (.ref a) (D.lst l).py := by
  simp only [D.py, PyData.canLay0] at c ⊢
  exact .lst hs (dpAll_of r.1 fun i v d a b => (r.2 i v d a b).dp s (lay_item c b))
end

/-! ### names, constants -/
structure VarOk (N : List Str) (sc : Scope) (i : Nat) (x : Str) : Prop where
  hN : N[i]? = some x
  hv : Vis sc x
  hd : (x == ("__debug__" : Str)) = false
  hc : (x == ("__classdict__" : Str)) = false
def eVar (i : Nat) : M D := fun e => match e[i]? with
  | some (.sh d) => .ok d e
  | some (.ow x) => .ok x.d (e.set i (.sh x.d))
  | _ => .no
def eC (d : D) : M D := M.ret d
section
variable {I : CI} {W : WX} {x : Str} {pos : Pos}
theorem de_var {i : Nat} (h : VarOk I.N I.sc i x) : DE I W (.Name x pos) (eVar i) := by
  refine ⟨tVar i, fun X ok => pe_var (by rw [ok.hN]; exact h.hN) (by rw [ok.hsc]; exact h.hv) h.hd h.hc, fun p G σ H e Q S w => ?_⟩
  unfold eVar at w
  cases q : e[i]? with
  | none => rw [q] at w; exact w.elim
  | some s =>
    rw [q] at w
    cases s with
    | no => exact w.elim
    | io _ => exact w.elim
    | sh d =>
      obtain ⟨v, h1, h2⟩ := S.sh i d q
      exact ⟨v, h1, w G H (Same.refl _) S v h2⟩
    | ow x =>
      obtain ⟨a, G', h1, h2, h3, h4⟩ := S.freezeSlot q
      exact ⟨_, h1, w G' H h2 h3 _ h4⟩
theorem eC_sim {v : V} {d : D} (r : ∀ K mg G, Rep K mg G v d) : SimE I W (tC v) (eC d) := fun p G σ H e Q S w => w G H (Same.refl _) S v (r _ _ _)
theorem de_int {i : Int} {j} : DE I W (.Constant (.int i) j pos) (eC (.int i)) := ⟨_, fun _ _ => pe_int, eC_sim fun _ _ _ => .int i⟩
theorem de_bl {b : Bool} {j} : DE I W (.Constant (.bool b) j pos) (eC (.bl b)) := ⟨_, fun _ _ => pe_bl, eC_sim fun _ _ _ => .bl b⟩
theorem de_non {j} : DE I W (.Constant .none j pos) (eC .non) := ⟨_, fun _ _ => pe_non, eC_sim fun _ _ _ => .non⟩
theorem de_str {y : Str} {j} : DE I W (.Constant (.str y) j pos) (eC (.str y)) := ⟨_, fun _ _ => pe_str, eC_sim fun _ _ _ => .str y⟩
end

/-! ### two-place operations -/
def lift {α : Type} (o : Option α) : M α := match o with
  | some a => M.ret a
  | none => fun _ => .no
theorem lift_wp {α : Type} {K : PySem.W.Frag} {mg : MG} {W : WX} {p : Pm} {G : Hp} {σ : L2.St} {o : Option α} {e : En} {k : α → Hp → Hp → En → Prop} (h : Wp K mg W p G σ (lift o e) k) : ∃ a, o = some a ∧ ∀ G' H', Same G G' → Srp K mg p G' σ H' e → k a G' H' e := by
  cases o with
  | none => exact h.elim
  | some a => exact ⟨a, rfl, h⟩
/-- m tells what f does with data -/
def OpD (I : CI) (W : WX) (f : Value → Value → Sem Value) (m : D → D → Option Ret) : Prop :=
  ∃ r : R2, (∀ X, Okx I W X → OpR X f r) ∧ ∀ (p : Pm) G σ H e x y a b res (Q : VK), Srp I.K I.mg p G σ H e → Rep I.K I.mg G x a → Rep I.K I.mg G y b → m a b = some res →
    (∀ G' H', Same G G' → Srp I.K I.mg p G' σ H' e → RetK I.K I.mg p G' σ H' e Q res) → r x y H Q
def rBin (f : D → D → Option Ret) (ma mb : M D) : M Ret := M.bnd ma fun a => M.bnd mb fun b => lift (f a b)
section
variable {I : CI} {W : WX} {a b c : Expr} {ma mb mc : M D} {pos : Pos}
theorem bin_sim {r : R2} {ta tb : TE} {f : D → D → Option Ret}
    (hr : ∀ (p : Pm) G σ H e x y a b res (Q : VK), Srp I.K I.mg p G σ H e → Rep I.K I.mg G x a → Rep I.K I.mg G y b → f a b = some res → (∀ G' H', Same G G' → Srp I.K I.mg p G' σ H' e → RetK I.K I.mg p G' σ H' e Q res) → r x y H Q)
    (ha : SimE I W ta ma) (hb : SimE I W tb mb) : SimR I W (tOp r ta tb) (rBin f ma mb) := by
  intro p G σ H e Q S w
  refine ha p G σ H e _ S (Wp.mono (Wp.bnd w) fun da G1 H1 e1 s1 S1 w1 v1 r1 => ?_)
  refine hb p G1 σ H1 e1 _ S1 (Wp.mono (Wp.bnd w1) fun db G2 H2 e2 s2 S2 w2 v2 r2 => ?_)
  obtain ⟨res, hf, k⟩ := lift_wp w2
  exact hr p G2 σ H2 e2 v1 v2 da db res Q S2 (r1.mono s2) r2 hf k
theorem dr_bin {op : Operator} {f : D → D → Option Ret} (ho : OpD I W (binaryOp op) f) (ha : DE I W a ma) (hb : DE I W b mb) : DR I W (.BinOp a op b pos) (rBin f ma mb) := by
  obtain ⟨r, h1, h2⟩ := ho
  obtain ⟨ta, a1, a2⟩ := ha
  obtain ⟨tb, b1, b2⟩ := hb
  exact ⟨_, fun X ok => pe_op (h1 X ok) (a1 X ok) (b1 X ok), bin_sim h2 a2 b2⟩
/-- comparisons -/
theorem dr_cmp {op : CmpOp} {f : D → D → Option Ret} (ho : OpD I W (compareOp op) f) (ha : DE I W a ma) (hb : DE I W b mb) (hm : behindInMarks op b = false) : DR I W (.Compare a [op] [b] pos) (rBin f ma mb) := by
  obtain ⟨r, h1, h2⟩ := ho
  obtain ⟨ta, a1, a2⟩ := ha
  obtain ⟨tb, b1, b2⟩ := hb
  exact ⟨_, fun X ok => pe_cmpR (h1 X ok) (a1 X ok) (b1 X ok) hm, bin_sim h2 a2 b2⟩
def blOf : Ret → Option Bool
  | .sh (.bl b) => some b
  | _ => none
def tCmp (f : D → D → Option Ret) (ma mb : M D) : M Bool := M.bnd (rBin f ma mb) fun r => lift (blOf r)
/-- an expression of bools as a test -/
theorem test_sim {t : TE} {m : M Ret} (h : SimR I W t m) : SimT I W (tTest t) (M.bnd m fun r => lift (blOf r)) := by
  intro p G σ H e Q S w
  refine h p G σ H e _ S (Wp.mono (Wp.bnd w) fun r G1 H1 e1 s1 S1 w1 => ?_)
  obtain ⟨b, hb, k⟩ := lift_wp w1
  cases r with
  | ow x => cases hb
  | sh d =>
    cases d <;> first | cases hb | skip
    intro v rv
    cases rv
    exact ⟨b, rfl, k G1 H1 (Same.refl _) S1⟩
theorem dt_cmp {op : CmpOp} {f : D → D → Option Ret} (ho : OpD I W (compareOp op) f) (ha : DE I W a ma) (hb : DE I W b mb) (hm : behindInMarks op b = false) : DT I W (.Compare a [op] [b] pos) (tCmp f ma mb) := by
  obtain ⟨r, h1, h2⟩ := ho
  obtain ⟨ta, a1, a2⟩ := ha
  obtain ⟨tb, b1, b2⟩ := hb
  exact ⟨_, fun X ok => pt_cmpR (h1 X ok) (a1 X ok) (b1 X ok) hm, test_sim (bin_sim h2 a2 b2)⟩
/-- a < b < c -/
def rChain (f g : D → D → Option Ret) (ma mb mc : M D) : M Ret := M.bnd ma fun x => M.bnd mb fun y => M.bnd (lift ((f x y).bind blOf)) fun k => if k = true then M.bnd mc fun z => lift (g y z) else M.ret (.sh (.bl false))
theorem chain_sim {r r' : R2} {ta tb tc : TE} {f g : D → D → Option Ret}
    (hr : ∀ (p : Pm) G σ H e x y a b res (Q : VK), Srp I.K I.mg p G σ H e → Rep I.K I.mg G x a → Rep I.K I.mg G y b → f a b = some res → (∀ G' H', Same G G' → Srp I.K I.mg p G' σ H' e → RetK I.K I.mg p G' σ H' e Q res) → r x y H Q)
    (hr' : ∀ (p : Pm) G σ H e x y a b res (Q : VK), Srp I.K I.mg p G σ H e → Rep I.K I.mg G x a → Rep I.K I.mg G y b → g a b = some res → (∀ G' H', Same G G' → Srp I.K I.mg p G' σ H' e → RetK I.K I.mg p G' σ H' e Q res) → r' x y H Q)
    (ha : SimE I W ta ma) (hb : SimE I W tb mb) (hc : SimE I W tc mc) : SimR I W (tChain r r' ta tb tc) (rChain f g ma mb mc) := by
  intro p G σ H e Q S w
  refine ha p G σ H e _ S (Wp.mono (Wp.bnd w) fun da G1 H1 e1 s1 S1 w1 v1 r1 => ?_)
  refine hb p G1 σ H1 e1 _ S1 (Wp.mono (Wp.bnd w1) fun db G2 H2 e2 s2 S2 w2 v2 r2 => ?_)
  obtain ⟨k, hk, kk⟩ := lift_wp (Wp.bnd w2)
  cases hf : f da db with
  | none => rw [hf] at hk; cases hk
  | some res =>
    rw [hf] at hk
    have hk' : blOf res = some k := hk
    refine hr p G2 σ H2 e2 v1 v2 da db res _ S2 (r1.mono s2) r2 hf fun G3 H3 s3 S3 => ?_
    cases res with
    | ow x => cases hk'
    | sh d =>
      cases d <;> first | cases hk' | skip
      intro v rv
      cases rv
      have w3 := kk G3 H3 s3 S3
      refine ⟨k, rfl, ?_⟩
      cases k with
      | true =>
        rw [if_pos rfl] at w3 ⊢
        refine hc p G3 σ H3 e2 _ S3 (Wp.mono (Wp.bnd w3) fun dc G4 H4 e4 s4 S4 w4 v4 r4 => ?_)
        obtain ⟨res', hg, k'⟩ := lift_wp w4
        exact hr' p G4 σ H4 e4 v2 v4 db dc res' Q S4 ((r2.mono s3).mono s4) r4 hg k'
      | false =>
        rw [if_neg Bool.false_ne_true] at w3 ⊢
        exact w3 G3 H3 (Same.refl _) S3 _ (.bl false)
theorem dr_chain {op op' : CmpOp} {f g : D → D → Option Ret} (ho : OpD I W (compareOp op) f) (ho' : OpD I W (compareOp op') g) (ha : DE I W a ma) (hb : DE I W b mb) (hc : DE I W c mc) (hm : lastMarks [op, op'] [b, c] = false) :
    DR I W (.Compare a [op, op'] [b, c] pos) (rChain f g ma mb mc) := by
  obtain ⟨r, h1, h2⟩ := ho
  obtain ⟨r', h3, h4⟩ := ho'
  obtain ⟨ta, a1, a2⟩ := ha
  obtain ⟨tb, b1, b2⟩ := hb
  obtain ⟨tc, c1, c2⟩ := hc
  exact ⟨_, fun X ok => pe_chain (h1 X ok) (h3 X ok) (a1 X ok) (b1 X ok) (c1 X ok) hm, chain_sim h2 h4 a2 b2 c2⟩
theorem dt_chain {op op' : CmpOp} {f g : D → D → Option Ret} (ho : OpD I W (compareOp op) f) (ho' : OpD I W (compareOp op') g) (ha : DE I W a ma) (hb : DE I W b mb) (hc : DE I W c mc) (hm : lastMarks [op, op'] [b, c] = false) :
    DT I W (.Compare a [op, op'] [b, c] pos) (M.bnd (rChain f g ma mb mc) fun r => lift (blOf r)) := by
  obtain ⟨r, h1, h2⟩ := ho
  obtain ⟨r', h3, h4⟩ := ho'
  obtain ⟨ta, a1, a2⟩ := ha
  obtain ⟨tb, b1, b2⟩ := hb
  obtain ⟨tc, c1, c2⟩ := hc
  exact ⟨_, fun X ok => pt_chain (h1 X ok) (h3 X ok) (a1 X ok) (b1 X ok) (c1 X ok) hm, test_sim (chain_sim h2 h4 a2 b2 c2)⟩
end
end DL
end

section
namespace DL
open PySem PySem.Spec L2
open PyProof.Rows hiding St

/-! ### lists that may be known to their object -/
section
variable {X : Cx} {pins : List (Addr × Obj)} {σ : L2.St} {H : Hp} {s : Shared}
theorem rdL {l : Addr} {xs : List V} (J : Inv X pins σ H s) (h : LsT X.K H l xs) : xs.length ≤ sizeLine ∧ ∃ (us : List Value) (n : Nat), Vals xs us ∧ xs.length = us.length ∧ s.heap.get? l = some { cls := .type "list", data := .seq us.toArray n } := by
  rcases h with h | ⟨us, n, h1, h2, h3⟩
  · obtain ⟨z, us, n, r, e⟩ := h.ok J.hok
    exact ⟨z, us, n, r, r.length, e⟩
  · exact ⟨by rw [h3.length]; exact h2, us, n, h3, h3.length, J.kIn _ _ h1⟩
end
def rCat2 (K : PySem.W.Frag) : R2 := fun x y H Q => ∃ l b xs zs, x = .ref l ∧ y = .ref b ∧ LsT K H l xs ∧ LsT K H b zs ∧ xs.length + zs.length ≤ sizeLine ∧ ∀ q, H q = none → Q (.ref q) (upd H q (.lst (xs ++ zs)))
theorem op_cat2 {X : Cx} : OpR X (binaryOp .Add) (rCat2 X.K) := by
  intro pins s σ H x y v u Q J rx ry ⟨l, b, xs, zs, ex, ey, h1, h2, hz, q⟩
  subst ex; subst ey
  cases rx; cases ry
  obtain ⟨_, us, n, r, hl, e⟩ := rdL J h1
  obtain ⟨_, us2, n2, r2, hl2, e2⟩ := rdL J h2
  refine PySem.P.add_list e e2 ?_ (by simp only [List.size_toArray]; omega)
  rw [show us.toArray ++ us2.toArray = (us ++ us2).toArray by simp]
  exact ⟨.ref _, _, J.lnew (t' := s.toks) (r.append r2) (by simp only [List.length_append]; omega), rfl, q _ J.fresh⟩
def rRep2 (K : PySem.W.Frag) : R2 := fun x y H Q => ∃ l k xs, x = .ref l ∧ y = .int k ∧ LsT K H l xs ∧ -(2 ^ 63) ≤ k ∧ k < 2 ^ 63 ∧ xs.length * k.toNat ≤ sizeLine ∧ ∀ q, H q = none → Q (.ref q) (upd H q (.lst (List.replicate k.toNat xs).flatten))

/-! ### operations upon data -/
def LIM : Nat := 1000000
theorem lim_line : LIM ≤ sizeLine := by decide
theorem limS : LIM + LIM ≤ sizeLine := by decide
def fInt2 (C : Int → Int → Bool) (g : Int → Int → Int) : D → D → Option Ret
  | .int i, .int j => if C i j then some (.sh (.int (g i j))) else none
  | _, _ => none
def fInt0 (g : Int → Int → Int) : D → D → Option Ret
  | .int i, .int j => some (.sh (.int (g i j)))
  | _, _ => none
def fCmp (g : Int → Int → Bool) : D → D → Option Ret
  | .int i, .int j => some (.sh (.bl (g i j)))
  | _, _ => none
section
variable {I : CI} {W : WX} {f : Value → Value → Sem Value}
theorem opd_int {C : Int → Int → Prop} {Cb : Int → Int → Bool} {g : Int → Int → Int} (h : ∀ X, OpR X f (rI C fun i j => .int (g i j))) (hC : ∀ i j, Cb i j = true → C i j) : OpD I W f (fInt2 Cb g) := by
  refine ⟨_, fun X _ => h X, fun p G σ H e x y a b res Q S ra rb hf k => ?_⟩
  cases ra <;> cases rb <;> first | cases hf | skip
  rename_i i j
  unfold fInt2 at hf
  dsimp only at hf
  split at hf
  · rename_i c
    cases hf
    exact ⟨i, j, rfl, rfl, hC _ _ c, k G H (Same.refl _) S _ (.int _)⟩
  · cases hf
theorem opd_int0 {g : Int → Int → Int} (h : ∀ X, OpR X f (rI0 fun i j => .int (g i j))) : OpD I W f (fInt0 g) := by
  refine ⟨_, fun X _ => h X, fun p G σ H e x y a b res Q S ra rb hf k => ?_⟩
  cases ra <;> cases rb <;> first | cases hf | skip
  rename_i i j
  exact ⟨i, j, rfl, rfl, k G H (Same.refl _) S _ (.int _)⟩
theorem opd_cmp {g : Int → Int → Bool} (h : ∀ X, OpR X f (rI0 fun i j => .bl (g i j))) : OpD I W f (fCmp g) := by
  refine ⟨_, fun X _ => h X, fun p G σ H e x y a b res Q S ra rb hf k => ?_⟩
  cases ra <;> cases rb <;> first | cases hf | skip
  rename_i i j
  exact ⟨i, j, rfl, rfl, k G H (Same.refl _) S _ (.bl _)⟩
abbrev fSub := fInt0 fun i j => i - j
abbrev fAnd := fInt0 Builtin.bitAnd
abbrev fOr := fInt0 Builtin.bitOr
abbrev fXor := fInt0 Builtin.bitXor
abbrev fMod := fInt2 (fun _ j => decide (0 < j)) fun i j => i % j
abbrev fDiv := fInt2 (fun _ j => decide (0 < j) && decide (j < 1073741824)) fun i j => i / j
abbrev fPow := fInt2 (fun i j => decide (0 ≤ j) && decide (j ≤ 1000000) && decide (i.natAbs < 2 ^ 64)) fun i j => i ^ j.toNat
abbrev fShl := fInt2 (fun i j => decide (0 ≤ j) && decide (j ≤ 1000000) && decide (i.natAbs < 2 ^ 64)) fun i j => i * 2 ^ j.toNat
abbrev fShr := fInt2 (fun _ j => decide (0 ≤ j)) fun i j => i / 2 ^ j.toNat
abbrev fLt := fCmp fun i j => decide (i < j)
abbrev fLe := fCmp fun i j => decide (i ≤ j)
abbrev fGt := fCmp fun i j => decide (j < i)
abbrev fGe := fCmp fun i j => decide (j ≤ i)
theorem o_sub : OpD I W (binaryOp .Sub) fSub := opd_int0 fun _ => op_sub
theorem o_and : OpD I W (binaryOp .BitAnd) fAnd := opd_int0 fun _ => op_and
theorem o_or : OpD I W (binaryOp .BitOr) fOr := opd_int0 fun _ => op_or
theorem o_xor : OpD I W (binaryOp .BitXor) fXor := opd_int0 fun _ => op_xor
theorem o_mod : OpD I W (binaryOp .Mod) fMod := opd_int (fun _ => op_mod) fun i j c => of_decide_eq_true c
theorem o_div : OpD I W (binaryOp .FloorDiv) fDiv := opd_int (fun _ => op_fdiv) fun i j c => by
  simp only [Bool.and_eq_true, decide_eq_true_eq] at c
  exact c
theorem o_pow : OpD I W (binaryOp .Pow) fPow := opd_int (fun _ => op_pow) fun i j c => by
  simp only [Bool.and_eq_true, decide_eq_true_eq] at c
  exact ⟨c.1.1, c.1.2, c.2⟩
theorem o_shl : OpD I W (binaryOp .LShift) fShl := opd_int (fun _ => op_shl) fun i j c => by
  simp only [Bool.and_eq_true, decide_eq_true_eq] at c
  exact ⟨c.1.1, c.1.2, c.2⟩
theorem o_shr : OpD I W (binaryOp .RShift) fShr := opd_int (fun _ => op_shr) fun i j c => of_decide_eq_true c
theorem o_lt : OpD I W (compareOp .Lt) fLt := opd_cmp fun _ => op_lt
theorem o_le : OpD I W (compareOp .LtE) fLe := opd_cmp fun _ => op_le
theorem o_gt : OpD I W (compareOp .Gt) fGt := opd_cmp fun _ => op_gt
theorem o_ge : OpD I W (compareOp .GtE) fGe := opd_cmp fun _ => op_ge
/-- + -/
def fAdd : D → D → Option Ret
  | .int i, .int j => some (.sh (.int (i + j)))
  | .str x, .str y => if x.length + y.length ≤ LIM then some (.sh (.str (x ++ y))) else none
  | .tup l, .tup m => if l.length + m.length ≤ LIM then some (.sh (.tup (l ++ m))) else none
  | .lst l, .lst m => if l.length + m.length ≤ LIM then some (.ow (.l (l ++ m))) else none
  | _, _ => none
theorem o_add : OpD I W (binaryOp .Add) fAdd := by
  refine ⟨fun x y H Q => (rI0 fun i j => .int (i + j)) x y H Q ∨ (∃ i j, x = .str i ∧ y = .str j ∧ i.length + j.length ≤ sizeLine ∧ Q (.str (i ++ j)) H) ∨ rCatA I.K x y H Q ∨ rCat2 I.K x y H Q,
    fun X ok => op_add.or (op_add_str.or (OpR.or (by have := op_catA (X := X); rw [ok.hK] at this; exact this) (by have h0 := op_cat2 (X := X); rw [ok.hK] at h0; exact h0))), fun p G σ H e x y a b res Q S ra rb hf k => ?_⟩
  have ll := lim_line
  cases ra with
  | int i =>
    cases rb <;> first | cases hf | skip
    exact .inl ⟨i, _, rfl, rfl, k G H (Same.refl _) S _ (.int _)⟩
  | str i =>
    cases rb <;> first | cases hf | skip
    rename_i j
    unfold fAdd at hf
    dsimp only at hf
    split at hf
    · cases hf
      exact .inr (.inl ⟨i, j, rfl, rfl, by omega, k G H (Same.refl _) S _ (.str _)⟩)
    · cases hf
  | @tup a2 vs l h1 h2 h3 =>
    cases rb <;> first | cases hf | skip
    rename_i b2 ws m g1 g2 g3
    unfold fAdd at hf
    dsimp only at hf
    split at hf
    · rename_i hz
      cases hf
      refine .inr (.inr (.inl ⟨a2, b2, vs, ws, rfl, rfl, Same.seqT S.sub h1, Same.seqT S.sub g1, by omega, fun z => ?_, fun _ z => ?_, fun _ _ q n => ?_⟩))
      · subst z
        have : l = [] := by cases l with | nil => rfl | cons _ _ => simp at h2
        subst this
        exact k G H (Same.refl _) S _ (.tup g1 g2 g3)
      · subst z
        have : m = [] := by cases m with | nil => rfl | cons _ _ => simp at g2
        subst this
        refine k G H (Same.refl _) S _ ?_
        rw [List.append_nil]
        exact .tup h1 h2 h3
      · obtain ⟨s1, S1⟩ := S.laid (o := .tup (vs ++ ws)) n
        exact k _ _ s1 S1 _ (.mk_tup (.of upd_same) ((Reps.mono s1 ⟨h2, h3⟩).append (Reps.mono s1 ⟨g2, g3⟩)))
    · cases hf
  | @lst a2 vs l h1 h2 h3 =>
    cases rb <;> first | cases hf | skip
    rename_i b2 ws m g1 g2 g3
    unfold fAdd at hf
    dsimp only at hf
    split at hf
    · rename_i hz
      cases hf
      refine .inr (.inr (.inr ⟨a2, b2, vs, ws, rfl, rfl, Same.ls S.sub h1, Same.ls S.sub g1, by omega, fun q n => ?_⟩))
      obtain ⟨S1, gn, h0, hF, ap⟩ := S.laidOw (o := .lst (vs ++ ws)) n
      exact k _ _ (Same.refl _) S1 q gn ⟨_, upd_same, Reps.append ⟨h2, h3⟩ ⟨g2, g3⟩⟩ h0 hF ap
    · cases hf
  | non => cases hf
  | bl _ => cases hf
  | dct _ _ _ _ => cases hf
  | obj _ _ _ _ _ _ => cases hf
/-- ==, != -/
def fEq (a b : D) : Option Ret := (deq a b).map fun k => .sh (.bl k)
def fNe (a b : D) : Option Ret := (deq a b).map fun k => .sh (.bl (!k))
theorem canLay_ok {d : D} (h : okD d = true) : d.py.canLay0 = true := SeqAt.canLay_of_shaped h
theorem deq_ok {a b : D} {k : Bool} (h : deq a b = some k) : okD a = true ∧ okD b = true ∧ k = PyData.eqv a.py b.py := by
  unfold deq at h
  split at h
  · rename_i c
    simp only [Bool.and_eq_true] at c
    exact ⟨c.1, c.2, (Option.some.inj h).symm⟩
  · cases h
theorem o_eq : OpD I W (compareOp .Eq) fEq := by
  refine ⟨rEqD I.K, fun X ok => by have := op_eqD (X := X) ok.room.units; rw [ok.hK] at this; exact this, fun p G σ H e x y a b res Q S ra rb hf k => ?_⟩
  unfold fEq at hf
  cases hd : deq a b with
  | none => rw [hd] at hf; cases hf
  | some v =>
    rw [hd] at hf; cases hf
    obtain ⟨h1, h2, rfl⟩ := deq_ok hd
    exact ⟨_, _, ra.dp S.sub (canLay_ok h1), rb.dp S.sub (canLay_ok h2), h1, h2, k G H (Same.refl _) S _ (.bl _)⟩
theorem o_ne : OpD I W (compareOp .NotEq) fNe := by
  refine ⟨rNeD I.K, fun X ok => by have := op_neD (X := X) ok.room.units; rw [ok.hK] at this; exact this, fun p G σ H e x y a b res Q S ra rb hf k => ?_⟩
  unfold fNe at hf
  cases hd : deq a b with
  | none => rw [hd] at hf; cases hf
  | some v =>
    rw [hd] at hf; cases hf
    obtain ⟨h1, h2, rfl⟩ := deq_ok hd
    exact ⟨_, _, ra.dp S.sub (canLay_ok h1), rb.dp S.sub (canLay_ok h2), h1, h2, k G H (Same.refl _) S _ (.bl _)⟩
/-- is None, is not None; is of bools -/
def D.isNon : D → Bool
  | .non => true
  | _ => false
def fIs (a b : D) : Option Ret := match b with
  | .non => some (.sh (.bl a.isNon))
  | .bl k => (match a with | .bl j => some (.sh (.bl (j == k))) | _ => none)
  | _ => none
def fIsNot (a b : D) : Option Ret := match b with
  | .non => some (.sh (.bl (!a.isNon)))
  | .bl k => (match a with | .bl j => some (.sh (.bl (!(j == k)))) | _ => none)
  | _ => none
theorem rep_isNon {K : PySem.W.Frag} {mg : MG} {G : Hp} {v : V} {d : D} (h : Rep K mg G v d) : decide (v = .non) = d.isNon := by
  cases h <;> simp [D.isNon]
theorem o_is : OpD I W (compareOp .Is) fIs := by
  refine ⟨fun x y H Q => (y = .non ∧ Q (.bl (decide (x = .non))) H) ∨ rIsB x y H Q, fun X ok => op_isN.or op_isBl, fun p G σ H e x y a b res Q S ra rb hf k => ?_⟩
  cases rb <;> first | cases hf | skip
  · refine .inl ⟨rfl, ?_⟩
    rw [rep_isNon ra]
    exact k G H (Same.refl _) S _ (.bl _)
  · cases ra <;> first | cases hf | skip
    rename_i j2 j1
    refine .inr ⟨_, _, rfl, rfl, ?_⟩
    have := k G H (Same.refl _) S _ (.bl _)
    rw [Bool.beq_eq_decide_eq] at this
    exact this
theorem o_isnot : OpD I W (compareOp .IsNot) fIsNot := by
  refine ⟨fun x y H Q => (y = .non ∧ Q (.bl (!decide (x = .non))) H) ∨ rNotB x y H Q, fun X ok => op_notN.or op_notBl, fun p G σ H e x y a b res Q S ra rb hf k => ?_⟩
  cases rb <;> first | cases hf | skip
  · refine .inl ⟨rfl, ?_⟩
    rw [rep_isNon ra]
    exact k G H (Same.refl _) S _ (.bl _)
  · cases ra <;> first | cases hf | skip
    rename_i j2 j1
    refine .inr ⟨_, _, rfl, rfl, ?_⟩
    have := k G H (Same.refl _) S _ (.bl _)
    rw [Bool.beq_eq_decide_eq] at this
    exact this
end
end DL
end

section
namespace DL
open PySem PySem.Spec L2
open PyProof.Rows hiding St

/-! ### plain arguments -/
def nst : Expr → Bool
  | .Starred _ _ => false
  | _ => true
theorem star_of {a : Expr} (h : nst a = true) (es : List Expr) (env : Env) : starEach (a :: es) env = (false, eval a env) :: starEach es env := by
  cases a <;> first | rfl | cases h
theorem no_star : ∀ {es : List Expr}, es.all nst = true → ∀ env : Env, (starEach es env).any (·.1) = false
  | [], _, _ => rfl
  | a :: es, h, env => by
    simp only [List.all_cons, Bool.and_eq_true] at h
    rw [star_of h.1, List.any_cons, no_star h.2 env]
    rfl
theorem no_back (pos : Pos) (l : List (Bool × Sem Value)) : (backTo pos l).any (·.1) = l.any (·.1) := by
  unfold backTo
  rw [List.any_map]
  rfl
/-- an argument: a value, or the thing that a name owns -/
inductive Ar where | d (x : D) | at (i : Nat)
def eAt (i : Nat) : M Ar := fun e => match e[i]? with
  | some (.ow _) => .ok (.at i) e
  | some (.io _) => .ok (.at i) e
  | _ => .no
def ArOk (K : PySem.W.Frag) (mg : MG) (G : Hp) (σ : L2.St) (v : V) : Ar → Prop
  | .d x => Rep K mg G v x
  | .at i => σ[i]? = some (some v)
def ArsOk (K : PySem.W.Frag) (mg : MG) (G : Hp) (σ : L2.St) (vs : List V) (as : List Ar) : Prop := vs.length = as.length ∧ ∀ (j : Nat) v a, vs[j]? = some v → as[j]? = some a → ArOk K mg G σ v a
theorem ArOk.mono {K : PySem.W.Frag} {mg : MG} {G G' : Hp} {σ : L2.St} {v : V} {a : Ar} (h : ArOk K mg G σ v a) (s : Same G G') : ArOk K mg G' σ v a := by
  cases a with
  | d x => exact Rep.mono s h
  | «at» i => exact h
def SimP (I : CI) (W : WX) (t : TA) (m : M (List Ar)) : Prop := ∀ (p : Pm) G σ H e (Q : List V → Hp → Prop), Srp I.K I.mg p G σ H e → Wp I.K I.mg W p G σ (m e) (fun as G' H' _ => ∀ vs, ArsOk I.K I.mg G' σ vs as → Q vs H') → t σ H Q
def DP (I : CI) (W : WX) (es : List Expr) (m : M (List Ar)) : Prop := es.all nst = true ∧ ∃ t, (∀ X, Okx I W X → PA X es t) ∧ SimP I W t m
def aNil : M (List Ar) := M.ret []
def aCons (ma : M Ar) (mr : M (List Ar)) : M (List Ar) := M.bnd ma fun a => M.bnd mr fun r => M.ret (a :: r)
def aD (m : M D) : M Ar := M.bnd m fun d => M.ret (.d d)
def SimO (I : CI) (W : WX) (t : TE) (m : M Ar) : Prop := ∀ (p : Pm) G σ H e (Q : VK), Srp I.K I.mg p G σ H e → Wp I.K I.mg W p G σ (m e) (fun a G' H' _ => ∀ v, ArOk I.K I.mg G' σ v a → Q v H') → t σ H Q
def DO (I : CI) (W : WX) (a : Expr) (m : M Ar) : Prop := nst a = true ∧ ∃ t, (∀ X, Okx I W X → PE X a t) ∧ SimO I W t m
section
variable {I : CI} {W : WX} {a : Expr} {es : List Expr} {pos : Pos} {x : Str}
theorem do_e {m : M D} (h : DE I W a m) (n : nst a = true) : DO I W a (aD m) := by
  obtain ⟨t, h1, h2⟩ := h
  exact ⟨n, t, h1, fun p G σ H e Q S w => h2 p G σ H e Q S (Wp.mono (Wp.bnd w) fun d G' H' e' s S' q => fun v r => q G' H' (Same.refl _) S' v r)⟩
theorem do_at {i : Nat} (h : VarOk I.N I.sc i x) : DO I W (.Name x pos) (eAt i) := by
  refine ⟨rfl, tVar i, fun X ok => pe_var (by rw [ok.hN]; exact h.hN) (by rw [ok.hsc]; exact h.hv) h.hd h.hc, fun p G σ H e Q S w => ?_⟩
  unfold eAt at w
  have fin : ∀ s y, e[i]? = some s → s.own = some y → (∀ v, σ[i]? = some (some v) → Q v H) → tVar i σ H Q := fun s y q1 q2 k => by
    obtain ⟨a, h1, _⟩ := S.ow i s y q1 q2
    exact ⟨_, h1, k _ h1⟩
  cases q : e[i]? with
  | none => rw [q] at w; exact w.elim
  | some s =>
    rw [q] at w
    cases s with
    | no => exact w.elim
    | sh _ => exact w.elim
    | ow y => exact fin _ y q rfl fun v hv => w G H (Same.refl _) S v hv
    | io y => exact fin _ y q rfl fun v hv => w G H (Same.refl _) S v hv
theorem dp_nil : DP I W [] aNil := ⟨rfl, tNil, fun _ _ => pa_nil, fun p G σ H e Q S w => w G H (Same.refl _) S [] ⟨rfl, fun _ _ _ h => by simp at h⟩⟩
theorem dp_cons {ma : M Ar} {mr : M (List Ar)} (ha : DO I W a ma) (hr : DP I W es mr) : DP I W (a :: es) (aCons ma mr) := by
  obtain ⟨n, t, h1, h2⟩ := ha
  obtain ⟨n', u, h3, h4⟩ := hr
  refine ⟨by simp [n, n'], tCons t u, fun X ok => pa_cons (h1 X ok) (h3 X ok) (star_of n _ _), fun p G σ H e Q S w => ?_⟩
  refine h2 p G σ H e _ S (Wp.mono (Wp.bnd w) fun d G1 H1 e1 s1 S1 w1 v r => ?_)
  refine h4 p G1 σ H1 e1 _ S1 (Wp.mono (Wp.bnd w1) fun as G2 H2 e2 s2 S2 w2 vs rs => ?_)
  refine w2 G2 H2 (Same.refl _) S2 (v :: vs) ⟨by simp [rs.1], fun j v' a' q1 q2 => ?_⟩
  cases j with
  | zero => simp at q1 q2; subst q1 q2; exact r.mono s2
  | succ j => exact rs.2 j v' a' (by simpa using q1) (by simpa using q2)
end
/-- plain lists of values -/
def dVals : List Ar → Option (List D)
  | [] => some []
  | .d x :: as => (dVals as).map (x :: ·)
  | .at _ :: _ => none
def aVals (m : M (List Ar)) : M (List D) := M.bnd m fun as => lift (dVals as)
theorem mapM_d : ∀ {as : List Ar} {ds : List D}, dVals as = some ds → as.length = ds.length ∧ ∀ (j : Nat) a d, as[j]? = some a → ds[j]? = some d → a = .d d
  | [], ds, h => by cases h; exact ⟨rfl, fun _ _ _ h => by simp at h⟩
  | .at _ :: as, ds, h => by cases h
  | .d x :: as, ds, h => by
    unfold dVals at h
    cases q : dVals as with
    | none => rw [q] at h; cases h
    | some r =>
      rw [q] at h
      have h' : ds = x :: r := (Option.some.inj h).symm
      subst h'
      obtain ⟨l, f⟩ := mapM_d q
      refine ⟨by simp [l], fun j a d e1 e2 => ?_⟩
      cases j with
      | zero => simp at e1 e2; subst e1 e2; rfl
      | succ j => exact f j a d (by simpa using e1) (by simpa using e2)
theorem simA_of {I : CI} {W : WX} {t : TA} {m : M (List Ar)} (h : SimP I W t m) : SimA I W t (aVals m) := by
  intro p G σ H e Q S w
  refine h p G σ H e Q S (Wp.mono (Wp.bnd w) fun as G1 H1 e1 s1 S1 w1 vs rs => ?_)
  obtain ⟨ds, hd, k⟩ := lift_wp w1
  obtain ⟨hl, hf⟩ := mapM_d hd
  refine k G1 H1 (Same.refl _) S1 vs ⟨rs.1.trans hl, fun j v d q1 q2 => ?_⟩
  have hj : j < as.length := by
    rw [hl]
    exact (List.getElem?_eq_some_iff.mp q2).1
  have e3 := List.getElem?_eq_getElem hj
  have := hf j _ d e3 q2
  have r := rs.2 j v _ q1 e3
  rw [this] at r
  exact r

/-! ### the promise of a def -/
def PreF (K : PySem.W.Frag) (mg : MG) (ia : Nat → Addr) (G H : Hp) (vs : List V) (args : List Sl) : Prop :=
  Same G H ∧ vs.length = args.length ∧ (∀ (j : Nat) d, args[j]? = some (.sh d) → ∃ v, vs[j]? = some v ∧ Rep K mg G v d) ∧
    (∀ (j : Nat) x, args[j]? = some (.io x) → vs[j]? = some (.ref (ia j)) ∧ G (ia j) = none ∧ CtR K mg G H (ia j) x) ∧
    (∀ (j k : Nat) x y, args[j]? = some (.io x) → args[k]? = some (.io y) → ia j = ia k → j = k) ∧ ∀ (j : Nat) x, args[j]? ≠ some (.ow x)
def IoA (args : List Sl) (j : Nat) : Prop := ∃ x, args[j]? = some (.io x)
structure PostF (K : PySem.W.Frag) (mg : MG) (ia : Nat → Addr) (args : List Sl) (G H G' H' : Hp) (outs : List Sl) : Prop where
  s : Same G G'
  sub : Same G' H'
  fr : ∀ a o, H a = some o → (∀ i, IoA args i → ia i ≠ a) → H' a = some o
  nw : ∀ a o, G' a = some o → G a = some o ∨ H a = none
  dm : ∀ a, H' a = none → H a = none
  io : ∀ (j : Nat) x, outs[j]? = some (.io x) → (∃ y, args[j]? = some (.io y)) ∧ G' (ia j) = none ∧ CtR K mg G' H' (ia j) x
def RetF (K : PySem.W.Frag) (mg : MG) (ia : Nat → Addr) (H G' H' : Hp) (outs : List Sl) (Q : VK) : Ret → Prop
  | .sh d => ∀ v, Rep K mg G' v d → Q v H'
  | .ow x => ∀ a : Addr, G' a = none → CtR K mg G' H' a x → H a = none → (∀ (j : Nat) y, outs[j]? = some (.io y) → ia j ≠ a) → Q (.ref a) H'
def spF (K : PySem.W.Frag) (mg : MG) (sem : FS) : Sp := fun vs H Q E => ∃ ia G args, PreF K mg ia G H vs args ∧ match sem args with
  | .ok r outs => ∀ G' H', PostF K mg ia args G H G' H' outs → RetF K mg ia H G' H' outs Q r
  | .ex c fs outs => ∀ G' H' C d, PostF K mg ia args G H G' H' outs → mg (Str.ofString c) = some (.ref C) → Xr K mg G' H' d fs → E (.ref C) (some d) H'
  | .no => False
def endF (n : Nat) : R Fl → R Ret
  | .ok (.rt r) e => .ok r (e.take n)
  | .ok .nx e => .ok (.sh .non) (e.take n)
  | .ok _ _ => .no
  | .ex c fs e => .ex c fs (e.take n)
  | .no => .no
/-- a def's meaning: m its body's, n the number of its names, k that of its parameters -/
def sFun (n k : Nat) (m : M Fl) : FS := fun args => if args.length = k then endF k (m (args ++ List.replicate (n - k) .no)) else .no

theorem getApp {α : Type} {l m : List α} {j : Nat} {x : α} (h : (l ++ m)[j]? = some x) : l[j]? = some x ∨ (l.length ≤ j ∧ x ∈ m) := by
  by_cases hj : j < l.length
  · rw [List.getElem?_append_left hj] at h
    exact .inl h
  · rw [List.getElem?_append_right (by omega)] at h
    exact .inr ⟨by omega, List.mem_of_getElem? h⟩
theorem getAppL {α : Type} {l m : List α} {j : Nat} {x : α} (h : l[j]? = some x) : (l ++ m)[j]? = some x := by
  obtain ⟨q, _⟩ := List.getElem?_eq_some_iff.mp h
  rw [List.getElem?_append_left q]; exact h
section
variable {K : PySem.W.Frag} {mg : MG} {ia : Nat → Addr} {G H G' H' : Hp} {vs : List V} {args : List Sl}
/-- the state at a def's entry -/
theorem sr_start {N : List Str} (h : PreF K mg ia G H vs args) (hn : vs.length ≤ N.length) : Srp K mg ⟨ia, G, H, IoA args, fun _ => none⟩ G (L2.start N vs) H (args ++ List.replicate (N.length - args.length) .no) := by
  obtain ⟨h1, h2, h3, h4, h5, h6⟩ := h
  have at_ : ∀ {i : Nat} {s : Sl}, (args ++ List.replicate (N.length - args.length) Sl.no)[i]? = some s → s ≠ .no → args[i]? = some s := fun {i s} q ns => by
    rcases getApp q with z | ⟨_, z⟩
    · exact z
    · exact absurd (List.eq_of_mem_replicate z) ns
  have own_ : ∀ {s : Sl} {y : Ct}, s.own = some y → s ≠ .no := fun {s y} q z => by subst z; cases q
  have st : ∀ {i : Nat} {v : V}, vs[i]? = some v → (L2.start N vs)[i]? = some (some v) := fun {i v} q => by
    unfold L2.start
    exact getAppL (by rw [List.getElem?_map, q]; rfl)
  have io_ : ∀ {i : Nat} {s : Sl} {y : Ct}, args[i]? = some s → s.own = some y → s = .io y := fun {i s y} q1 q2 => by
    cases s with
    | no => cases q2
    | sh _ => cases q2
    | ow z => exact absurd q1 (h6 i z)
    | io z => cases q2; rfl
  refine ⟨h1, ?_, ?_, ?_, ?_, ?_, fun a o q _ => q, fun a o q => .inl q, ?_, fun a q => q, fun _ _ q => (nomatch q), fun _ _ _ _ _ _ _ => rfl⟩
  · unfold L2.start
    simp only [List.length_append, List.length_map, List.length_replicate]
    omega
  · intro i d q
    obtain ⟨v, e1, e2⟩ := h3 i d (at_ q (fun z => nomatch z))
    exact ⟨v, st e1, e2⟩
  · intro i s y q1 q2
    have q1 := at_ q1 (own_ q2)
    have := io_ q1 q2
    subst this
    obtain ⟨e1, e2, e3⟩ := h4 i y q1
    exact ⟨ia i, st e1, e2, e3⟩
  · intro i y q
    have q := at_ q (fun z => nomatch z)
    obtain ⟨e1, _, _⟩ := h4 i y q
    exact ⟨st e1, y, q⟩
  · intro i j s t y z a q1 q2 q3 q4 q5 q6
    have q1 := at_ q1 (own_ q3)
    have q2 := at_ q2 (own_ q4)
    have := io_ q1 q3; subst this
    have := io_ q2 q4; subst this
    have e1 := st (h4 i y q1).1
    have e2 := st (h4 j z q2).1
    rw [e1] at q5; rw [e2] at q6
    cases q5
    injection q6 with q6; injection q6 with q6; injection q6 with q6
    exact h5 i j y z q1 q2 q6.symm
  · intro i y a q1 _
    exact absurd (at_ q1 (fun z => nomatch z)) (h6 i y)
theorem take_get {α : Type} {l : List α} {n i : Nat} {x : α} (h : (l.take n)[i]? = some x) : l[i]? = some x ∧ i < n := by
  rw [List.getElem?_take] at h
  split at h
  · exact ⟨h, by assumption⟩
  · cases h
/-- the end of a def -/
theorem post_of {σ : L2.St} {e : En} (S : Srp K mg ⟨ia, G, H, IoA args, fun _ => none⟩ G' σ H' e) (s : Same G G') : PostF K mg ia args G H G' H' (e.take args.length) := by
  refine ⟨s, S.sub, S.fr, S.nw, S.dm, fun j x q => ?_⟩
  obtain ⟨q1, q2⟩ := take_get q
  obtain ⟨e1, e2⟩ := S.io j x q1
  obtain ⟨a, f1, f2, f3⟩ := S.ow j _ x q1 rfl
  rw [e1] at f1; cases f1
  exact ⟨e2, f2, f3⟩
end
end DL
end

section
namespace DL
open PySem PySem.Spec L2
open PyProof.Rows hiding St

/-! ### a call's meaning -/
def slOf (e : En) : Ar → Option Sl
  | .d x => some (.sh x)
  | .at i => match e[i]? with
    | some s => s.own.map .io
    | none => none
def argsOf (e : En) : List Ar → Option (List Sl)
  | [] => some []
  | a :: as => match slOf e a, argsOf e as with
    | some s, some r => some (s :: r)
    | _, _ => none
def ixs : List Ar → List Nat
  | [] => []
  | .at i :: as => i :: ixs as
  | .d _ :: as => ixs as
def putBack : List Ar → List Sl → En → En
  | [], _, e => e
  | .d _ :: as, o, e => putBack as (o.drop 1) e
  | .at i :: as, .io x :: o, e => putBack as o (e.set i ((e.getD i .no).put x))
  | .at i :: as, o, e => putBack as (o.drop 1) (e.set i .no)
def callS (sem : FS) (as : List Ar) : M Ret := fun e => match argsOf e as with
  | none => .no
  | some args => if (ixs as).Nodup then (match sem args with
      | .ok r o => .ok r (putBack as o e)
      | .ex c fs o => .ex c fs (putBack as o e)
      | .no => .no) else .no
def rCall (sem : FS) (ma : M (List Ar)) : M Ret := M.bnd ma (callS sem)

theorem argsOf_get {e : En} : ∀ {as : List Ar} {args : List Sl}, argsOf e as = some args → as.length = args.length ∧ ∀ (j : Nat) a, as[j]? = some a → ∃ s, args[j]? = some s ∧ slOf e a = some s
  | [], args, h => by cases h; exact ⟨rfl, fun _ _ h => by simp at h⟩
  | a :: as, args, h => by
    unfold argsOf at h
    cases h1 : slOf e a with
    | none => rw [h1] at h; cases h
    | some s =>
      cases h2 : argsOf e as with
      | none => rw [h1, h2] at h; cases h
      | some r =>
        rw [h1, h2] at h
        cases h
        obtain ⟨l, f⟩ := argsOf_get h2
        refine ⟨by simp [l], fun j a' q => ?_⟩
        cases j with
        | zero => simp at q; subst q; exact ⟨s, rfl, h1⟩
        | succ j => exact f j a' (by simpa using q)
theorem mem_ixs {i : Nat} : ∀ {as : List Ar} {j : Nat}, as[j]? = some (.at i) → i ∈ ixs as
  | [], _, h => by simp at h
  | a :: as, 0, h => by simp at h; subst h; simp [ixs]
  | .at k :: as, j + 1, h => by simp [ixs]; exact .inr (mem_ixs (j := j) (by simpa using h))
  | .d _ :: as, j + 1, h => by simp [ixs]; exact mem_ixs (j := j) (by simpa using h)
theorem of_ixs {i : Nat} : ∀ {as : List Ar}, i ∈ ixs as → ∃ j : Nat, as[j]? = some (Ar.at i)
  | [], h => by simp [ixs] at h
  | .d _ :: as, h => by
    obtain ⟨j, hj⟩ := of_ixs (as := as) (by simpa [ixs] using h)
    exact ⟨j + 1, by simpa using hj⟩
  | .at k :: as, h => by
    by_cases hk : i = k
    · subst hk; exact ⟨0, rfl⟩
    · simp only [ixs, List.mem_cons] at h
      obtain ⟨j, hj⟩ := of_ixs (h.resolve_left hk)
      exact ⟨j + 1, by simpa using hj⟩
theorem ixs_inj : ∀ {as : List Ar} {i j k : Nat}, (ixs as).Nodup → as[j]? = some (.at i) → as[k]? = some (.at i) → j = k
  | [], _, _, _, _, h, _ => by simp at h
  | a :: as, i, 0, 0, _, _, _ => rfl
  | a :: as, i, 0, k + 1, n, h, h2 => by
    simp at h; subst h
    simp only [ixs, List.nodup_cons] at n
    exact absurd (mem_ixs (j := k) (by simpa using h2)) n.1
  | a :: as, i, j + 1, 0, n, h, h2 => by
    simp at h2; subst h2
    simp only [ixs, List.nodup_cons] at n
    exact absurd (mem_ixs (j := j) (by simpa using h)) n.1
  | .at m :: as, i, j + 1, k + 1, n, h, h2 => by
    simp only [ixs, List.nodup_cons] at n
    exact congrArg (· + 1) (ixs_inj (as := as) (i := i) (j := j) (k := k) n.2 (by simpa using h) (by simpa using h2))
  | .d _ :: as, i, j + 1, k + 1, n, h, h2 => by
    exact congrArg (· + 1) (ixs_inj (as := as) (i := i) (j := j) (k := k) n (by simpa using h) (by simpa using h2))
theorem putBack_len : ∀ (as : List Ar) (o : List Sl) (e : En), (putBack as o e).length = e.length
  | [], _, _ => by simp [putBack]
  | .d _ :: as, o, e => by simp only [putBack]; exact putBack_len as _ e
  | .at i :: as, [], e => by simp only [putBack]; rw [putBack_len]; simp
  | .at i :: as, .io x :: o, e => by simp only [putBack]; rw [putBack_len]; simp
  | .at i :: as, .no :: o, e => by simp only [putBack]; rw [putBack_len]; simp
  | .at i :: as, .sh _ :: o, e => by simp only [putBack]; rw [putBack_len]; simp
  | .at i :: as, .ow _ :: o, e => by simp only [putBack]; rw [putBack_len]; simp
theorem putBack_out : ∀ {as : List Ar} {o : List Sl} {e : En} {k : Nat}, k ∉ ixs as → (putBack as o e)[k]? = e[k]?
  | [], _, _, _, _ => by simp [putBack]
  | .d _ :: as, o, e, k, h => by simp only [putBack]; exact putBack_out (as := as) h
  | .at i :: as, o, e, k, h => by
    simp only [ixs, List.mem_cons, not_or] at h
    have ne : i ≠ k := fun z => h.1 z.symm
    cases o with
    | nil => simp only [putBack]; rw [putBack_out h.2, List.getElem?_set_ne ne]
    | cons s o => cases s <;> (simp only [putBack]; rw [putBack_out h.2, List.getElem?_set_ne ne])
/-- a slot that was handed over -/
theorem putBack_at : ∀ {as : List Ar} {o : List Sl} {e : En} {j i : Nat} {s : Sl}, (ixs as).Nodup → as[j]? = some (.at i) → e[i]? = some s →
    (∃ x, o[j]? = some (.io x) ∧ (putBack as o e)[i]? = some (s.put x)) ∨ (putBack as o e)[i]? = some .no
  | [], _, _, _, _, _, _, h, _ => by simp at h
  | .d _ :: as, o, e, 0, i, s, n, h, hs => by simp at h
  | .d _ :: as, o, e, j + 1, i, s, n, h, hs => by
    simp only [putBack]
    rcases putBack_at (as := as) (o := o.drop 1) (j := j) n (by simpa using h) hs with ⟨x, h1, h2⟩ | h1
    · refine .inl ⟨x, ?_, h2⟩
      rw [List.getElem?_drop] at h1
      rw [Nat.add_comm]; exact h1
    · exact .inr h1
  | .at k :: as, o, e, 0, i, s, n, h, hs => by
    simp at h; subst h
    simp only [ixs, List.nodup_cons] at n
    obtain ⟨hi, _⟩ := List.getElem?_eq_some_iff.mp hs
    have fin : ∀ t (o' : List Sl), (putBack as o' (e.set k t))[k]? = some t := fun t o' => by
      rw [putBack_out n.1, List.getElem?_set_self hi]
    have gd : e.getD k .no = s := by rw [List.getD_eq_getElem?_getD, hs]; rfl
    cases o with
    | nil => exact .inr (by simp only [putBack]; exact fin _ _)
    | cons t o =>
      cases t with
      | io x => exact .inl ⟨x, rfl, by simp only [putBack]; rw [fin, gd]⟩
      | no => exact .inr (by simp only [putBack]; exact fin _ _)
      | sh _ => exact .inr (by simp only [putBack]; exact fin _ _)
      | ow _ => exact .inr (by simp only [putBack]; exact fin _ _)
  | .at k :: as, o, e, j + 1, i, s, n, h, hs => by
    simp only [ixs, List.nodup_cons] at n
    have hi := mem_ixs (as := as) (j := j) (by simpa using h)
    have ne : k ≠ i := fun z => n.1 (z ▸ hi)
    have keep : ∀ t, (e.set k t)[i]? = some s := fun t => by rw [List.getElem?_set_ne ne]; exact hs
    have go : ∀ (o' : List Sl) t, o' = o.drop 1 → (∃ x, o[j + 1]? = some (.io x) ∧ (putBack as o' (e.set k t))[i]? = some (s.put x)) ∨ (putBack as o' (e.set k t))[i]? = some .no := fun o' t eo => by
      rcases putBack_at (as := as) (o := o') (j := j) n.2 (by simpa using h) (keep t) with ⟨x, h1, h2⟩ | h1
      · refine .inl ⟨x, ?_, h2⟩
        rw [eo, List.getElem?_drop] at h1
        rw [Nat.add_comm]; exact h1
      · exact .inr h1
    cases o with
    | nil => simp only [putBack]; exact go _ _ rfl
    | cons t o => cases t <;> (simp only [putBack]; exact go _ _ rfl)
section
variable {K : PySem.W.Frag} {mg : MG} {p : Pm} {G H G' H' : Hp} {σ : L2.St} {e : En} {vs : List V} {as : List Ar} {args : List Sl}
def iaOf (vs : List V) (j : Nat) : Addr := match vs[j]? with
  | some (.ref a) => a
  | _ => 0
theorem slOf_io {a : Ar} {x : Ct} (h : slOf e a = some (.io x)) : ∃ i s, a = .at i ∧ e[i]? = some s ∧ s.own = some x := by
  cases a with
  | d y => cases h
  | «at» i =>
    unfold slOf at h
    dsimp only at h
    cases q : e[i]? with
    | none => rw [q] at h; cases h
    | some s =>
      rw [q] at h
      dsimp only at h
      cases q2 : s.own with
      | none => rw [q2] at h; cases h
      | some y => rw [q2] at h; cases h; exact ⟨i, s, rfl, q, q2⟩
theorem slOf_sh {a : Ar} {d : D} (h : slOf e a = some (.sh d)) : a = .d d := by
  cases a with
  | d y => cases h; rfl
  | «at» i =>
    unfold slOf at h
    dsimp only at h
    cases q : e[i]? with
    | none => rw [q] at h; cases h
    | some s =>
      rw [q] at h
      dsimp only at h
      cases q2 : s.own with
      | none => rw [q2] at h; cases h
      | some y => rw [q2] at h; cases h
theorem slOf_ow {a : Ar} {x : Ct} (h : slOf e a = some (.ow x)) : False := by
  cases a with
  | d y => cases h
  | «at» i =>
    unfold slOf at h
    dsimp only at h
    cases q : e[i]? with
    | none => rw [q] at h; cases h
    | some s =>
      rw [q] at h
      dsimp only at h
      cases q2 : s.own with
      | none => rw [q2] at h; cases h
      | some y => rw [q2] at h; cases h
theorem args_at (ha : argsOf e as = some args) {j : Nat} {s : Sl} (h : args[j]? = some s) : ∃ a, as[j]? = some a ∧ slOf e a = some s := by
  obtain ⟨l, f⟩ := argsOf_get ha
  obtain ⟨hj, _⟩ := List.getElem?_eq_some_iff.mp h
  have hj' : j < as.length := by rw [l]; exact hj
  obtain ⟨s', h1, h2⟩ := f j _ (List.getElem?_eq_getElem hj')
  rw [h] at h1; cases h1
  exact ⟨_, List.getElem?_eq_getElem hj', h2⟩
/-- what the callee is handed -/
theorem pre_call (S : Srp K mg p G σ H e) (r : ArsOk K mg G σ vs as) (ha : argsOf e as = some args) (nd : (ixs as).Nodup) : PreF K mg (iaOf vs) G H vs args := by
  obtain ⟨l, f⟩ := argsOf_get ha
  have vAt : ∀ {j : Nat} {a : Ar}, as[j]? = some a → ∃ v, vs[j]? = some v ∧ ArOk K mg G σ v a := fun {j a} q => by
    obtain ⟨hj, _⟩ := List.getElem?_eq_some_iff.mp q
    have hv : j < vs.length := by rw [r.1]; exact hj
    exact ⟨vs[j], List.getElem?_eq_getElem hv, r.2 j _ a (List.getElem?_eq_getElem hv) q⟩
  have io : ∀ {j : Nat} {x : Ct}, args[j]? = some (.io x) → ∃ i s, as[j]? = some (.at i) ∧ e[i]? = some s ∧ s.own = some x ∧ σ[i]? = some (some (.ref (iaOf vs j))) ∧ vs[j]? = some (.ref (iaOf vs j)) := fun {j x} q => by
    obtain ⟨a, h1, h2⟩ := args_at ha q
    obtain ⟨i, s, rfl, h3, h4⟩ := slOf_io h2
    obtain ⟨v, h5, h6⟩ := vAt h1
    obtain ⟨b, h7, _⟩ := S.ow i s x h3 h4
    have h6' : σ[i]? = some (some v) := h6
    rw [h6'] at h7
    cases h7
    have ei : iaOf vs j = b := by unfold iaOf; rw [h5]
    exact ⟨i, s, h1, h3, h4, by rw [ei]; exact h6', by rw [ei]; exact h5⟩
  refine ⟨S.sub, r.1.trans l, fun j d q => ?_, fun j x q => ?_, fun j k x y q1 q2 q3 => ?_, fun j x q => ?_⟩
  · obtain ⟨a, h1, h2⟩ := args_at ha q
    have := slOf_sh h2
    subst this
    exact vAt h1
  · obtain ⟨i, s, h1, h2, h3, h4, h5⟩ := io q
    obtain ⟨b, h6, h7, h8⟩ := S.ow i s x h2 h3
    rw [h4] at h6; cases h6
    exact ⟨h5, h7, h8⟩
  · obtain ⟨i, s, h1, h2, h3, h4, _⟩ := io q1
    obtain ⟨i', s', g1, g2, g3, g4, _⟩ := io q2
    rw [← q3] at g4
    have := S.ap i i' s s' x y _ h2 g2 h3 g3 h4 g4
    subst this
    exact ixs_inj nd h1 g1
  · obtain ⟨a, _, h2⟩ := args_at ha q
    exact slOf_ow h2
/-- behind the call -/
theorem post_call (S : Srp K mg p G σ H e) (r : ArsOk K mg G σ vs as) (ha : argsOf e as = some args) (nd : (ixs as).Nodup) {o : List Sl} (P : PostF K mg (iaOf vs) args G H G' H' o) : Srp K mg p G' σ H' (putBack as o e) := by
  have pre := pre_call S r ha nd
  -- addresses handed over
  have given : ∀ {b : Addr} {j : Nat}, IoA args j → iaOf vs j = b → ∃ i s x, as[j]? = some (.at i) ∧ e[i]? = some s ∧ s.own = some x ∧ σ[i]? = some (some (.ref b)) := fun {b j} ⟨x, q⟩ eb => by
    obtain ⟨a, h1, h2⟩ := args_at ha q
    obtain ⟨i, s, rfl, h3, h4⟩ := slOf_io h2
    obtain ⟨h5, _, _⟩ := pre.2.2.2.1 j x q
    refine ⟨i, s, x, h1, h3, h4, ?_⟩
    rw [← eb]
    have : ArOk K mg G σ (.ref (iaOf vs j)) (.at i) := r.2 j _ _ h5 h1
    exact this
  have at_ : ∀ {i : Nat} {t : Sl}, (putBack as o e)[i]? = some t → (i ∉ ixs as ∧ e[i]? = some t) ∨ t = .no ∨ ∃ (j : Nat) (s : Sl) (x : Ct), as[j]? = some (Ar.at i) ∧ e[i]? = some s ∧ o[j]? = some (Sl.io x) ∧ t = s.put x := fun {i t} q => by
    by_cases hi : i ∈ ixs as
    · obtain ⟨j, hj⟩ := of_ixs hi
      have hl : i < e.length := by
        have := (List.getElem?_eq_some_iff.mp q).1
        rw [putBack_len] at this; exact this
      rcases putBack_at (o := o) nd hj (List.getElem?_eq_getElem hl) with ⟨x, h1, h2⟩ | h1
      · rw [h2] at q; cases q
        exact .inr (.inr ⟨j, _, x, hj, List.getElem?_eq_getElem hl, h1, rfl⟩)
      · rw [h1] at q; cases q
        exact .inr (.inl rfl)
    · rw [putBack_out hi] at q
      exact .inl ⟨hi, q⟩
  -- an own slot behind the call was own ahead of it
  have own_ : ∀ {i : Nat} {t : Sl} {y : Ct}, (putBack as o e)[i]? = some t → t.own = some y → ∃ s x, e[i]? = some s ∧ s.own = some x ∧ (∀ z, t = .io z → ∃ z', s = .io z') ∧ (∀ z, t = .ow z → ∃ z', s = .ow z') := fun {i t y} q q2 => by
    rcases at_ q with ⟨_, h⟩ | h | ⟨j, s, x, h1, h2, h3, h4⟩
    · exact ⟨t, y, h, q2, fun z hz => ⟨z, hz⟩, fun z hz => ⟨z, hz⟩⟩
    · subst h; cases q2
    · subst h4
      cases s with
      | no => cases q2
      | sh _ => cases q2
      | ow z => exact ⟨_, z, h2, rfl, fun z hz => (by cases hz), fun _ _ => ⟨z, rfl⟩⟩
      | io z => exact ⟨_, z, h2, rfl, fun _ _ => ⟨z, rfl⟩, fun z hz => (by cases hz)⟩
  -- cells that were not handed over
  have kept : ∀ {i : Nat} {s : Sl} {x : Ct} {b : Addr}, i ∉ ixs as → e[i]? = some s → s.own = some x → σ[i]? = some (some (.ref b)) → ∀ c u, H c = some u → (c = b ∨ u = .own b) → H' c = some u := fun {i s x b} hi q1 q2 q3 c u hc hu => by
    refine P.fr c u hc fun j hj ej => ?_
    obtain ⟨i', s', x', g1, g2, g3, g4⟩ := given hj ej
    obtain ⟨a', f1, f2, f3⟩ := S.ow i' s' x' g2 g3
    rw [g4] at f1; cases f1
    obtain ⟨u', hu', nu'⟩ := f3.at
    rw [hc] at hu'; cases hu'
    rcases hu with hu | hu
    · subst hu
      have := S.ap i i' s s' x x' _ q1 g2 q2 g3 q3 g4
      subst this
      exact hi (mem_ixs g1)
    · exact nu' _ hu
  refine ⟨P.sub, by rw [putBack_len]; exact S.len, fun i d q => ?_, fun i t y q1 q2 => ?_, fun i y q => ?_, fun i j s t x y a h1 h2 h3 h4 h5 h6 => ?_, fun a u h1 h2 => ?_, fun a u h => ?_, fun i y a q1 q2 => ?_, fun a h => S.dm a (P.dm a h), fun a u h => ?_, fun i t y a q1 q2 q3 => ?_⟩
  · rcases at_ q with ⟨_, h⟩ | h | ⟨j, s, x, h1, h2, h3, h4⟩
    · obtain ⟨v, g1, g2⟩ := S.sh i d h
      exact ⟨v, g1, g2.mono P.s⟩
    · cases h
    · cases s <;> cases h4
      have := argsOf_get ha
      obtain ⟨_, f⟩ := this
      obtain ⟨s', g1, g2⟩ := f j _ h1
      unfold slOf at g2
      dsimp only at g2
      rw [h2] at g2
      cases g2
  · rcases at_ q1 with ⟨hi, h⟩ | h | ⟨j, s, x, h1, h2, h3, h4⟩
    · obtain ⟨b, g1, g2, g3⟩ := S.ow i t y h q2
      obtain ⟨u, hu, nu⟩ := g3.at
      refine ⟨b, g1, ?_, (g3.mono P.s fun c hc gc => ?_).keep (kept hi h q2 g1)⟩
      · cases z : G' b with
        | none => rfl
        | some w =>
          rcases P.nw b w z with z | z
          · rw [g2] at z; cases z
          · rw [hu] at z; cases z
      · cases z : G' c with
        | none => rfl
        | some w =>
          rcases P.nw c w z with z | z
          · rw [gc] at z; cases z
          · rw [hc] at z; cases z
    · subst h; cases q2
    · subst h4
      obtain ⟨hy, g1, g2⟩ := P.io j x h3
      obtain ⟨y', hy'⟩ := hy
      obtain ⟨i', s', x', f1, f2, f3, f4⟩ := given ⟨y', hy'⟩ rfl
      rw [h1] at f1
      cases f1
      rw [h2] at f2; cases f2
      rw [Sl.put_own f3] at q2; cases q2
      exact ⟨_, f4, g1, g2⟩
  · obtain ⟨s, x, h1, h2, h3, _⟩ := own_ q rfl
    obtain ⟨z', h4⟩ := h3 y rfl
    subst h4
    exact S.io i z' h1
  · obtain ⟨s1, x1, f1, f2, _, _⟩ := own_ h1 h3
    obtain ⟨s2, x2, g1, g2, _, _⟩ := own_ h2 h4
    exact S.ap i j s1 s2 x1 x2 a f1 g1 f2 g2 h5 h6
  · refine P.fr a u (S.fr a u h1 h2) fun j hj ej => ?_
    obtain ⟨i, s, x, g1, g2, g3, g4⟩ := given hj ej
    cases s with
    | no => cases g3
    | sh _ => cases g3
    | ow z =>
      have := S.of i z a g2 g4
      rw [this] at h1; cases h1
    | io z =>
      obtain ⟨k1, k2⟩ := S.io i z g2
      rw [g4] at k1; cases k1
      exact h2 i k2 rfl
  · rcases P.nw a u h with z | z
    · exact S.nw a u z
    · exact .inr (S.dm a z)
  · obtain ⟨s, x, h1, h2, _, h3⟩ := own_ q1 rfl
    obtain ⟨z', h4⟩ := h3 y rfl
    subst h4
    exact S.of i z' a h1 q2
  · obtain ⟨k1, k2⟩ := S.kp a u h
    refine ⟨P.fr a u k1 fun j hj ej => ?_, ?_⟩
    · obtain ⟨i, s, x, g1, g2, g3, g4⟩ := given hj ej
      have := S.ka i s x a g2 g3 g4
      rw [this] at h; cases h
    · cases z : G' a with
      | none => rfl
      | some w =>
        rcases P.nw a w z with z | z
        · rw [k2] at z; cases z
        · rw [k1] at z; cases z
  · obtain ⟨s, x, h1, h2, _, _⟩ := own_ q1 q2
    exact S.ka i s x a h1 h2 q3
end

/-! ### defs -/
/-- the def of the text at st: what it does -/
structure DF (P : Program) (w : World) (K : PySem.W.Frag) (mg : MG) (base : Heap) (k : Nat) (x : Str) (st : Stmt) (ps : List Str) (sem : FS) : Prop where
  ex : ∃ f fd, FnOk P w K mg base (L2.CX P w) k f fd ps (spF K mg sem) ∧ mg x = some (.ref f) ∧ FunD K x x (defArgs st) (defBody st) (defScope st) [] [] f fd ∧ Binds K fd ps []
theorem DF.up {P : Program} {w : World} {K : PySem.W.Frag} {mg : MG} {base : Heap} {j k : Nat} {x : Str} {st : Stmt} {ps : List Str} {sem : FS} (F : DF P w K mg base j x st ps sem) (h : j ≤ k) : DF P w K mg base k x st ps sem := by
  obtain ⟨f, fd, h1, h2⟩ := F.ex
  exact ⟨f, fd, h1.mono h, h2⟩
section
variable {P : Program} {w : World} {K : PySem.W.Frag} {mg : MG} {base : Heap} {k : Nat} {x : Str} {st : Stmt} {N ps : List Str} {m : M Fl} {f : Addr} {fd : FuncData}
theorem spF_len {sem : FS} {n j : Nat} {vs : List V} {H : Hp} {Q : VK} {E : XK} (h : spF K mg (sFun n j m) vs H Q E) : vs.length = j := by
  obtain ⟨ia, G, args, pre, q⟩ := h
  unfold sFun at q
  by_cases z : args.length = j
  · exact pre.2.1.trans z
  · rw [if_neg z] at q; exact q.elim
theorem takes_fn {qual : Str} {scope : Scope} {cd : Value} {A : Around} {outer : List Env} {s : Shared} {H : Hp} {E : XK} : Takes (cxOf (L2.CX P w) P w K mg base N qual scope f cd A outer s H E) (fun cls d _ H => E cls d H) :=
  takes_of rfl rfl rfl rfl
theorem passes_fn {qual : Str} {scope : Scope} {cd : Value} {A : Around} {outer : List Env} {s : Shared} {H : Hp} {E : XK} :
    PassesOwn (model P w) (cxOf (L2.CX P w) P w K mg base N qual scope f cd A outer s H E).A (cxOf (L2.CX P w) P w K mg base N qual scope f cd A outer s H E).env (cxOf (L2.CX P w) P w K mg base N qual scope f cd A outer s H E).xe :=
  passes_of (K := fun e s'' => L2.CX P w outer H s E e s'') rfl
/-- a body's meaning gives what the promise asks of it -/
theorem body_ends {n j : Nat} {args : List Sl} {vs : List V} {G H : Hp} {ia : Nat → Addr} {Q : VK} {E : XK} (pre : PreF K mg ia G H vs args) (hl : args.length = j) (r : R Fl) (q : match endF j r with
    | .ok r outs => ∀ G' H', PostF K mg ia args G H G' H' outs → RetF K mg ia H G' H' outs Q r
    | .ex c fs outs => ∀ G' H' C d, PostF K mg ia args G H G' H' outs → mg (Str.ofString c) = some (.ref C) → Xr K mg G' H' d fs → E (.ref C) (some d) H'
    | .no => False) : Ws K mg (fun cls d _ H => E cls d H) ⟨ia, G, H, IoA args, fun _ => none⟩ G r { nx := fun _ H' => Q .non H', rt := Q } := by
  subst hl
  cases r with
  | no => exact q
  | ex c fs e => exact fun G' σ' H' C d s S hC hX => q G' H' C d (post_of S s) hC hX
  | ok fl e =>
    intro G' σ' H' s S
    cases fl with
    | bk => exact q.elim
    | ct => exact q.elim
    | nx => exact q G' H' (post_of S s) _ .non
    | rt r =>
      have z := q G' H' (post_of S s)
      cases r with
      | sh d => exact z
      | ow y =>
        intro a ga c h0 _ ap
        refine z a ga c h0 fun j x h => ?_
        obtain ⟨h1, h2⟩ := take_get h
        have := (S.io j x h1).1
        exact fun ej => ap j _ x h1 rfl (by rw [this]; show some (some (V.ref (ia j))) = _; rw [ej])
theorem df_mk (F : FunD K x x (defArgs st) (defBody st) (defScope st) [] [] f fd) (hmg : mg x = some (.ref f)) (S : FnScope N ps (defScope st)) (hp : ps.length ≤ N.length)
    (hb : ∀ (kV doc pm : Value) (an : Option Addr) (cdv ct : Value) (us : List Value), us.length = ps.length → bindArgs (PySem.W.fnOf x x (defArgs st) (defBody st) (defScope st) .none kV doc pm an cdv ct) ⟨us, []⟩ = pure (ps.zip us))
    (body : ∀ W : WX, DSs ⟨P, w, K, mg, base, N, defScope st, fun _ => true, k⟩ W (defBody st) m) : DF P w K mg base (k + 1) x st ps (sFun N.length ps.length m) := by
  refine ⟨f, fd, ?_, hmg, F, F.bindsN hb⟩
  refine F.ok S (fun vs H Q E h => spF_len (sem := sFun N.length ps.length m) h) (fun cdv A outer s H vs Q E hr h => ?_)
  obtain ⟨t, h1, h2⟩ := body fun cls d _ H => E cls d H
  refine ⟨t, h1 _ ⟨rfl, rfl, rfl, rfl, rfl, rfl, rfl, rfl, S.nd, rfl, hr, takes_fn, passes_fn⟩, ?_⟩
  have hvl := spF_len (sem := sFun N.length ps.length m) h
  obtain ⟨ia, G, args, pre, q⟩ := h
  have hl : args.length = ps.length := pre.2.1.symm.trans hvl
  unfold sFun at q
  rw [if_pos hl] at q
  have S0 := sr_start (N := N) pre (by rw [hvl]; exact hp)
  rw [hl] at S0
  exact h2 _ _ _ _ _ _ S0 (body_ends (n := N.length) pre hl _ q)
end

/-! ### calls -/
section
variable {I : CI} {W : WX} {X : Cx} {x : Str} {a : Expr} {es : List Expr} {pos p0 : Pos}
theorem gl_of {sc : Scope} (h : X.env.scope = sc) (g : sc.names.lookup x = some .globalImplicit) : Gl X x := by
  show X.env.scope.names.lookup x = _
  rw [h]; exact g
/-- the promise, at the caller's -/
theorem call_sim {sem : FS} {p : Pm} {G H : Hp} {σ : L2.St} {e : En} {Q : VK} {vs : List V} {as : List Ar} (S : Srp I.K I.mg p G σ H e) (r : ArsOk I.K I.mg G σ vs as)
    (w : Wp I.K I.mg W p G σ (callS sem as e) (fun r G' H' e' => RetK I.K I.mg p G' σ H' e' Q r)) : spF I.K I.mg sem vs H Q (WE W σ) := by
  unfold callS at w
  cases ha : argsOf e as with
  | none => rw [ha] at w; exact w.elim
  | some args =>
    rw [ha] at w
    dsimp only at w
    by_cases nd : (ixs as).Nodup
    · rw [if_pos nd] at w
      refine ⟨iaOf vs, G, args, pre_call S r ha nd, ?_⟩
      cases hs : sem args with
      | no => rw [hs] at w; exact w
      | ex c fs o =>
        rw [hs] at w
        intro G' H' C d P hC hX
        exact w G' H' C d P.s (post_call S r ha nd P) hC hX
      | ok rr o =>
        rw [hs] at w
        intro G' H' P
        have S' := post_call S r ha nd P
        have k := w G' H' P.s S'
        cases rr with
        | sh d => exact k
        | ow y =>
          intro b gb c h0 ap
          refine k b gb c (S.dm b h0) (by
            cases z : p.F b with
            | none => rfl
            | some u => have := (S.kp _ _ z).1; rw [h0] at this; cases this) fun i s z q1 q2 q3 => ?_
          -- an own slot's thing stood ahead of the call
          by_cases hi : i ∈ ixs as
          · obtain ⟨j, hj⟩ := of_ixs hi
            obtain ⟨_, f⟩ := argsOf_get ha
            obtain ⟨s1, f1, f2⟩ := f j _ hj
            have hv := r.1
            have hlt : j < vs.length := by rw [hv]; exact (List.getElem?_eq_some_iff.mp hj).1
            have := r.2 j _ _ (List.getElem?_eq_getElem hlt) hj
            have hσ : σ[i]? = some (some vs[j]) := this
            rw [q3] at hσ
            have e1 : vs[j] = .ref b := (Option.some.inj (Option.some.inj hσ)).symm
            unfold slOf at f2
            dsimp only at f2
            cases g1 : e[i]? with
            | none => rw [g1] at f2; cases f2
            | some s0 =>
              rw [g1] at f2
              cases g2 : s0.own with
              | none => dsimp only at f2; rw [g2] at f2; cases f2
              | some z0 =>
                obtain ⟨b', k1, k2, k3⟩ := S.ow i s0 z0 g1 g2
                rw [q3] at k1; cases k1
                obtain ⟨u, hu, _⟩ := k3.at
                rw [h0] at hu; cases hu
          · rw [putBack_out hi] at q1
            obtain ⟨b', k1, k2, k3⟩ := S.ow i s z q1 q2
            rw [q3] at k1; cases k1
            obtain ⟨u, hu, _⟩ := k3.at
            rw [h0] at hu; cases hu
    · rw [if_neg nd] at w; exact w.elim
def tCallS0 (sp : Sp) (E : L2.St → XK) : TE := fun σ H Q => sp [] H Q (E σ)
theorem dr_call {st : Stmt} {ps : List Str} {sem : FS} {k : Nat} {ma : M (List Ar)} (F : DF I.P I.w I.K I.mg I.base k x st ps sem) (hk : k ≤ I.k) (g : I.sc.names.lookup x = some .globalImplicit) (hd : (x == ("__debug__" : Str)) = false)
    (ha : DP I W (a :: es) ma) : DR I W (.Call (.Name x p0) (a :: es) [] pos) (rCall sem ma) := by
  obtain ⟨f, fd, F1, F2, F3, F4⟩ := F.ex
  obtain ⟨n, t, h1, h2⟩ := ha
  have n2 : nst a = true ∧ es.all nst = true := by simpa using n
  refine ⟨tCallS (spF I.K I.mg sem) (WE W) t, fun X ok => ?_, fun p G σ H e Q S w => ?_⟩
  · obtain ⟨P, ww, K, mg, base, N, sc, fn, kk⟩ := I
    obtain ⟨e1, e2, e3, e4, e5, e6, e7, e8, nd, calm, room, takes, passes⟩ := id ok
    dsimp only at *
    subst e1 e2 e3 e4 e5
    exact pe_callS F1 (room.mono hk) (gl_of e7 g) F2 F3.kp F4 (fun σ => passAt takes σ) (h1 X ok) hd (star_of n2.1 _ _) (by rw [no_back]; exact no_star n2.2 _)
  · refine h2 p G σ H e _ S (Wp.mono (Wp.bnd w) fun as G1 H1 e1 s1 S1 w1 vs rs => ?_)
    exact call_sim S1 rs w1
end
end DL
end

section
namespace DL
open PySem PySem.Spec L2
open PyProof.Rows hiding St

/-! ### truth -/
def dTru : D → Option Bool
  | .non => some false
  | .bl b => some b
  | .int i => some (i != 0)
  | .str x => if x.length ≤ LIM then some ((x.length : Int) != 0) else none
  | .tup l => some (!l.isEmpty)
  | .lst l => some (!l.isEmpty)
  | .dct l => some (!l.isEmpty)
  | .obj _ _ => none
theorem isEmpty_len {α β : Type} {l : List α} {m : List β} (h : l.length = m.length) : l.isEmpty = m.isEmpty := by
  cases l <;> cases m <;> simp_all
theorem tru_of {K : PySem.W.Frag} {mg : MG} {G H : Hp} {v : V} {d : D} {k : Bool} (r : Rep K mg G v d) (s : Same G H) (h : dTru d = some k) : TruV K v H k := by
  have ll := lim_line
  cases r with
  | non => cases h; rfl
  | bl b => cases h; rfl
  | int i => cases h; rfl
  | str x =>
    unfold dTru at h
    dsimp only at h
    split at h
    · cases h; exact ⟨by omega, rfl⟩
    · cases h
  | tup h1 h2 _ => cases h; exact .inr (.inl ⟨_, Same.seqT s h1, by rw [isEmpty_len h2]⟩)
  | lst h1 h2 _ => cases h; exact .inl ⟨_, LsT.sq (Same.ls s h1), by rw [isEmpty_len h2]⟩
  | dct h1 h2 _ _ => cases h; exact .inr (.inr ⟨_, s _ _ h1, by rw [isEmpty_len h2]⟩)
  | obj _ _ _ _ _ _ => cases h
def tTru (m : M D) : M Bool := M.bnd m fun d => lift (dTru d)
section
variable {I : CI} {W : WX} {a b c : Expr} {rest : List Expr} {pos : Pos}
theorem dt_val {m : M D} (h : DE I W a m) (he : ∀ (env : Env) (whole : Sem Value), isTrue a env whole = (do let v ← whole; standAt a.pos; holding [v] (truthy v))) : DT I W a (tTru m) := by
  obtain ⟨t, h1, h2⟩ := h
  refine ⟨fun σ H Q => t σ H fun x H' => ∃ k, TruV I.K x H' k ∧ Q k H', fun X ok => ?_, fun p G σ H e Q S w => ?_⟩
  · have := pt_truth (h1 X ok) (he X.env)
    rw [ok.hK] at this
    exact this
  · refine h2 p G σ H e _ S (Wp.mono (Wp.bnd w) fun d G1 H1 e1 s1 S1 w1 v r => ?_)
    obtain ⟨k, hk, q⟩ := lift_wp w1
    exact ⟨k, tru_of r S1.sub hk, q G1 H1 (Same.refl _) S1⟩
/-- tests joined by and, or: they stand by themselves -/
def DW (I : CI) (W : WX) (e : Expr) (m : M Bool) : Prop := ∃ t, (∀ X, Okx I W X → PW X e t) ∧ SimT I W t m
theorem dt_w {m : M Bool} (h : DW I W a m) : DT I W a m := let ⟨t, h1, h2⟩ := h; ⟨t, fun X ok => (h1 X ok).pt, h2⟩
def tAndM (m n : M Bool) : M Bool := M.bnd m fun k => if k = true then n else M.ret false
def tOrM (m n : M Bool) : M Bool := M.bnd m fun k => if k = true then M.ret true else n
theorem dw_and1 {m : M Bool} (h : DT I W a m) : DW I W (.BoolOp .And [a] pos) m := let ⟨t, h1, h2⟩ := h; ⟨t, fun X ok => pw_and1 (h1 X ok), h2⟩
theorem dw_or1 {m : M Bool} (h : DT I W a m) : DW I W (.BoolOp .Or [a] pos) m := let ⟨t, h1, h2⟩ := h; ⟨t, fun X ok => pw_or1 (h1 X ok), h2⟩
theorem dw_and {m n : M Bool} (h : DT I W a m) (h' : DW I W (.BoolOp .And (b :: rest) pos) n) : DW I W (.BoolOp .And (a :: b :: rest) pos) (tAndM m n) := by
  obtain ⟨t, h1, h2⟩ := h
  obtain ⟨u, h3, h4⟩ := h'
  refine ⟨_, fun X ok => pw_and (h1 X ok) (h3 X ok), fun p G σ H e Q S w => ?_⟩
  refine h2 p G σ H e _ S (Wp.mono (Wp.bnd w) fun k G1 H1 e1 s1 S1 w1 => ?_)
  cases k with
  | true =>
    rw [if_pos rfl] at w1 ⊢
    exact h4 p G1 σ H1 e1 _ S1 w1
  | false =>
    rw [if_neg Bool.false_ne_true] at w1 ⊢
    exact w1 G1 H1 (Same.refl _) S1
theorem dw_or {m n : M Bool} (h : DT I W a m) (h' : DW I W (.BoolOp .Or (b :: rest) pos) n) : DW I W (.BoolOp .Or (a :: b :: rest) pos) (tOrM m n) := by
  obtain ⟨t, h1, h2⟩ := h
  obtain ⟨u, h3, h4⟩ := h'
  refine ⟨_, fun X ok => pw_or (h1 X ok) (h3 X ok), fun p G σ H e Q S w => ?_⟩
  refine h2 p G σ H e _ S (Wp.mono (Wp.bnd w) fun k G1 H1 e1 s1 S1 w1 => ?_)
  cases k with
  | true =>
    rw [if_pos rfl] at w1 ⊢
    exact w1 G1 H1 (Same.refl _) S1
  | false =>
    rw [if_neg Bool.false_ne_true] at w1 ⊢
    exact h4 p G1 σ H1 e1 _ S1 w1
def tNotM (m : M Bool) : M Bool := M.bnd m fun k => M.ret (!k)
theorem dt_not {m : M Bool} (h : DT I W a m) : DT I W (.UnaryOp .Not a pos) (tNotM m) := by
  obtain ⟨t, h1, h2⟩ := h
  refine ⟨_, fun X ok => pt_not (h1 X ok), fun p G σ H e Q S w => ?_⟩
  exact h2 p G σ H e _ S (Wp.mono (Wp.bnd w) fun k G1 H1 e1 s1 S1 w1 => w1 G1 H1 (Same.refl _) S1)
/-! ### as values -/
def eAnd (m n : M D) : M D := M.bnd m fun d => M.bnd (lift (dTru d)) fun k => if k = true then n else M.ret d
def eOr (m n : M D) : M D := M.bnd m fun d => M.bnd (lift (dTru d)) fun k => if k = true then M.ret d else n
def eNot (m : M D) : M D := M.bnd m fun d => M.bnd (lift (dTru d)) fun k => M.ret (.bl (!k))
theorem de_one {op} {m : M D} (h : DE I W a m) : DE I W (.BoolOp op [a] pos) m := let ⟨t, h1, h2⟩ := h; ⟨t, fun X ok => pe_one (h1 X ok), h2⟩
theorem de_and {m n : M D} (h : DE I W a m) (h' : DE I W (.BoolOp .And (b :: rest) pos) n) : DE I W (.BoolOp .And (a :: b :: rest) pos) (eAnd m n) := by
  obtain ⟨t, h1, h2⟩ := h
  obtain ⟨u, h3, h4⟩ := h'
  refine ⟨tAndT I.K t u, fun X ok => (by have := pe_andT (pos := pos) (h1 X ok) (h3 X ok); rw [ok.hK] at this; exact this), fun p G σ H e Q S w => ?_⟩
  refine h2 p G σ H e _ S (Wp.mono (Wp.bnd w) fun d G1 H1 e1 s1 S1 w1 v r => ?_)
  obtain ⟨k, hk, q⟩ := lift_wp (Wp.bnd w1)
  refine ⟨k, tru_of r S1.sub hk, ?_⟩
  have w2 := q G1 H1 (Same.refl _) S1
  cases k with
  | true =>
    rw [if_pos rfl] at w2 ⊢
    exact h4 p G1 σ H1 e1 _ S1 w2
  | false =>
    rw [if_neg Bool.false_ne_true] at w2 ⊢
    exact w2 G1 H1 (Same.refl _) S1 v r
theorem de_or {m n : M D} (h : DE I W a m) (h' : DE I W (.BoolOp .Or (b :: rest) pos) n) : DE I W (.BoolOp .Or (a :: b :: rest) pos) (eOr m n) := by
  obtain ⟨t, h1, h2⟩ := h
  obtain ⟨u, h3, h4⟩ := h'
  refine ⟨tOrT I.K t u, fun X ok => (by have := pe_orT (pos := pos) (h1 X ok) (h3 X ok); rw [ok.hK] at this; exact this), fun p G σ H e Q S w => ?_⟩
  refine h2 p G σ H e _ S (Wp.mono (Wp.bnd w) fun d G1 H1 e1 s1 S1 w1 v r => ?_)
  obtain ⟨k, hk, q⟩ := lift_wp (Wp.bnd w1)
  refine ⟨k, tru_of r S1.sub hk, ?_⟩
  have w2 := q G1 H1 (Same.refl _) S1
  cases k with
  | true =>
    rw [if_pos rfl] at w2 ⊢
    exact w2 G1 H1 (Same.refl _) S1 v r
  | false =>
    rw [if_neg Bool.false_ne_true] at w2 ⊢
    exact h4 p G1 σ H1 e1 _ S1 w2
theorem de_not {m : M D} (h : DE I W a m) : DE I W (.UnaryOp .Not a pos) (eNot m) := by
  obtain ⟨t, h1, h2⟩ := h
  refine ⟨tNotT I.K t, fun X ok => (by have := pe_notT (pos := pos) (h1 X ok); rw [ok.hK] at this; exact this), fun p G σ H e Q S w => ?_⟩
  refine h2 p G σ H e _ S (Wp.mono (Wp.bnd w) fun d G1 H1 e1 s1 S1 w1 v r => ?_)
  obtain ⟨k, hk, q⟩ := lift_wp (Wp.bnd w1)
  exact ⟨k, tru_of r S1.sub hk, q G1 H1 (Same.refl _) S1 G1 H1 (Same.refl _) S1 _ (.bl _)⟩
def rIf (c : M Bool) (m n : M Ret) : M Ret := M.bnd c fun k => if k = true then m else n
theorem dr_if {k : M Bool} {m n : M Ret} (hc : DT I W c k) (ha : DR I W a m) (hb : DR I W b n) : DR I W (.IfExp c a b pos) (rIf k m n) := by
  obtain ⟨t, h1, h2⟩ := hc
  obtain ⟨ta, a1, a2⟩ := ha
  obtain ⟨tb, b1, b2⟩ := hb
  refine ⟨_, fun X ok => pe_ifExp (h1 X ok) (a1 X ok) (b1 X ok), fun p G σ H e Q S w => ?_⟩
  refine h2 p G σ H e _ S (Wp.mono (Wp.bnd w) fun d G1 H1 e1 s1 S1 w1 => ?_)
  cases d with
  | true =>
    rw [if_pos rfl] at w1 ⊢
    exact a2 p G1 σ H1 e1 _ S1 w1
  | false =>
    rw [if_neg Bool.false_ne_true] at w1 ⊢
    exact b2 p G1 σ H1 e1 _ S1 w1
/-! ### one-place operators -/
def eUn (g : Int → Int) (m : M D) : M D := M.bnd m fun d => match d with
  | .int i => M.ret (.int (g i))
  | _ => fun _ => .no
theorem de_un {op : UnaryOp} {g : Int → Int} (ho : ∀ X, UnR X (unaryOp op) (rU fun i => .int (g i))) {m : M D} (h : DE I W a m) : DE I W (.UnaryOp op a pos) (eUn g m) := by
  obtain ⟨t, h1, h2⟩ := h
  refine ⟨_, fun X ok => pe_un (ho X) (h1 X ok), fun p G σ H e Q S w => ?_⟩
  refine h2 p G σ H e _ S (Wp.mono (Wp.bnd w) fun d G1 H1 e1 s1 S1 w1 v r => ?_)
  cases r <;> first | exact w1.elim | skip
  rename_i i
  exact ⟨i, rfl, w1 G1 H1 (Same.refl _) S1 _ (.int _)⟩
theorem de_neg {m : M D} (h : DE I W a m) : DE I W (.UnaryOp .USub a pos) (eUn (fun i => -i) m) := de_un (fun _ => un_neg) h
theorem de_inv {m : M D} (h : DE I W a m) : DE I W (.UnaryOp .Invert a pos) (eUn Builtin.bitNot m) := de_un (fun _ => un_inv) h
/-! ### displays -/
def eTup (m : M (List Ar)) : M D := M.bnd (aVals m) fun ds => if ds.length ≤ LIM then M.ret (.tup ds) else fun _ => .no
def rLst (m : M (List Ar)) : M Ret := M.bnd (aVals m) fun ds => if ds.length ≤ LIM then M.ret (.ow (.l ds)) else fun _ => .no
theorem de_tup {es : List Expr} {m : M (List Ar)} {k} (h : DP I W es m) : DE I W (.Tuple es k pos) (eTup m) := by
  obtain ⟨n, t, h1, h2⟩ := h
  refine ⟨_, fun X ok => pe_tup (h1 X ok), fun p G σ H e Q S w => ?_⟩
  refine simA_of h2 p G σ H e _ S (Wp.mono (Wp.bnd w) fun ds G1 H1 e1 s1 S1 w1 vs r => ?_)
  have ll := lim_line
  split at w1
  · refine ⟨by rw [r.1]; omega, fun q n => ?_⟩
    obtain ⟨s2, S2⟩ := S1.laid (o := .tup vs) n
    exact w1 _ _ s2 S2 _ (.mk_tup (.of upd_same) (r.mono s2))
  · exact w1.elim
theorem dr_lst {es : List Expr} {m : M (List Ar)} (h : DP I W es m) : DR I W (.List es pos) (rLst m) := by
  obtain ⟨n, t, h1, h2⟩ := h
  refine ⟨_, fun X ok => pe_lst (h1 X ok), fun p G σ H e Q S w => ?_⟩
  refine simA_of h2 p G σ H e _ S (Wp.mono (Wp.bnd w) fun ds G1 H1 e1 s1 S1 w1 vs r => ?_)
  have ll := lim_line
  split at w1
  · refine ⟨by rw [r.1]; omega, fun q n => ?_⟩
    obtain ⟨S2, gn, h0, hF, ap⟩ := S1.laidOw (o := .lst vs) n
    exact w1 G1 _ (Same.refl _) S2 q gn ⟨vs, upd_same, r⟩ h0 hF ap
  · exact w1.elim
/-- {} and {'a': ..}: kept for what they are -/
theorem de_dict0 : DE I W (.Dict [] [] pos) (eC (.dct [])) := by
  refine ⟨_, fun X ok => pe_dnewK, fun p G σ H e Q S w => fun q n => ?_⟩
  obtain ⟨s2, S2⟩ := S.laid (o := .dK []) n
  exact w _ _ s2 S2 _ (.dct upd_same rfl (fun i kv kd h => by simp at h) (fun i kv kd h => by simp at h))
end
end DL
end

section
namespace DL
open PySem PySem.Spec L2
open PyProof.Rows hiding St

/-! ### statements -/
def sSeq (m n : M Fl) : M Fl := M.bnd m fun fl => match fl with
  | .nx => n
  | fl => M.ret fl
section
variable {I : CI} {W : WX} {st : Stmt} {rest : List Stmt} {m n : M Fl} {pos : Pos}
theorem seq_sim {t u : TS} (h : SimS I W t m) (h' : SimS I W u n) : SimS I W (tSeq t u) (sSeq m n) := by
  intro p G σ H e E S w
  refine h p G σ H e _ S ?_
  unfold sSeq M.bnd at w
  cases r : m e with
  | no => rw [r] at w; exact w
  | ex c fs e' => rw [r] at w; exact w
  | ok fl e' =>
    rw [r] at w
    intro G' σ' H' s S'
    cases fl with
    | nx => exact h' p G' σ' H' e' E S' (Ws.up w s)
    | bk => exact w G' σ' H' s S'
    | ct => exact w G' σ' H' s S'
    | rt r => exact w G' σ' H' s S'
def sNil : M Fl := M.ret .nx
theorem dss_nil : DSs I W [] sNil := ⟨tNext, fun _ _ => pss_nil, fun p G σ H e E S w => w G σ H (Same.refl _) S⟩
theorem dss_cons (h : DS I W st m) (h' : DSs I W rest n) : DSs I W (st :: rest) (sSeq m n) := by
  obtain ⟨t, h1, h2⟩ := h
  obtain ⟨u, h3, h4⟩ := h'
  exact ⟨_, fun X ok => pss_cons (h1 X ok) (h3 X ok), seq_sim h2 h4⟩
theorem dss_one (h : DS I W st m) : DSs I W [st] m := let ⟨t, h1, h2⟩ := h; ⟨t, fun X ok => pss_one (h1 X ok), h2⟩
theorem ds_pass : DS I W (.Pass pos) sNil := ⟨tNext, fun _ _ => ps_pass, fun p G σ H e E S w => w G σ H (Same.refl _) S⟩
def sBreak : M Fl := M.ret .bk
def sCont : M Fl := M.ret .ct
theorem ds_break : DS I W (.Break pos) sBreak := ⟨_, fun _ _ => ps_break, fun p G σ H e E S w => w G σ H (Same.refl _) S⟩
theorem ds_continue : DS I W (.Continue pos) sCont := ⟨_, fun _ _ => ps_continue, fun p G σ H e E S w => w G σ H (Same.refl _) S⟩
/-- code that is never come to -/
def sNever : M Fl := fun _ => .no
theorem ds_never : DS I W st sNever := ⟨tNever, fun _ _ => ps_never, fun p G σ H e E S w => w.elim⟩
def sRet (m : M Ret) : M Fl := M.bnd m fun r => M.ret (.rt r)
theorem ds_ret {a : Expr} {m : M Ret} (h : DR I W a m) : DS I W (.Return (some a) pos) (sRet m) := by
  obtain ⟨t, h1, h2⟩ := h
  refine ⟨_, fun X ok => ps_ret (h1 X ok), fun p G σ H e E S w => ?_⟩
  exact h2 p G σ H e _ S (Wp.mono (Ws.bnd w) fun r G1 H1 e1 s1 S1 w1 => w1 G1 σ H1 (Same.refl _) S1)
/-- return x, where x is an own name: it is handed over -/
def sRetV (i : Nat) : M Fl := fun e => match e[i]? with
  | some (.ow x) => .ok (.rt (.ow x)) (e.set i .no)
  | some (.sh d) => .ok (.rt (.sh d)) e
  | _ => .no
theorem ds_retV {i : Nat} {x : Str} {p0 : Pos} (h : VarOk I.N I.sc i x) : DS I W (.Return (some (.Name x p0)) pos) (sRetV i) := by
  refine ⟨tRet (tVar i), fun X ok => ps_ret (pe_var (by rw [ok.hN]; exact h.hN) (by rw [ok.hsc]; exact h.hv) h.hd h.hc), fun p G σ H e E S w => ?_⟩
  unfold sRetV at w
  cases q : e[i]? with
  | none => rw [q] at w; exact w.elim
  | some s =>
    rw [q] at w
    cases s with
    | no => exact w.elim
    | io _ => exact w.elim
    | sh d =>
      obtain ⟨v, h1, h2⟩ := S.sh i d q
      exact ⟨v, h1, w G σ H (Same.refl _) S v h2⟩
    | ow x =>
      obtain ⟨a, h1, h2, h3⟩ := S.ow i _ x q rfl
      refine ⟨_, h1, w G σ H (Same.refl _) (S.drop i) a h2 h3 (S.of i x a q h1) (S.ka i _ x a q rfl h1) fun j s y q1 q2 q3 => ?_⟩
      by_cases hj : i = j
      · subst hj
        rw [List.getElem?_set_self (List.getElem?_eq_some_iff.mp q).1] at q1; cases q1; cases q2
      · rw [List.getElem?_set_ne hj] at q1
        exact hj (S.ap i j _ s x y a q q1 rfl q2 h1 q3)
theorem ds_retN : DS I W (.Return none pos) (M.ret (.rt (.sh .non))) := ⟨_, fun _ _ => ps_retN, fun p G σ H e E S w => w G σ H (Same.refl _) S _ .non⟩
def sIf (c : M Bool) (m n : M Fl) : M Fl := M.bnd c fun k => if k = true then m else n
theorem ds_if {c : Expr} {a b : List Stmt} {k : M Bool} (hc : DT I W c k) (ha : DSs I W a m) (hb : DSs I W b n) : DS I W (.If c a b pos) (sIf k m n) := by
  obtain ⟨t, h1, h2⟩ := hc
  obtain ⟨ta, a1, a2⟩ := ha
  obtain ⟨tb, b1, b2⟩ := hb
  refine ⟨_, fun X ok => ps_if (h1 X ok) (a1 X ok) (b1 X ok), fun p G σ H e E S w => ?_⟩
  refine h2 p G σ H e _ S (Wp.mono (Ws.bnd w) fun d G1 H1 e1 s1 S1 w1 => ?_)
  cases d with
  | true =>
    rw [if_pos rfl] at w1 ⊢
    exact a2 p G1 σ H1 e1 _ S1 w1
  | false =>
    rw [if_neg Bool.false_ne_true] at w1 ⊢
    exact b2 p G1 σ H1 e1 _ S1 w1
def sDrop {α : Type} (m : M α) : M Fl := M.bnd m fun _ => M.ret .nx
theorem ds_expr {a : Expr} {m : M D} (h : DE I W a m) (hs : ∀ env : Env, env.scope = I.sc → swapsWith a none pos.line env = pure false) : DS I W (.Expr a pos) (sDrop m) := by
  obtain ⟨t, h1, h2⟩ := h
  refine ⟨_, fun X ok => ps_expr (h1 X ok) (hs X.env ok.hsc), fun p G σ H e E S w => ?_⟩
  exact h2 p G σ H e _ S (Wp.mono (Ws.bnd w) fun r G1 H1 e1 s1 S1 w1 v _ => w1 G1 σ H1 (Same.refl _) S1)

/-! ### targets -/
def Wg (K : PySem.W.Frag) (mg : MG) (p : Pm) (G : Hp) (r : R Unit) (k : Hp → L2.St → Hp → En → Prop) : Prop := match r with
  | .ok _ e => ∀ G' σ' H', Same G G' → Srp K mg p G' σ' H' e → k G' σ' H' e
  | _ => False
/-- σ' differs from σ at the places gs alone -/
def Dif (gs : List Nat) (σ σ' : L2.St) : Prop := σ'.length = σ.length ∧ ∀ j : Nat, j ∉ gs → σ'[j]? = σ[j]?
def SimG (I : CI) (W : WX) (t : TG) (g : D → M Unit) (gs : List Nat) : Prop := ∀ (p : Pm) G σ H e v d (Q : L2.St → Hp → Prop), Srp I.K I.mg p G σ H e → Rep I.K I.mg G v d → Wg I.K I.mg p G (g d e) (fun _ σ' H' _ => Dif gs σ σ' → Q σ' H') → t v σ H Q
def DG (I : CI) (W : WX) (tg : Expr) (g : D → M Unit) (gs : List Nat) : Prop := ∃ t, (∀ X, Okx I W X → PG X tg t) ∧ SimG I W t g gs
/-- a name that may be stored -/
structure SetOk (N : List Str) (sc : Scope) (fn : Str → Bool) (i : Nat) (x : Str) : Prop where
  hN : N[i]? = some x
  hv : Loc sc x
  hf : fn x = true ∨ sc.names.lookup x = some .local
def gSet (i : Nat) (d : D) : M Unit := fun e => match e[i]? with
  | some (.io _) => .no
  | some _ => .ok () (e.set i (.sh d))
  | none => .no
theorem dif_set (i : Nat) (v : Option V) (σ : L2.St) : Dif [i] σ (σ.set i v) := ⟨by simp, fun j hj => by
  rw [List.getElem?_set_ne (by simpa using fun z => hj (by simp [z]))]⟩
theorem dg_name {i : Nat} {x : Str} (h : SetOk I.N I.sc I.fn i x) : DG I W (.Name x pos) (gSet i) [i] := by
  refine ⟨gName i, fun X ok => pg_name (by rw [ok.hN]; exact ok.nd) (by rw [ok.hN]; exact h.hN) (by rw [ok.hsc]; exact h.hv) (by rw [ok.hfn, ok.hsc]; exact h.hf), fun p G σ H e v d Q S r w => ?_⟩
  unfold gSet at w
  cases q : e[i]? with
  | none => rw [q] at w; exact w.elim
  | some s =>
    have hi := (List.getElem?_eq_some_iff.mp q).1
    rw [q] at w
    cases s with
    | io _ => exact w.elim
    | no => exact w G _ H (Same.refl _) (S.setSh r hi fun y z => by rw [q] at z; cases z) (dif_set i _ _)
    | sh _ => exact w G _ H (Same.refl _) (S.setSh r hi fun y z => by rw [q] at z; cases z) (dif_set i _ _)
    | ow _ => exact w G _ H (Same.refl _) (S.setSh r hi fun y z => by rw [q] at z; cases z) (dif_set i _ _)
def SimGs (I : CI) (W : WX) (t : TGs) (g : List D → M Unit) (gs : List Nat) : Prop := ∀ (p : Pm) G σ H e vs ds (Q : L2.St → Hp → Prop), Srp I.K I.mg p G σ H e → Reps I.K I.mg G vs ds → Wg I.K I.mg p G (g ds e) (fun _ σ' H' _ => Dif gs σ σ' → Q σ' H') → t vs σ H Q
def DGs (I : CI) (W : WX) (tgs : List Expr) (g : List D → M Unit) (gs : List Nat) : Prop := (∀ env : Env, (assignEach tgs env).length = tgs.length ∧ (assignEach tgs env).findIdx? (·.1) = none) ∧ ∃ t, (∀ X, Okx I W X → PGs X tgs t) ∧ SimGs I W t g gs
def gNilM (ds : List D) : M Unit := fun e => match ds with
  | [] => .ok () e
  | _ => .no
def gConsM (g : D → M Unit) (h : List D → M Unit) (ds : List D) : M Unit := match ds with
  | d :: ds => M.bnd (g d) fun _ => h ds
  | [] => fun _ => .no
theorem dgs_nil : DGs I W [] gNilM [] := by
  refine ⟨fun env => ⟨rfl, rfl⟩, gNil, fun _ _ => pgs_nil, fun p G σ H e vs ds Q S r w => ?_⟩
  cases ds with
  | nil =>
    have := r.1
    exact ⟨by simpa using this, w G σ H (Same.refl _) S ⟨rfl, fun _ _ => rfl⟩⟩
  | cons _ _ => exact w.elim
def nstG : Expr → Bool
  | .Starred _ _ => false
  | _ => true
theorem assignEach_cons {a : Expr} (h : nstG a = true) (as : List Expr) (env : Env) : assignEach (a :: as) env = (false, assign a env) :: assignEach as env := by
  cases a <;> first | rfl | cases h
theorem Reps.uncons {K : PySem.W.Frag} {mg : MG} {G : Hp} {vs : List V} {d : D} {ds : List D} (r : Reps K mg G vs (d :: ds)) : ∃ v vr, vs = v :: vr ∧ Rep K mg G v d ∧ Reps K mg G vr ds := by
  cases vs with
  | nil => have := r.1; simp at this
  | cons v vr => exact ⟨v, vr, rfl, r.2 0 v d rfl rfl, by have := r.1; simpa using this, fun i a b h1 h2 => r.2 (i + 1) a b (by simpa using h1) (by simpa using h2)⟩
theorem dgs_cons {a : Expr} {as : List Expr} {g : D → M Unit} {h : List D → M Unit} {gs hs : List Nat} (n : nstG a = true) (hg : DG I W a g gs) (hh : DGs I W as h hs) : DGs I W (a :: as) (gConsM g h) (gs ++ hs) := by
  obtain ⟨t, h1, h2⟩ := hg
  obtain ⟨k, u, h3, h4⟩ := hh
  refine ⟨fun env => ?_, gCons t u, fun X ok => pgs_cons (h1 X ok) (h3 X ok) (by rw [assignEach_cons n]; rfl), fun p G σ H e vs ds Q S r w => ?_⟩
  · rw [assignEach_cons n]
    obtain ⟨k1, k2⟩ := k env
    refine ⟨by simp [k1], ?_⟩
    rw [List.findIdx?_cons]
    simp [k2]
  · cases ds with
    | nil => exact w.elim
    | cons d ds =>
      obtain ⟨v, vr, rfl, r1, r2⟩ := r.uncons
      refine ⟨v, vr, rfl, h2 p G σ H e v d _ S r1 ?_⟩
      unfold gConsM M.bnd at w
      dsimp only at w
      cases z : g d e with
      | no => rw [z] at w; exact w.elim
      | ex c fs e' => rw [z] at w; exact w.elim
      | ok _ e' =>
        rw [z] at w
        intro G' σ' H' s S' d1
        refine h4 p G' σ' H' e' vr ds _ S' (r2.mono s) ?_
        dsimp only at w
        cases z2 : h ds e' with
        | no => rw [z2] at w; exact w.elim
        | ex c fs e2 => rw [z2] at w; exact w.elim
        | ok _ e2 =>
          rw [z2] at w
          exact fun G2 σ2 H2 s2 S2 d2 => w G2 σ2 H2 (s.trans s2) S2 ⟨d2.1.trans d1.1, fun j hj => (d2.2 j fun z => hj (List.mem_append_right _ z)).trans (d1.2 j fun z => hj (List.mem_append_left _ z))⟩
def gTupM (n : Nat) (h : List D → M Unit) (d : D) : M Unit := match d with
  | .tup ds => if ds.length = n then h ds else fun _ => .no
  | _ => fun _ => .no
theorem dg_tup {as : List Expr} {k} {h : List D → M Unit} {gs : List Nat} (hh : DGs I W as h gs) : DG I W (.Tuple as k pos) (gTupM as.length h) gs := by
  obtain ⟨q, u, h3, h4⟩ := hh
  refine ⟨gTup I.K as.length u, fun X ok => (by have := pg_tup (pos := pos) (k := k) ok.calm (h3 X ok) (q X.env).1 (q X.env).2; rw [ok.hK] at this; exact this), fun p G σ H e v d Q S r w => ?_⟩
  cases r <;> first | exact w.elim | skip
  rename_i a vs l h1 h2 h3'
  unfold gTupM at w
  dsimp only at w
  by_cases z : l.length = as.length
  · rw [if_pos z] at w
    exact ⟨a, vs, rfl, Same.seqT S.sub h1, h2.trans z, h4 p G σ H e vs l Q S ⟨h2, h3'⟩ w⟩
  · rw [if_neg z] at w; exact w.elim
/-- a list into names -/
def gLstM (n : Nat) (h : List D → M Unit) (d : D) : M Unit := match d with
  | .lst ds => if ds.length = n then h ds else fun _ => .no
  | _ => fun _ => .no
theorem dg_lst {as : List Expr} {k} {h : List D → M Unit} {gs : List Nat} (hh : DGs I W as h gs) : DG I W (.Tuple as k pos) (gLstM as.length h) gs := by
  obtain ⟨q, u, h3, h4⟩ := hh
  refine ⟨gUnl I.K as.length u, fun X ok => (by have := pg_unl (pos := pos) (k := k) ok.calm (h3 X ok) (q X.env).1 (q X.env).2; rw [ok.hK] at this; exact this), fun p G σ H e v d Q S r w => ?_⟩
  cases r <;> first | exact w.elim | skip
  rename_i a vs l h1 h2 h3'
  unfold gLstM at w
  dsimp only at w
  by_cases z : l.length = as.length
  · rw [if_pos z] at w
    exact ⟨a, vs, rfl, LsT.sq (Same.ls S.sub h1), h2.trans z, h4 p G σ H e vs l Q S ⟨h2, h3'⟩ w⟩
  · rw [if_neg z] at w; exact w.elim
/-! ### stores -/
def sAsg (m : M D) (g : D → M Unit) : M Fl := M.bnd m fun d => M.bnd (g d) fun _ => M.ret .nx
theorem ws_g {K : PySem.W.Frag} {mg : MG} {p : Pm} {G : Hp} {m : M Unit} {e : En} {E : Ends} (h : Ws K mg W p G (M.bnd m (fun _ => M.ret .nx) e) E) (hne : ∀ c fs e', m e ≠ .ex c fs e') : Wg K mg p G (m e) fun _ σ' H' _ => E.nx σ' H' := by
  unfold M.bnd at h
  cases z : m e with
  | no => rw [z] at h; exact h.elim
  | ex c fs e' => exact absurd z (hne c fs e')
  | ok _ e' => rw [z] at h; exact fun G' σ' H' s S => h G' σ' H' s S
theorem wg_dif {K : PySem.W.Frag} {mg : MG} {p : Pm} {G : Hp} {r : R Unit} {k : L2.St → Hp → Prop} {d : L2.St → Prop} (h : Wg K mg p G r fun _ σ' H' _ => k σ' H') : Wg K mg p G r fun _ σ' H' _ => d σ' → k σ' H' := by
  cases r with
  | ok _ e => exact fun G' σ' H' s S _ => h G' σ' H' s S
  | no => exact h
  | ex _ _ _ => exact h
/-- name = e, the value for all -/
theorem ds_set {i : Nat} {x : Str} {p0 : Pos} {a : Expr} {m : M D} (hx : SetOk I.N I.sc I.fn i x) (h : DE I W a m) (hs : ∀ env : Env, env.scope = I.sc → swapsWith a (some (.Name x p0)) pos.line env = pure false) : DS I W (.Assign [.Name x p0] a pos) (sAsg m (gSet i)) := by
  obtain ⟨t, h1, h2⟩ := h
  obtain ⟨tg, g1, g2⟩ := dg_name (I := I) (W := W) (pos := p0) hx
  refine ⟨tAsg t (gName i), fun X ok => ps_set (by rw [ok.hN]; exact ok.nd) (by rw [ok.hN]; exact hx.hN) (by rw [ok.hsc]; exact hx.hv) (h1 X ok) (hs X.env ok.hsc) (by rw [ok.hfn, ok.hsc]; exact hx.hf), fun p G σ H e E S w => ?_⟩
  refine h2 p G σ H e _ S (Wp.mono (Ws.bnd w) fun d G1 H1 e1 s1 S1 w1 v r => ?_)
  have w2 := ws_g w1 (fun c fs e' z => by unfold gSet at z; split at z <;> cases z)
  unfold gSet at w2
  show E.nx (σ.set i (some v)) H1
  cases q : e1[i]? with
  | none => rw [q] at w2; exact w2.elim
  | some s =>
    have hi := (List.getElem?_eq_some_iff.mp q).1
    rw [q] at w2
    cases s with
    | io _ => exact w2.elim
    | no => exact w2 G1 _ H1 (Same.refl _) (S1.setSh r hi fun y z => by rw [q] at z; cases z)
    | sh _ => exact w2 G1 _ H1 (Same.refl _) (S1.setSh r hi fun y z => by rw [q] at z; cases z)
    | ow _ => exact w2 G1 _ H1 (Same.refl _) (S1.setSh r hi fun y z => by rw [q] at z; cases z)
/-- name = e, a new thing that the name owns -/
def gOwn (i : Nat) (r : Ret) : M Fl := fun e => match e[i]?, r with
  | some (.io _), _ => .no
  | some _, .ow x => .ok .nx (e.set i (.ow x))
  | some _, .sh d => .ok .nx (e.set i (.sh d))
  | _, _ => .no
def sOwn (m : M Ret) (i : Nat) : M Fl := M.bnd m (gOwn i)
theorem ds_own {i : Nat} {x : Str} {p0 : Pos} {a : Expr} {m : M Ret} (hx : SetOk I.N I.sc I.fn i x) (h : DR I W a m) (hs : ∀ env : Env, env.scope = I.sc → swapsWith a (some (.Name x p0)) pos.line env = pure false) : DS I W (.Assign [.Name x p0] a pos) (sOwn m i) := by
  obtain ⟨t, h1, h2⟩ := h
  refine ⟨tAsg t (gName i), fun X ok => ps_set (by rw [ok.hN]; exact ok.nd) (by rw [ok.hN]; exact hx.hN) (by rw [ok.hsc]; exact hx.hv) (h1 X ok) (hs X.env ok.hsc) (by rw [ok.hfn, ok.hsc]; exact hx.hf), fun p G σ H e E S w => ?_⟩
  refine h2 p G σ H e _ S (Wp.mono (Ws.bnd w) fun r G1 H1 e1 s1 S1 w1 => ?_)
  unfold gOwn at w1
  cases q : e1[i]? with
  | none => rw [q] at w1; exact w1.elim
  | some s =>
    have hi := (List.getElem?_eq_some_iff.mp q).1
    rw [q] at w1
    have nio : (∀ y, s ≠ .io y) → ∀ y, e1[i]? ≠ some (.io y) := fun h y z => by rw [q] at z; cases z; exact h y rfl
    cases r with
    | sh d =>
      intro v rv
      cases s with
      | io _ => exact w1.elim
      | no => exact w1 G1 _ H1 (Same.refl _) (S1.setSh rv hi (nio fun _ z => nomatch z))
      | sh _ => exact w1 G1 _ H1 (Same.refl _) (S1.setSh rv hi (nio fun _ z => nomatch z))
      | ow _ => exact w1 G1 _ H1 (Same.refl _) (S1.setSh rv hi (nio fun _ z => nomatch z))
    | ow y =>
      intro b gb c h0 hF ap
      cases s with
      | io _ => exact w1.elim
      | no => exact w1 G1 _ H1 (Same.refl _) (S1.setOw gb c h0 hF ap hi (nio fun _ z => nomatch z))
      | sh _ => exact w1 G1 _ H1 (Same.refl _) (S1.setOw gb c h0 hF ap hi (nio fun _ z => nomatch z))
      | ow _ => exact w1 G1 _ H1 (Same.refl _) (S1.setOw gb c h0 hF ap hi (nio fun _ z => nomatch z))
/-- targets = e -/
theorem ds_asg {tg a : Expr} {m : M D} {g : D → M Unit} {gs : List Nat} (hg : DG I W tg g gs) (hne : ∀ d e c fs e', g d e ≠ .ex c fs e') (h : DE I W a m) (hs : ∀ env : Env, swapsWithSole [tg] a pos.line env = pure false) (hw : ∀ env : Env, env.scope = I.sc → swappedStores [tg] a env = pure none) (n : nstG tg = true) :
    DS I W (.Assign [tg] a pos) (sAsg m g) := by
  obtain ⟨t, h1, h2⟩ := h
  obtain ⟨tg', g1, g2⟩ := hg
  refine ⟨tAsg t tg', fun X ok => ps_asg (h1 X ok) (g1 X ok) (hs X.env) (hw X.env ok.hsc) (by rw [assignEach_cons n]; rfl), fun p G σ H e E S w => ?_⟩
  refine h2 p G σ H e _ S (Wp.mono (Ws.bnd w) fun d G1 H1 e1 s1 S1 w1 v r => ?_)
  exact g2 p G1 σ H1 e1 v d _ S1 r (wg_dif (ws_g w1 (hne d e1)))
end
end DL
end

section
namespace DL
open PySem PySem.Spec L2
open PyProof.Rows hiding St

/-! ### what is walked -/
/-- J hands out these, one a turn, wherever the values' world is at least G -/
def IterOk (K : PySem.W.Frag) (mg : MG) (J : It) (G : Hp) (ds : List D) : Prop := ∀ (p : Pm) G' σ H e, Same G G' → Srp K mg p G' σ H e → ∀ i : Nat,
  (i = ds.length → J.stop i H) ∧ ∀ d, ds[i]? = some d → J.go i H ∧ ∀ x H2, J.yld i H x H2 → ∃ G2, Same G' G2 ∧ Srp K mg p G2 σ H2 e ∧ Rep K mg G2 x d ∧ ∀ a o, H a = some o → H2 a = some o
def SimI (I : CI) (W : WX) (w : TI) (m : M (List D)) : Prop := ∀ (p : Pm) G σ H e (R : It → Hp → Prop), Srp I.K I.mg p G σ H e → Wp I.K I.mg W p G σ (m e) (fun ds G' H' _ => ∀ J, IterOk I.K I.mg J G' ds → R J H') → w σ H R
def DI (I : CI) (W : WX) (tg iter : Expr) (m : M (List D)) : Prop := ∃ w, (∀ X, Okx I W X → PI X tg iter w) ∧ SimI I W w m
section
variable {I : CI} {W : WX} {tg a b c : Expr} {pos p0 : Pos} {n : M Fl}
theorem iter_lst {K : PySem.W.Frag} {mg : MG} {G : Hp} {q : Addr} {vs : List V} {l : List D} (h : LsT K G q vs) (r : Reps K mg G vs l) : IterOk K mg (Itl K q) G l := by
  intro p G' σ H e s S i
  have hS : SqL K H q vs := LsT.sq (Same.ls S.sub (Same.ls s h))
  refine ⟨fun ei => ⟨vs, hS, by rw [r.1, ei]; exact Nat.le_refl _⟩, fun d hd => ?_⟩
  obtain ⟨v, hv, rv⟩ := r.get hd
  refine ⟨⟨vs, v, hS, hv⟩, fun x H2 y => ?_⟩
  obtain ⟨rfl, f⟩ := y
  have := f vs hS
  rw [hv] at this; cases this
  exact ⟨G', Same.refl _, S, rv.mono s, fun _ _ h => h⟩
theorem iter_tup {K : PySem.W.Frag} {mg : MG} {G : Hp} {q : Addr} {vs : List V} {l : List D} (h : SqT K G q vs) (r : Reps K mg G vs l) : IterOk K mg (Itt K q) G l := by
  intro p G' σ H e s S i
  have hS : SqT K H q vs := Same.seqT S.sub (Same.seqT s h)
  refine ⟨fun ei => ⟨vs, hS, by rw [r.1, ei]; exact Nat.le_refl _⟩, fun d hd => ?_⟩
  obtain ⟨v, hv, rv⟩ := r.get hd
  refine ⟨⟨vs, v, hS, hv⟩, fun x H2 y => ?_⟩
  obtain ⟨rfl, f⟩ := y
  have := f vs hS
  rw [hv] at this; cases this
  exact ⟨G', Same.refl _, S, rv.mono s, fun _ _ h => h⟩
def iLst (m : M D) : M (List D) := M.bnd m fun d => match d with
  | .lst l => M.ret l
  | _ => fun _ => .no
def iTupM (m : M D) : M (List D) := M.bnd m fun d => match d with
  | .tup l => M.ret l
  | _ => fun _ => .no
theorem di_lst {m : M D} (h : DE I W a m) : DI I W tg a (iLst m) := by
  obtain ⟨t, h1, h2⟩ := h
  refine ⟨iList I.K t, fun X ok => (by have := pi_list (tg := tg) (h1 X ok); rw [ok.hK] at this; exact this), fun p G σ H e R S w => ?_⟩
  refine h2 p G σ H e _ S (Wp.mono (Wp.bnd w) fun d G1 H1 e1 s1 S1 w1 v r => ?_)
  cases r <;> first | exact w1.elim | skip
  rename_i q vs l k1 k2 k3
  exact ⟨q, rfl, ⟨vs, LsT.sq (Same.ls S1.sub k1)⟩, w1 G1 H1 (Same.refl _) S1 _ (iter_lst k1 ⟨k2, k3⟩)⟩
theorem di_tup {m : M D} (h : DE I W a m) : DI I W tg a (iTupM m) := by
  obtain ⟨t, h1, h2⟩ := h
  refine ⟨iTup I.K t, fun X ok => (by have := pi_tup (tg := tg) (h1 X ok); rw [ok.hK] at this; exact this), fun p G σ H e R S w => ?_⟩
  refine h2 p G σ H e _ S (Wp.mono (Wp.bnd w) fun d G1 H1 e1 s1 S1 w1 v r => ?_)
  cases r <;> first | exact w1.elim | skip
  rename_i q vs l k1 k2 k3
  exact ⟨q, rfl, ⟨vs, Same.seqT S1.sub k1⟩, w1 G1 H1 (Same.refl _) S1 _ (iter_tup k1 ⟨k2, k3⟩)⟩
/-- ranges -/
def rngL (lo : Int) (k : Nat) : List D := (List.range k).map fun i : Nat => .int (lo + i)
theorem iter_rng {K : PySem.W.Frag} {mg : MG} {G : Hp} {lo : Int} {k : Nat} : IterOk K mg (Itr lo k) G (rngL lo k) := by
  intro p G' σ H e s S i
  refine ⟨fun ei => ?_, fun d hd => ?_⟩
  · show k ≤ i
    rw [ei]; simp [rngL]
  · unfold rngL at hd
    rw [List.getElem?_map] at hd
    cases z : (List.range k)[i]? with
    | none => rw [z] at hd; cases hd
    | some j =>
      rw [z] at hd
      obtain ⟨hj, ej⟩ := List.getElem?_eq_some_iff.mp z
      simp at hj ej
      subst ej
      have : d = .int (lo + i) := (Option.some.inj hd).symm
      subst this
      refine ⟨hj, fun x H2 y => ?_⟩
      obtain ⟨rfl, rfl⟩ := y
      exact ⟨G', Same.refl _, S, .int _, fun _ _ h => h⟩
def small62 (i : Int) : Bool := decide (-(2 ^ 62) ≤ i) && decide (i < 2 ^ 62)
theorem small62_ok {i : Int} (h : small62 i = true) : -(2 ^ 62) ≤ i ∧ i < 2 ^ 62 := by
  unfold small62 at h
  simp only [Bool.and_eq_true, decide_eq_true_eq] at h
  exact h
def iRng1M (m : M (List Ar)) : M (List D) := M.bnd (aVals m) fun ds => match ds with
  | [.int j] => if small62 j then M.ret (rngL 0 j.toNat) else fun _ => .no
  | _ => fun _ => .no
def iRng2M (m : M (List Ar)) : M (List D) := M.bnd (aVals m) fun ds => match ds with
  | [.int i, .int j] => if small62 i && small62 j then M.ret (rngL i (j - i).toNat) else fun _ => .no
  | _ => fun _ => .no
theorem reps1 {K : PySem.W.Frag} {mg : MG} {G : Hp} {vs : List V} {d : D} (r : Reps K mg G vs [d]) : ∃ v, vs = [v] ∧ Rep K mg G v d := by
  obtain ⟨v, vr, rfl, h, t⟩ := r.uncons
  have := t.1
  simp at this
  subst this
  exact ⟨v, rfl, h⟩
theorem reps2 {K : PySem.W.Frag} {mg : MG} {G : Hp} {vs : List V} {d d' : D} (r : Reps K mg G vs [d, d']) : ∃ v v', vs = [v, v'] ∧ Rep K mg G v d ∧ Rep K mg G v' d' := by
  obtain ⟨v, vr, rfl, h, t⟩ := r.uncons
  obtain ⟨v', rfl, h'⟩ := reps1 t
  exact ⟨v, v', rfl, h, h'⟩
theorem rep_int {K : PySem.W.Frag} {mg : MG} {G : Hp} {v : V} {i : Int} (r : Rep K mg G v (.int i)) : v = .int i := by cases r; rfl
theorem di_rng1 {m : M (List Ar)} (g : I.sc.names.lookup ("range" : Str) = some .globalImplicit) (hm : I.mg ("range" : Str) = none) (h : DP I W [a] m) : DI I W tg (.Call (.Name "range" p0) [a] [] pos) (iRng1M m) := by
  obtain ⟨n, t, h1, h2⟩ := h
  have n2 : nst a = true := by simpa using n
  refine ⟨iRng1 t, fun X ok => pi_range1 (gl_of ok.hsc g) (by rw [ok.hmg]; exact hm) (h1 X ok) (star_of n2 _ _), fun p G σ H e R S w => ?_⟩
  refine simA_of h2 p G σ H e _ S (Wp.mono (Wp.bnd w) fun ds G1 H1 e1 s1 S1 w1 vs r => ?_)
  match ds, w1, r with
  | [.int j], w1, r =>
    obtain ⟨v, rfl, rv⟩ := reps1 r
    have := rep_int rv; subst this
    dsimp only at w1
    split at w1
    · rename_i z
      obtain ⟨z1, z2⟩ := small62_ok z
      exact ⟨j, rfl, z1, z2, w1 G1 H1 (Same.refl _) S1 _ iter_rng⟩
    · exact w1.elim
theorem di_rng2 {m : M (List Ar)} (g : I.sc.names.lookup ("range" : Str) = some .globalImplicit) (hm : I.mg ("range" : Str) = none) (h : DP I W [a, b] m) : DI I W tg (.Call (.Name "range" p0) [a, b] [] pos) (iRng2M m) := by
  obtain ⟨n, t, h1, h2⟩ := h
  have n2 : nst a = true ∧ nst b = true := by simpa using n
  refine ⟨iRng2 t, fun X ok => pi_range2 (gl_of ok.hsc g) (by rw [ok.hmg]; exact hm) (h1 X ok) (by rw [star_of n2.1, star_of n2.2]; rfl) (star_of n2.2 _ _), fun p G σ H e R S w => ?_⟩
  refine simA_of h2 p G σ H e _ S (Wp.mono (Wp.bnd w) fun ds G1 H1 e1 s1 S1 w1 vs r => ?_)
  match ds, w1, r with
  | [.int i, .int j], w1, r =>
    obtain ⟨v, v', rfl, rv, rv'⟩ := reps2 r
    have := rep_int rv; subst this
    have := rep_int rv'; subst this
    dsimp only at w1
    split at w1
    · rename_i z
      simp only [Bool.and_eq_true] at z
      obtain ⟨z1, z2⟩ := small62_ok z.1
      obtain ⟨z3, z4⟩ := small62_ok z.2
      exact ⟨i, j, rfl, ⟨z1, z2, z3, z4⟩, w1 G1 H1 (Same.refl _) S1 _ iter_rng⟩
    · exact w1.elim

/-! ### for -/
def loopF (g : D → M Unit) (body : M Fl) : List D → M Fl
  | [] => M.ret .nx
  | d :: ds => M.bnd (g d) fun _ => M.bnd body fun fl => match fl with
    | .nx => loopF g body ds
    | .ct => loopF g body ds
    | .bk => M.ret .nx
    | .rt r => M.ret (.rt r)
def sFor (mi : M (List D)) (g : D → M Unit) (body : M Fl) : M Fl := M.bnd mi fun ds => loopF g body ds
theorem for_sim {wi : TI} {tg' : TG} {tb : TS} {mi : M (List D)} {g : D → M Unit} (hi : SimI I W wi mi) {gs : List Nat} (hg : SimG I W tg' g gs) (hne : ∀ d e c fs e', g d e ≠ .ex c fs e') (hb : SimS I W tb n) : SimS I W (tFor wi tg' tb) (sFor mi g n) := by
  intro p G σ H e E S w
  refine hi p G σ H e _ S (Wp.mono (Ws.bnd w) fun ds G1 H1 e1 s1 S1 w1 J hJ => ?_)
  refine ⟨fun i m σ' H' => m = ds.length - i ∧ i ≤ ds.length ∧ ∃ G' e', Same G1 G' ∧ Srp I.K I.mg p G' σ' H' e' ∧ Ws I.K I.mg W p G' (loopF g n (ds.drop i) e') E,
    ⟨ds.length, by simp, Nat.zero_le _, G1, e1, Same.refl _, S1, by simpa using w1⟩, ?_⟩
  rintro i m σ' H' ⟨rfl, hi', G', e', s', S', w'⟩
  obtain ⟨st, go⟩ := hJ p G' σ' H' e' s' S' i
  by_cases hl : i < ds.length
  · have hd := List.getElem?_eq_getElem hl
    obtain ⟨g1, g2⟩ := go _ hd
    refine .inr ⟨g1, fun σ2 H2 => ∃ m', m' < ds.length - i ∧ (m' = ds.length - (i + 1) ∧ i + 1 ≤ ds.length ∧ ∃ G' e', Same G1 G' ∧ Srp I.K I.mg p G' σ2 H2 e' ∧ Ws I.K I.mg W p G' (loopF g n (ds.drop (i + 1)) e') E), fun σ2 H2 h => h, fun x H2 y => ?_⟩
    obtain ⟨G2, t1, S2, r2, _⟩ := g2 x H2 y
    rw [List.drop_eq_getElem_cons hl] at w'
    have w3 := Ws.up w' t1
    unfold loopF M.bnd at w3
    refine hg p G2 σ' H2 e' x _ _ S2 r2 ?_
    cases z : g ds[i] e' with
    | no => rw [z] at w3; exact w3.elim
    | ex c fs e2 => exact absurd z (hne _ _ c fs e2)
    | ok _ e2 =>
      rw [z] at w3
      dsimp only at w3
      intro G3 σ3 H3 t3 S3 _
      refine hb p G3 σ3 H3 e2 _ S3 ?_
      have w4 := Ws.up w3 t3
      have nx : ∀ {fl : Fl} {e4 : En}, (fl = .nx ∨ fl = .ct) → n e2 = .ok fl e4 → ∀ G4 σ4 H4, Same G3 G4 → Srp I.K I.mg p G4 σ4 H4 e4 →
          ∃ m', m' < ds.length - i ∧ (m' = ds.length - (i + 1) ∧ i + 1 ≤ ds.length ∧ ∃ G' e', Same G1 G' ∧ Srp I.K I.mg p G' σ4 H4 e' ∧ Ws I.K I.mg W p G' (loopF g n (ds.drop (i + 1)) e') E) := fun {fl e4} hf q G4 σ4 H4 t4 S4 => by
        refine ⟨_, by omega, rfl, hl, G4, e4, s'.trans (t1.trans (t3.trans t4)), S4, ?_⟩
        rw [q] at w4
        rcases hf with rfl | rfl
        · exact Ws.up w4 t4
        · exact Ws.up w4 t4
      cases q : n e2 with
      | no => rw [q] at w4; exact w4.elim
      | ex c fs e4 => rw [q] at w4; exact w4
      | ok fl e4 =>
        intro G4 σ4 H4 t4 S4
        cases fl with
        | nx => exact nx (.inl rfl) q G4 σ4 H4 t4 S4
        | ct => exact nx (.inr rfl) q G4 σ4 H4 t4 S4
        | bk => rw [q] at w4; exact w4 G4 σ4 H4 t4 S4
        | rt r => rw [q] at w4; exact w4 G4 σ4 H4 t4 S4
  · have ei : i = ds.length := by omega
    refine .inl ⟨st ei, ?_⟩
    rw [List.drop_eq_nil_of_le (by omega)] at w'
    exact w' G' σ' H' (Same.refl _) S'
theorem ds_for {iter : Expr} {body : List Stmt} {mi : M (List D)} {g : D → M Unit} (hi : DI I W tg iter mi) {gs : List Nat} (hg : DG I W tg g gs) (hne : ∀ d e c fs e', g d e ≠ .ex c fs e') (hb : DSs I W body n)
    (hs : ∀ (env : Env) x, foldedSetIterable iter env x = pure x) : DS I W (.For tg iter body [] pos) (sFor mi g n) := by
  obtain ⟨w, i1, i2⟩ := hi
  obtain ⟨t, g1, g2⟩ := hg
  obtain ⟨u, b1, b2⟩ := hb
  exact ⟨tFor w t u, fun X ok => ps_for ok.passes ok.calm (i1 X ok) (g1 X ok) (b1 X ok) (hs X.env), for_sim i2 g2 hne b2⟩
/-! ### while -/
def loopW (c : M Bool) (body : M Fl) : Nat → M Fl
  | 0 => fun _ => .no
  | k + 1 => M.bnd c fun b => if b = true then M.bnd body fun fl => (match fl with
    | .nx => loopW c body k
    | .ct => loopW c body k
    | .bk => M.ret .nx
    | .rt r => M.ret (.rt r)) else M.ret .nx
theorem while_sim {tc : TT} {tb : TS} {mc : M Bool} (k : Nat) (hc : SimT I W tc mc) (hb : SimS I W tb n) : SimS I W (tWhile tc tb) (loopW mc n k) := by
  intro p G σ H e E S w
  refine ⟨fun m σ' H' => ∃ G' e', Srp I.K I.mg p G' σ' H' e' ∧ Ws I.K I.mg W p G' (loopW mc n m e') E, ⟨k, G, e, S, w⟩, ?_⟩
  rintro m σ' H' ⟨G', e', S', w'⟩
  cases m with
  | zero => exact w'.elim
  | succ m =>
    refine hc p G' σ' H' e' _ S' (Wp.mono (Ws.bnd w') fun b G1 H1 e1 s1 S1 w1 => ?_)
    cases b with
    | false =>
      rw [if_neg Bool.false_ne_true] at w1 ⊢
      exact w1 G1 σ' H1 (Same.refl _) S1
    | true =>
      rw [if_pos rfl] at w1 ⊢
      refine ⟨fun σ2 H2 => ∃ m', m' < m + 1 ∧ ∃ G' e', Srp I.K I.mg p G' σ2 H2 e' ∧ Ws I.K I.mg W p G' (loopW mc n m' e') E, fun _ _ h => h, ?_⟩
      refine hb p G1 σ' H1 e1 _ S1 ?_
      unfold M.bnd at w1
      cases q : n e1 with
      | no => rw [q] at w1; exact w1.elim
      | ex c fs e4 => rw [q] at w1; exact w1
      | ok fl e4 =>
        rw [q] at w1
        intro G4 σ4 H4 t4 S4
        cases fl with
        | nx => exact ⟨m, Nat.lt_succ_self _, G4, e4, S4, Ws.up w1 t4⟩
        | ct => exact ⟨m, Nat.lt_succ_self _, G4, e4, S4, Ws.up w1 t4⟩
        | bk => exact w1 G4 σ4 H4 t4 S4
        | rt r => exact w1 G4 σ4 H4 t4 S4
theorem ds_while {c : Expr} {body : List Stmt} {mc : M Bool} (k : Nat) (hc : DT I W c mc) (hb : DSs I W body n) : DS I W (.While c body [] pos) (loopW mc n k) := by
  obtain ⟨t, h1, h2⟩ := hc
  obtain ⟨u, b1, b2⟩ := hb
  exact ⟨_, fun X ok => ps_while ok.passes (h1 X ok) (b1 X ok), while_sim k h2 b2⟩
end
end DL
end

section
namespace DL
open PySem PySem.Spec L2
open PyProof.Rows hiding St

/-! ### a thing that stands apart -/
structure Tmp (p : Pm) (G : Hp) (σ : L2.St) (e : En) (q : Addr) : Prop where
  g : G q = none
  h0 : p.H0 q = none
  f : p.F q = none
  ap : ∀ (i : Nat) s y, e[i]? = some s → s.own = some y → σ[i]? ≠ some (some (V.ref q))
section
variable {K : PySem.W.Frag} {mg : MG} {p : Pm} {G G' H H' : Hp} {σ σ2 : L2.St} {e e2 : En} {q : Addr} {o : HO}
abbrev Pm.hold (p : Pm) (q : Addr) (o : HO) : Pm := { p with F := upd p.F q o }
theorem Sr.protect (S : Srp K mg p G σ H e) (T : Tmp p G σ e q) (h : H q = some o) : Srp K mg (p.hold q o) G σ H e := by
  refine ⟨S.sub, S.len, S.sh, S.ow, S.io, S.ap, S.fr, S.nw, S.of, S.dm, fun a u z => ?_, fun i s x a h1 h2 h3 => ?_⟩
  · by_cases ha : a = q
    · subst ha
      have z' : upd p.F a o a = some u := z
      rw [upd_same] at z'; cases z'
      exact ⟨h, T.g⟩
    · have z' : upd p.F q o a = some u := z
      rw [upd_ne ha] at z'
      exact S.kp a u z'
  · show upd p.F q o a = none
    rw [upd_ne (fun z => by subst z; exact T.ap i s x h1 h2 h3)]
    exact S.ka i s x a h1 h2 h3
theorem Sr.unprotect (S : Srp K mg (p.hold q o) G σ H e) (h0 : p.H0 q = none) (hf : p.F q = none) : Srp K mg p G σ H e ∧ Tmp p G σ e q ∧ H q = some o := by
  have kq := S.kp q o upd_same
  refine ⟨⟨S.sub, S.len, S.sh, S.ow, S.io, S.ap, S.fr, S.nw, S.of, S.dm, fun a u z => S.kp a u ?_, fun i s x a h1 h2 h3 => ?_⟩, ⟨kq.2, h0, hf, fun i s y h1 h2 h3 => ?_⟩, kq.1⟩
  · show upd p.F q o a = some u
    rw [upd_ne (fun w => by rw [w, hf] at z; cases z)]
    exact z
  · have := S.ka i s x a h1 h2 h3
    by_cases ha : a = q
    · subst ha; exact hf
    · have z' : upd p.F q o a = none := this
      rw [upd_ne ha] at z'
      exact z'
  · have := S.ka i s y q h1 h2 h3
    have z' : upd p.F q o q = none := this
    rw [upd_same] at z'; cases z'
theorem Sr.poke (S : Srp K mg p G σ H e) (T : Tmp p G σ e q) {o' : HO} (h : H q = some o) (no : ∀ c, o ≠ .own c) : Srp K mg p G σ (upd H q o') e := by
  refine ⟨fun a u z => ?_, S.len, S.sh, fun i s x h1 h2 => ?_, S.io, S.ap, fun a u h1 h2 => ?_, S.nw, S.of, fun a z => ?_, fun a u z => ?_, S.ka⟩
  · rw [upd_ne (fun w => by rw [w, T.g] at z; cases z)]
    exact S.sub a u z
  · obtain ⟨a, k1, k2, k3⟩ := S.ow i s x h1 h2
    refine ⟨a, k1, k2, k3.keep fun b u hb hc => (upd_ne fun w => ?_).trans hb⟩
    subst w
    rcases hc with hc | hc
    · subst hc; exact T.ap i s x h1 h2 k1
    · rw [h] at hb; cases hb
      exact no _ hc
  · rw [upd_ne (fun w => by rw [w, T.h0] at h1; cases h1)]
    exact S.fr a u h1 h2
  · by_cases ha : a = q
    · subst ha; rw [upd_same] at z; cases z
    · rw [upd_ne ha] at z; exact S.dm a z
  · obtain ⟨k1, k2⟩ := S.kp a u z
    exact ⟨by rw [upd_ne (fun w => by rw [w, T.f] at z; cases z)]; exact k1, k2⟩
/-! ### a block's names -/
def wipeE (e : En) : List Nat → En
  | [] => e
  | v :: vs => (wipeE e vs).set v .no
def backE (e e0 : En) : List Nat → En
  | [] => e
  | v :: vs => (backE e e0 vs).set v (e0.getD v .no)
theorem Sr.wipe1 (S : Srp K mg p G σ H e) (v : Nat) : Srp K mg p G (σ.set v none) H (e.set v .no) := by
  have no : ∀ {j : Nat} {s : Sl}, (e.set v .no)[j]? = some s → s ≠ .no → j ≠ v ∧ e[j]? = some s := fun {j s} q ns => by
    by_cases hj : v = j
    · subst hj
      by_cases hi : v < e.length
      · rw [List.getElem?_set_self hi] at q; cases q; exact absurd rfl ns
      · rw [List.getElem?_eq_none (by simpa using hi)] at q; cases q
    · rw [List.getElem?_set_ne hj] at q; exact ⟨fun z => hj z.symm, q⟩
  have own : ∀ {s : Sl} {x : Ct}, s.own = some x → s ≠ .no := fun {s x} q z => by subst z; cases q
  have sg : ∀ {j : Nat}, j ≠ v → (σ.set v none)[j]? = σ[j]? := fun {j} h => List.getElem?_set_ne (fun z => h z.symm)
  refine ⟨S.sub, by simp [S.len], fun i d q => ?_, fun i s x h1 h2 => ?_, fun i x h1 => ?_, fun i j s t x y a h1 h2 h3 h4 h5 h6 => ?_, S.fr, S.nw, fun i x a h1 h2 => ?_, S.dm, S.kp, fun i s x a h1 h2 h3 => ?_⟩
  · obtain ⟨k1, k2⟩ := no q (fun z => nomatch z)
    rw [sg k1]; exact S.sh i d k2
  · obtain ⟨k1, k2⟩ := no h1 (own h2)
    rw [sg k1]; exact S.ow i s x k2 h2
  · obtain ⟨k1, k2⟩ := no h1 (fun z => nomatch z)
    rw [sg k1]; exact S.io i x k2
  · obtain ⟨k1, k2⟩ := no h1 (own h3)
    obtain ⟨g1, g2⟩ := no h2 (own h4)
    rw [sg k1] at h5; rw [sg g1] at h6
    exact S.ap i j s t x y a k2 g2 h3 h4 h5 h6
  · obtain ⟨k1, k2⟩ := no h1 (fun z => nomatch z)
    rw [sg k1] at h2; exact S.of i x a k2 h2
  · obtain ⟨k1, k2⟩ := no h1 (own h2)
    rw [sg k1] at h3; exact S.ka i s x a k2 h2 h3
theorem Sr.wipe (S : Srp K mg p G σ H e) : ∀ vs : List Nat, Srp K mg p G (L2.wipe σ vs) H (wipeE e vs)
  | [] => S
  | v :: vs => (Sr.wipe S vs).wipe1 v
theorem wipe_get : ∀ (vs : List Nat) (σ : L2.St) (i : Nat), (L2.wipe σ vs)[i]? = if i ∈ vs then (if i < σ.length then some none else none) else σ[i]?
  | [], σ, i => by simp [L2.wipe]
  | v :: vs, σ, i => by
    unfold L2.wipe
    by_cases h : v = i
    · subst h
      simp only [List.mem_cons, true_or, if_true]
      by_cases hl : v < σ.length
      · rw [if_pos hl, List.getElem?_set_self (by rw [wipe_length]; exact hl)]
      · rw [if_neg hl, List.getElem?_eq_none (by rw [List.length_set, wipe_length]; omega)]
    · rw [List.getElem?_set_ne h, wipe_get vs σ i]
      have : (i ∈ v :: vs) ↔ i ∈ vs := by
        simp only [List.mem_cons]
        exact ⟨fun z => z.resolve_left fun w => h w.symm, .inr⟩
      simp only [this]
theorem wipe_same {vs gs : List Nat} (hs : ∀ i ∈ gs, i ∈ vs) (d : Dif gs (L2.wipe σ vs) σ2) : L2.wipe σ2 vs = L2.wipe σ vs := by
  have hl : σ2.length = σ.length := d.1.trans (wipe_length σ vs)
  refine List.ext_getElem? fun i => ?_
  rw [wipe_get, wipe_get, hl]
  by_cases hi : i ∈ vs
  · rw [if_pos hi, if_pos hi]
  · rw [if_neg hi, if_neg hi, d.2 i fun z => hi (hs i z), wipe_get, if_neg hi]
theorem backE_len (e e0 : En) : ∀ vs : List Nat, (backE e e0 vs).length = e.length
  | [] => rfl
  | v :: vs => by unfold backE; rw [List.length_set, backE_len e e0 vs]
theorem wipeE_len (e : En) : ∀ vs : List Nat, (wipeE e vs).length = e.length
  | [] => rfl
  | v :: vs => by unfold wipeE; rw [List.length_set, wipeE_len e vs]
theorem backE_get : ∀ (vs : List Nat) (e e0 : En) (i : Nat), e.length = e0.length → (backE e e0 vs)[i]? = if i ∈ vs then e0[i]? else e[i]?
  | [], e, e0, i, _ => by simp [backE]
  | v :: vs, e, e0, i, hl => by
    unfold backE
    by_cases h : v = i
    · subst h
      simp only [List.mem_cons, true_or, if_true]
      by_cases hv : v < e.length
      · rw [List.getElem?_set_self (by rw [backE_len]; exact hv), List.getD_eq_getElem?_getD, List.getElem?_eq_getElem (by omega)]
        rfl
      · rw [List.getElem?_eq_none (by rw [List.length_set, backE_len]; omega), List.getElem?_eq_none (by omega)]
    · rw [List.getElem?_set_ne h, backE_get vs e e0 i hl]
      have : (i ∈ v :: vs) ↔ i ∈ vs := by
        simp only [List.mem_cons]
        exact ⟨fun z => z.resolve_left fun w => h w.symm, .inr⟩
      simp only [this]
/-- none of these names owns a thing -/
def noOwn (e : En) (vs : List Nat) : Bool := vs.all fun v => (e.getD v .no).own.isNone
/-- behind a block's turn, out of the block -/
theorem Sr.back {vs : List Nat} (S0 : Srp K mg p G σ H e) (S : Srp K mg p G' σ2 H' e2) (s : Same G G') (hw : L2.wipe σ2 vs = L2.wipe σ vs) (hl : e2.length = e.length) (hn : noOwn e vs = true) : Srp K mg p G' σ H' (backE e2 e vs) := by
  have out : ∀ {i : Nat}, i ∉ vs → σ2[i]? = σ[i]? := fun {i} hi => by
    have := congrArg (fun z : L2.St => z[i]?) hw
    simp only [wipe_get, if_neg hi] at this
    exact this
  have gt : ∀ {i : Nat} {t : Sl}, (backE e2 e vs)[i]? = some t → (i ∉ vs ∧ e2[i]? = some t) ∨ (i ∈ vs ∧ e[i]? = some t ∧ t.own = none) := fun {i t} q => by
    rw [backE_get _ _ _ _ hl] at q
    by_cases hi : i ∈ vs
    · rw [if_pos hi] at q
      refine .inr ⟨hi, q, ?_⟩
      unfold noOwn at hn
      have := List.all_eq_true.mp hn i hi
      rw [List.getD_eq_getElem?_getD, q] at this
      simpa using this
    · rw [if_neg hi] at q
      exact .inl ⟨hi, q⟩
  have own : ∀ {i : Nat} {t : Sl} {x : Ct}, (backE e2 e vs)[i]? = some t → t.own = some x → i ∉ vs ∧ e2[i]? = some t := fun {i t x} q h => by
    rcases gt q with z | ⟨_, _, z⟩
    · exact z
    · rw [h] at z; cases z
  refine ⟨S.sub, by rw [backE_len, hl]; exact S0.len, fun i d q => ?_, fun i t x h1 h2 => ?_, fun i x h1 => ?_, fun i j t u x y a h1 h2 h3 h4 h5 h6 => ?_, S.fr, S.nw, fun i x a h1 h2 => ?_, S.dm, S.kp, fun i t x a h1 h2 h3 => ?_⟩
  · rcases gt q with ⟨k1, k2⟩ | ⟨_, k2, _⟩
    · rw [← out k1]; exact S.sh i d k2
    · obtain ⟨v, g1, g2⟩ := S0.sh i d k2
      exact ⟨v, g1, g2.mono s⟩
  · obtain ⟨k1, k2⟩ := own h1 h2
    rw [← out k1]; exact S.ow i t x k2 h2
  · obtain ⟨k1, k2⟩ := own h1 rfl
    rw [← out k1]; exact S.io i x k2
  · obtain ⟨k1, k2⟩ := own h1 h3
    obtain ⟨g1, g2⟩ := own h2 h4
    rw [← out k1] at h5; rw [← out g1] at h6
    exact S.ap i j t u x y a k2 g2 h3 h4 h5 h6
  · obtain ⟨k1, k2⟩ := own h1 rfl
    rw [← out k1] at h2; exact S.of i x a k2 h2
  · obtain ⟨k1, k2⟩ := own h1 h2
    rw [← out k1] at h3; exact S.ka i t x a k2 h2 h3
end

/-! ### list comprehensions -/
def turnC (g : D → M Unit) (t : M Bool) (m : M D) (d : D) : M (Option D) := M.bnd (g d) fun _ => M.bnd t fun b => if b = true then M.bnd m fun y => M.ret (some y) else M.ret none
def compF (g : D → M Unit) (t : M Bool) (m : M D) (vs : List Nat) : List D → List D → M (List D)
  | [], acc => M.ret acc
  | d :: ds, acc => fun e => if noOwn e vs then (match turnC g t m d (wipeE e vs) with
    | .ok (some y) e' => compF g t m vs ds (acc ++ [y]) (backE e' e vs)
    | .ok none e' => compF g t m vs ds acc (backE e' e vs)
    | _ => .no) else .no
def rComp (mi : M (List D)) (g : D → M Unit) (t : M Bool) (m : M D) (vs : List Nat) : M Ret := M.bnd mi fun ds => if ds.length ≤ LIM then M.bnd (compF g t m vs ds []) fun l => M.ret (.ow (.l l)) else fun _ => .no
abbrev W0 : WX := fun _ _ _ _ => False
def CI.blk (I : CI) (scope : Scope) : CI := { I with sc := relS scope I.sc, fn := fun x => scope.names.lookup x == some .cell }
theorem okx_blk {I : CI} {W : WX} {X : Cx} (ok : Okx I W X) (scope : Scope) (s : Shared) (H : Hp) (C : Addr) (cl : List (Str × Addr)) (fp : List Addr) : Okx (I.blk scope) W0 (X.blk s H scope (compEnvC scope cl C X.env) fp) := by
  refine ⟨ok.hP, ok.hw, ok.hK, ok.hmg, ok.hbase, ok.hN, ?_, rfl, ok.nd, ok.calm, ok.room, takes0, .never⟩
  show (compEnvC scope cl C X.env).scope = relS scope I.sc
  rw [← ok.hsc]
  rfl
section
variable {I : CI} {W : WX} {tg iter elt : Expr} {ifs : List Expr} {scope : Scope} {pos : Pos}
def DTs (I : CI) (W : WX) (ifs : List Expr) (m : M Bool) : Prop := ∃ t, (∀ X, Okx I W X → PTs X ifs t) ∧ SimT I W t m
theorem dts_nil : DTs I W [] (M.ret true) := ⟨tYes, fun _ _ => pts_nil, fun p G σ H e Q S w => w G H (Same.refl _) S⟩
theorem dts_one {c : Expr} {m : M Bool} (h : DT I W c m) : DTs I W [c] m := let ⟨t, h1, h2⟩ := h; ⟨t, fun X ok => pts_one (h1 X ok), h2⟩
theorem comp_sim {wi : TI} {tg' : TG} {tt : TT} {te : TE} {mi : M (List D)} {g : D → M Unit} {gs vs : List Nat} {t : M Bool} {m : M D} (hi : SimI I W wi mi) (hg : SimG (I.blk scope) W0 tg' g gs) (hgs : ∀ i ∈ gs, i ∈ vs)
    (ht : SimT (I.blk scope) W0 tt t) (he : SimE (I.blk scope) W0 te m) : SimR I W (tLc wi tg' tt te vs) (rComp mi g t m vs) := by
  intro p G σ H e Q S w
  refine hi p G σ H e _ S (Wp.mono (Wp.bnd w) fun ds G1 H1 e1 s1 S1 w1 J hJ => ?_)
  intro q nq
  split at w1
  case isFalse => exact w1.elim
  rename_i hlim
  have w1 := Wp.bnd w1
  obtain ⟨S1', gq, hq0, hqF, hqa⟩ := S1.laidOw (o := .lst []) nq
  have ll := lim_line
  -- between the turns
  refine ⟨fun i k H' => k = ds.length - i ∧ i ≤ ds.length ∧ ∃ G' e' av ad, Same G1 G' ∧ Srp I.K I.mg p G' σ H' e' ∧ Tmp p G' σ e' q ∧ H' q = some (.lst av) ∧ Reps I.K I.mg G' av ad ∧ ad.length ≤ i ∧
      Wp I.K I.mg W p G' σ (compF g t m vs (ds.drop i) ad e') (fun l G2 H2 e2 => Wp I.K I.mg W p G2 σ (M.ret (Ret.ow (Ct.l l)) e2) fun r G3 H3 e3 => RetK I.K I.mg p G3 σ H3 e3 Q r),
    ⟨ds.length, by simp, Nat.zero_le _, G1, e1, [], [], Same.refl _, S1', ⟨gq, hq0, hqF, hqa⟩, upd_same, Reps.nil, Nat.zero_le _, by simpa using w1⟩, ?_⟩
  rintro i k H' ⟨rfl, hi', G', e', av, ad, s', S', T', hav, rav, hadl, w'⟩
  obtain ⟨st, go⟩ := hJ p G' σ H' e' s' S' i
  by_cases hl : i < ds.length
  · obtain ⟨g1, g2⟩ := go _ (List.getElem?_eq_getElem hl)
    refine .inr ⟨g1, fun H2 => ∃ m', m' < ds.length - i ∧ (m' = ds.length - (i + 1) ∧ i + 1 ≤ ds.length ∧ ∃ G' e' av ad, Same G1 G' ∧ Srp I.K I.mg p G' σ H2 e' ∧ Tmp p G' σ e' q ∧ H2 q = some (.lst av) ∧ Reps I.K I.mg G' av ad ∧ ad.length ≤ i + 1 ∧
      Wp I.K I.mg W p G' σ (compF g t m vs (ds.drop (i + 1)) ad e') (fun l G2 H2 e2 => Wp I.K I.mg W p G2 σ (M.ret (Ret.ow (Ct.l l)) e2) fun r G3 H3 e3 => RetK I.K I.mg p G3 σ H3 e3 Q r)), fun H2 h => h, fun x H2 y => ?_⟩
    -- the turn, with the new list held
    have SP := S'.protect T' hav
    obtain ⟨_, go2⟩ := hJ (p.hold q (.lst av)) G' σ H' e' s' SP i
    obtain ⟨_, g4⟩ := go2 _ (List.getElem?_eq_getElem hl)
    obtain ⟨G2, t1, S2, r2, _⟩ := g4 x H2 y
    rw [List.drop_eq_getElem_cons hl] at w'
    unfold compF at w'
    by_cases hno : noOwn e' vs = true
    case neg => rw [if_neg hno] at w'; exact w'.elim
    rw [if_pos hno] at w'
    have SW := S2.wipe vs
    refine hg (p.hold q (.lst av)) G2 _ H2 (wipeE e' vs) x _ _ SW r2 ?_
    -- what the turn comes to
    have back : ∀ {G3 : Hp} {σ3 : L2.St} {H3 : Hp} {e3 : En}, Same G2 G3 → Srp I.K I.mg (p.hold q (.lst av)) G3 σ3 H3 e3 → L2.wipe σ3 vs = L2.wipe σ vs → e3.length = e'.length →
        Srp I.K I.mg p G3 σ H3 (backE e3 e' vs) ∧ Tmp p G3 σ (backE e3 e' vs) q ∧ H3 q = some (.lst av) := fun {G3 σ3 H3 e3} s3 S3 h3 l3 => (Sr.back S2 S3 s3 h3 l3 hno).unprotect T'.h0 T'.f
    unfold turnC M.bnd at w'
    cases z : g ds[i] (wipeE e' vs) with
    | no => rw [z] at w'; exact w'.elim
    | ex c fs e2 => rw [z] at w'; exact w'.elim
    | ok u e2 =>
      rw [z] at w'
      dsimp only at w'
      intro G3 σ3 H3 t3 S3 d3
      have hlen : σ3.length = σ.length := d3.1.trans (wipe_length σ vs)
      have hwp := wipe_same hgs d3
      have lenE : ∀ {G4 : Hp} {H4 : Hp} {e4 : En}, Srp I.K I.mg (p.hold q (.lst av)) G4 σ3 H4 e4 → e4.length = e'.length := fun {G4 H4 e4} S4 => by
        rw [← S4.len, hlen, S'.len]
      refine ⟨hwp, ?_⟩
      have wt : Wp I.K I.mg W0 (p.hold q (.lst av)) G3 σ3 (t e2) fun b G4 H4 e4 => (if b = true then te σ3 H4 fun y H5 => ∃ acc, H5 q = some (.lst acc) ∧ acc.length < sizeLine ∧ ∃ m', m' < ds.length - i ∧ (m' = ds.length - (i + 1) ∧ i + 1 ≤ ds.length ∧ ∃ G' e' av ad, Same G1 G' ∧ Srp I.K I.mg p G' σ (upd H5 q (.lst (acc ++ [y]))) e' ∧ Tmp p G' σ e' q ∧ upd H5 q (.lst (acc ++ [y])) q = some (.lst av) ∧ Reps I.K I.mg G' av ad ∧ ad.length ≤ i + 1 ∧
          Wp I.K I.mg W p G' σ (compF g t m vs (ds.drop (i + 1)) ad e') (fun l G2 H2 e2 => Wp I.K I.mg W p G2 σ (M.ret (Ret.ow (Ct.l l)) e2) fun r G3 H3 e3 => RetK I.K I.mg p G3 σ H3 e3 Q r))
          else ∃ m', m' < ds.length - i ∧ (m' = ds.length - (i + 1) ∧ i + 1 ≤ ds.length ∧ ∃ G' e' av ad, Same G1 G' ∧ Srp I.K I.mg p G' σ H4 e' ∧ Tmp p G' σ e' q ∧ H4 q = some (.lst av) ∧ Reps I.K I.mg G' av ad ∧ ad.length ≤ i + 1 ∧
          Wp I.K I.mg W p G' σ (compF g t m vs (ds.drop (i + 1)) ad e') (fun l G2 H2 e2 => Wp I.K I.mg W p G2 σ (M.ret (Ret.ow (Ct.l l)) e2) fun r G3 H3 e3 => RetK I.K I.mg p G3 σ H3 e3 Q r))) := by
        cases zt : t e2 with
        | no => rw [zt] at w'; exact w'.elim
        | ex c fs e4 => rw [zt] at w'; exact w'.elim
        | ok b e4 =>
          rw [zt] at w'
          intro G4 H4 t4 S4
          cases b with
          | false =>
            dsimp only at w'
            rw [if_neg Bool.false_ne_true] at w' ⊢
            obtain ⟨k1, k2, k3⟩ := back (t3.trans t4) S4 hwp (lenE S4)
            exact ⟨_, by omega, rfl, hl, G4, _, av, ad, s'.trans (t1.trans (t3.trans t4)), k1, k2, k3, rav.mono (t1.trans (t3.trans t4)), by omega, Wp.up w' (t1.trans (t3.trans t4))⟩
          | true =>
            dsimp only at w'
            rw [if_pos rfl] at w' ⊢
            refine he (p.hold q (.lst av)) G4 σ3 H4 e4 _ S4 ?_
            cases zm : m e4 with
            | no => rw [zm] at w'; exact w'.elim
            | ex c fs e5 => rw [zm] at w'; exact w'.elim
            | ok yd e5 =>
              rw [zm] at w'
              intro G5 H5 t5 S5 yv ry
              obtain ⟨k1, k2, k3⟩ := back (t3.trans (t4.trans t5)) S5 hwp (lenE S5)
              refine ⟨av, k3, by rw [rav.1]; omega, _, by omega, rfl, hl, G5, _, av ++ [yv], ad ++ [yd], s'.trans (t1.trans (t3.trans (t4.trans t5))), k1.poke k2 k3 (fun _ z => nomatch z), k2, upd_same,
                (rav.mono (t1.trans (t3.trans (t4.trans t5)))).append (Reps.one ry), by simp; omega, Wp.up w' (t1.trans (t3.trans (t4.trans t5)))⟩
      exact ht (p.hold q (.lst av)) G3 σ3 H3 e2 _ S3 wt
  · have ei : i = ds.length := by omega
    refine .inl ⟨st ei, ?_⟩
    rw [List.drop_eq_nil_of_le (by omega)] at w'
    have k1 := w' G' H' (Same.refl _) S' G' H' (Same.refl _) S'
    exact k1 q T'.g ⟨av, hav, rav⟩ T'.h0 T'.f T'.ap
theorem dr_comp {own : List (Str × Nat)} {mi : M (List D)} {g : D → M Unit} {gs : List Nat} {t : M Bool} {m : M D} (hi : DI I W tg iter mi) (ok : BlkOk I.N I.sc scope own) (hg : DG (I.blk scope) W0 tg g gs) (hgs : ∀ i ∈ gs, i ∈ own.map (·.2))
    (ht : DTs (I.blk scope) W0 ifs t) (he : DE (I.blk scope) W0 elt m) (hs : ∀ (env : Env) x, foldedSetIterable iter env x = pure x) : DR I W (.ListComp elt [⟨tg, iter, ifs, 0⟩] scope pos) (rComp mi g t m (own.map (·.2))) := by
  obtain ⟨w, i1, i2⟩ := hi
  obtain ⟨u, g1, g2⟩ := hg
  obtain ⟨tt, t1, t2⟩ := ht
  obtain ⟨te, e1, e2⟩ := he
  refine ⟨tLc w u tt te (own.map (·.2)), fun X kx => pe_lc kx.calm (by rw [kx.hN]; exact kx.nd) (i1 X kx) (by rw [kx.hN, kx.hsc]; exact ok) (fun s H C cl fp => g1 _ (okx_blk kx scope s H C cl fp)) (fun s H C cl fp => t1 _ (okx_blk kx scope s H C cl fp)) (fun s H C cl fp => e1 _ (okx_blk kx scope s H C cl fp)) (hs X.env), comp_sim i2 g2 hgs t2 e2⟩
end
end DL
end

section
namespace DL
open PySem PySem.Spec L2
open PyProof.Rows hiding St

section
variable {I : CI} {W : WX} {a b : Expr} {es : List Expr} {pos p0 : Pos} {x : Str}
theorem de_never : DE I W a (fun _ => .no) := ⟨fun _ _ _ => False, fun _ _ => ⟨fun _ _ _ _ _ _ h => h.elim⟩, fun p G σ H e Q S w => w.elim⟩
theorem dr_never : DR I W a (fun _ => .no) := ⟨fun _ _ _ => False, fun _ _ => ⟨fun _ _ _ _ _ _ h => h.elim⟩, fun p G σ H e Q S w => w.elim⟩
theorem dt_never : DT I W a (fun _ => .no) := ⟨fun _ _ _ => False, fun _ _ => ⟨fun _ _ _ _ _ _ h => h.elim⟩, fun p G σ H e Q S w => w.elim⟩
/-! ### x[i] -/
def fIx : D → D → Option D
  | .lst l, .int i => atI l i
  | .tup l, .int i => atI l i
  | .str z, .int i => if z.length ≤ LIM then (atI z.cps.toList i).map fun c => .str ⟨#[c]⟩ else none
  | _, _ => none
theorem atI_reps {K : PySem.W.Frag} {mg : MG} {G : Hp} {vs : List V} {l : List D} (r : Reps K mg G vs l) {i : Int} {d : D} (h : atI l i = some d) : ∃ v, atI vs i = some v ∧ Rep K mg G v d := by
  unfold atI at h ⊢
  rw [r.1]
  cases z : ixN l.length i with
  | none => rw [z] at h; cases h
  | some j =>
    rw [z] at h
    exact r.get h
theorem rIx_of {K : PySem.W.Frag} {mg : MG} {G H : Hp} (s : Same G H) {v w : V} {d k y : D} {Q : VK} (r : Rep K mg G v d) (rk : Rep K mg G w k) (h : fIx d k = some y) (q : ∀ u, Rep K mg G u y → Q u H) : rIx K v w H Q := by
  have ll := lim_line
  cases r with
  | tup h1 h2 h3 =>
    cases rk <;> first | cases h | skip
    obtain ⟨u, e1, e2⟩ := atI_reps ⟨h2, h3⟩ h
    exact .inr (.inl ⟨_, _, _, u, rfl, rfl, Same.seqT s h1, e1, q u e2⟩)
  | lst h1 h2 h3 =>
    cases rk <;> first | cases h | skip
    obtain ⟨u, e1, e2⟩ := atI_reps ⟨h2, h3⟩ h
    exact .inl ⟨_, _, _, u, rfl, rfl, LsT.sq (Same.ls s h1), e1, q u e2⟩
  | str z =>
    cases rk <;> first | cases h | skip
    unfold fIx at h
    dsimp only at h
    split at h
    · rename_i i hz
      cases e : atI z.cps.toList i with
      | none => rw [e] at h; cases h
      | some c =>
        rw [e] at h
        have : y = .str ⟨#[c]⟩ := (Option.some.inj h).symm
        subst this
        exact .inr (.inr ⟨z, i, c, rfl, rfl, by omega, e, q _ (.str _)⟩)
    · cases h
  | non => cases h
  | bl _ => cases h
  | int _ => cases h
  | dct _ _ _ _ => cases h
  | obj _ _ _ _ _ _ => cases h
def eIx (ma mb : M D) : M D := M.bnd ma fun x => M.bnd mb fun y => lift (fIx x y)
theorem de_ix {ma mb : M D} (ha : DE I W a ma) (hb : DE I W b mb) (hs : PlainIx b) : DE I W (.Subscript a b pos) (eIx ma mb) := by
  obtain ⟨t, h1, h2⟩ := ha
  obtain ⟨u, h3, h4⟩ := hb
  refine ⟨tOp (rIx I.K) t u, fun X ok => pe_ix (by have := ix_seq (X := X); rw [ok.hK] at this; exact this) (h1 X ok) (h3 X ok) hs, fun p G σ H e Q S w => ?_⟩
  refine h2 p G σ H e _ S (Wp.mono (Wp.bnd w) fun da G1 H1 e1 s1 S1 w1 v r => ?_)
  refine h4 p G1 σ H1 e1 _ S1 (Wp.mono (Wp.bnd w1) fun db G2 H2 e2 s2 S2 w2 v' r' => ?_)
  obtain ⟨y, hy, k⟩ := lift_wp w2
  exact rIx_of S2.sub (r.mono s2) r' hy fun u ru => k G2 H2 (Same.refl _) S2 u ru
/-- x[i], x a name: what it owns stays its own -/
def Sl.look : Sl → Option D
  | .sh d => some d
  | .ow x => some x.d
  | .io x => some x.d
  | .no => none
def peek (i : Nat) (k : D → M D) : M D := fun e => match e[i]?.bind Sl.look with
  | some d => k d e
  | none => .no
def has (i : Nat) (m : M D) : M D := fun e => if (e[i]?.bind Sl.look).isSome = true then m e else .no
def eIxV (i : Nat) (mb : M D) : M D := has i (M.bnd mb fun y => peek i fun d => lift (fIx d y))
theorem slot_any {K : PySem.W.Frag} {mg : MG} {p : Pm} {G H : Hp} {σ : L2.St} {e : En} (S : Srp K mg p G σ H e) {i : Nat} {d : D} (h : e[i]?.bind Sl.look = some d) :
    ∃ v, σ[i]? = some (some v) ∧ ((∃ s, e[i]? = some s ∧ Rep K mg G v d) ∨ ∃ s x a, e[i]? = some s ∧ s.own = some x ∧ d = x.d ∧ v = .ref a ∧ CtR K mg G H a x) := by
  cases q : e[i]? with
  | none => rw [q] at h; cases h
  | some s =>
    rw [q] at h
    cases s with
    | no => cases h
    | sh y =>
      cases h
      obtain ⟨v, h1, h2⟩ := S.sh i d q
      exact ⟨v, h1, .inl ⟨_, rfl, h2⟩⟩
    | ow x =>
      cases h
      obtain ⟨b, h1, h2, h3⟩ := S.ow i _ x q rfl
      exact ⟨_, h1, .inr ⟨_, x, b, rfl, rfl, rfl, rfl, h3⟩⟩
    | io x =>
      cases h
      obtain ⟨b, h1, h2, h3⟩ := S.ow i _ x q rfl
      exact ⟨_, h1, .inr ⟨_, x, b, rfl, rfl, rfl, rfl, h3⟩⟩
theorem pe_slot {i : Nat} (h : VarOk I.N I.sc i x) : ∀ X, Okx I W X → PE X (.Name x p0) (tVar i) := fun X ok => pe_var (by rw [ok.hN]; exact h.hN) (by rw [ok.hsc]; exact h.hv) h.hd h.hc
/-- the slot is there all through an expression: σ stays -/
theorem de_ixV {i : Nat} {mb : M D} (hx : VarOk I.N I.sc i x) (hb : DE I W b mb) (hs : PlainIx b) : DE I W (.Subscript (.Name x p0) b pos) (eIxV i mb) := by
  obtain ⟨u, h3, h4⟩ := hb
  refine ⟨tOp (rIx I.K) (tVar i) u, fun X ok => pe_ix (by have := ix_seq (X := X); rw [ok.hK] at this; exact this) (pe_slot hx X ok) (h3 X ok) hs, fun p G σ H e Q S w => ?_⟩
  unfold eIxV has at w
  split at w
  case isFalse => exact w.elim
  rename_i hs0
  cases q : e[i]?.bind Sl.look with
  | none => rw [q] at hs0; cases hs0
  | some d0 =>
    obtain ⟨v, hv, _⟩ := slot_any S q
    refine ⟨v, hv, h4 p G σ H e _ S (Wp.mono (Wp.bnd w) fun db G2 H2 e2 s2 S2 w2 v' r' => ?_)⟩
    unfold peek at w2
    cases q2 : e2[i]?.bind Sl.look with
    | none => rw [q2] at w2; exact w2.elim
    | some d =>
      rw [q2] at w2
      dsimp only at w2
      obtain ⟨y, hy, k⟩ := lift_wp w2
      obtain ⟨v2, hv2, hc⟩ := slot_any S2 q2
      rw [hv] at hv2; cases hv2
      have fin := fun u ru => k G2 H2 (Same.refl _) S2 u ru
      rcases hc with ⟨s, _, r⟩ | ⟨s, x, b, _, _, rfl, rfl, c⟩
      · exact rIx_of S2.sub r r' hy fin
      · cases x with
        | o c fs => cases db <;> cases hy
        | l l =>
          obtain ⟨vs, hH, rs⟩ := c
          cases r' <;> first | cases hy | skip
          obtain ⟨u', e1, e2'⟩ := atI_reps rs hy
          exact .inl ⟨_, _, _, u', rfl, rfl, .of hH, e1, fin u' e2'⟩
/-! ### x[lo:hi] -/
def SimPo (I : CI) (W : WX) (t : TO) (m : M (Option Int)) : Prop := ∀ (p : Pm) G σ H e (Q : Option Int → Hp → Prop), Srp I.K I.mg p G σ H e → Wp I.K I.mg W p G σ (m e) (fun o _ H' _ => Q o H') → t σ H Q
def DPo (I : CI) (W : WX) (o : Option Expr) (m : M (Option Int)) : Prop := ∃ t, (∀ X, Okx I W X → PO X o t) ∧ SimPo I W t m
def oSome (m : M D) : M (Option Int) := M.bnd m fun d => match d with
  | .int i => M.ret (some i)
  | _ => fun _ => .no
theorem dpo_none : DPo I W none (M.ret none) := ⟨_, fun _ _ => po_none, fun p G σ H e Q S w => w G H (Same.refl _) S⟩
theorem dpo_some {m : M D} (h : DE I W a m) : DPo I W (some a) (oSome m) := by
  obtain ⟨t, h1, h2⟩ := h
  refine ⟨_, fun X ok => po_some (h1 X ok), fun p G σ H e Q S w => ?_⟩
  refine h2 p G σ H e _ S (Wp.mono (Wp.bnd w) fun d G1 H1 e1 s1 S1 w1 v r => ?_)
  cases r <;> first | exact w1.elim | skip
  exact ⟨_, rfl, w1 G1 H1 (Same.refl _) S1⟩
def cutD (l : List D) (lo hi : Option Int) : List D := (l.drop (HT.sIx l.length 0 lo)).take (HT.sIx l.length l.length hi - HT.sIx l.length 0 lo)
def fSl (d : D) (lo hi : Option Int) : Option Ret := match d with
  | .lst l => some (.ow (.l (cutD l lo hi)))
  | .tup l => some (.sh (.tup (cutD l lo hi)))
  | .str z => if z.length ≤ LIM then some (.sh (.str (cutS z lo hi))) else none
  | _ => none
theorem reps_cut {K : PySem.W.Frag} {mg : MG} {G : Hp} {vs : List V} {l : List D} (r : Reps K mg G vs l) (lo hi : Option Int) : Reps K mg G (cutV vs lo hi) (cutD l lo hi) := by
  unfold cutV cutD
  rw [r.1]
  refine ⟨by simp [r.1], fun i v d h1 h2 => ?_⟩
  obtain ⟨k1, _⟩ := take_get h1
  obtain ⟨k2, _⟩ := take_get h2
  rw [List.getElem?_drop] at k1 k2
  exact r.2 _ v d k1 k2
theorem cutD_whole {l : List D} {lo hi : Option Int} (h : HT.sIx l.length 0 lo = 0 ∧ HT.sIx l.length l.length hi = l.length) : cutD l lo hi = l := by
  unfold cutD
  rw [h.1, h.2]
  simp
def rSl (m : M D) (ml mh : M (Option Int)) : M Ret := M.bnd m fun d => M.bnd ml fun lo => M.bnd mh fun hi => lift (fSl d lo hi)
theorem dr_slice {m : M D} {ml mh : M (Option Int)} {lo hi : Option Expr} {p2 : Pos} (h : DE I W a m) (hl : DPo I W lo ml) (hh : DPo I W hi mh) : DR I W (.Subscript a (.Slice lo hi none p2) pos) (rSl m ml mh) := by
  obtain ⟨t, h1, h2⟩ := h
  obtain ⟨tl, l1, l2⟩ := hl
  obtain ⟨th, u1, u2⟩ := hh
  refine ⟨tSl (fun x lo hi H Q => rSlL I.K x lo hi H Q ∨ rSlA I.K x lo hi H Q ∨ rSlS x lo hi H Q) t tl th, fun X ok => pe_slice (by have h1 := sl_list (X := X); have h2 := sl_tupA (X := X); rw [ok.hK] at h1 h2; exact h1.or (h2.or sl_str)) (h1 X ok) (l1 X ok) (u1 X ok), fun p G σ H e Q S w => ?_⟩
  have ll := lim_line
  refine h2 p G σ H e _ S (Wp.mono (Wp.bnd w) fun d G1 H1 e1 s1 S1 w1 v r => ?_)
  refine l2 p G1 σ H1 e1 _ S1 (Wp.mono (Wp.bnd w1) fun lo' G2 H2 e2 s2 S2 w2 => ?_)
  refine u2 p G2 σ H2 e2 _ S2 (Wp.mono (Wp.bnd w2) fun hi' G3 H3 e3 s3 S3 w3 => ?_)
  obtain ⟨res, hf, k⟩ := lift_wp w3
  have r := (r.mono s2).mono s3
  cases r with
  | lst h1 h2 h3 =>
    cases hf
    refine .inl ⟨_, _, rfl, LsT.sq (Same.ls S3.sub h1), fun q n => ?_⟩
    obtain ⟨S4, gn, h0, hF, ap⟩ := S3.laidOw (o := .lst _) n
    exact k G3 _ (Same.refl _) S4 q gn ⟨_, upd_same, reps_cut ⟨h2, h3⟩ _ _⟩ h0 hF ap
  | @tup b vs l h1 h2 h3 =>
    cases hf
    refine .inr (.inl ⟨b, vs, rfl, Same.seqT S3.sub h1, fun hw => ?_, fun hw q n => ?_⟩)
    · refine k G3 H3 (Same.refl _) S3 _ ?_
      rw [h2] at hw
      rw [cutD_whole hw]
      exact .tup h1 h2 h3
    · obtain ⟨s4, S4⟩ := S3.laid (o := .tup _) n
      exact k _ _ s4 S4 _ (.mk_tup (.of upd_same) ((reps_cut ⟨h2, h3⟩ _ _).mono s4))
  | str z =>
    unfold fSl at hf
    dsimp only at hf
    split at hf
    · cases hf
      exact .inr (.inr ⟨z, rfl, by omega, k G3 H3 (Same.refl _) S3 _ (.str _)⟩)
    · cases hf
  | non => cases hf
  | bl _ => cases hf
  | int _ => cases hf
  | dct _ _ _ _ => cases hf
  | obj _ _ _ _ _ _ => cases hf

/-! ### built-in functions -/
/-- f tells what a call with these data does -/
def FnD (I : CI) (W : WX) (fv : Value) (f : List D → Option Ret) : Prop :=
  ∃ r : List V → Hp → VK → Prop, (∀ X, Okx I W X → CallR X fv r) ∧ ∀ (p : Pm) G σ H e vs ds res (Q : VK), Srp I.K I.mg p G σ H e → Reps I.K I.mg G vs ds → f ds = some res →
    (∀ G' H', Same G G' → Srp I.K I.mg p G' σ H' e → RetK I.K I.mg p G' σ H' e Q res) → r vs H Q
def rFn (f : List D → Option Ret) (m : M (List Ar)) : M Ret := M.bnd (aVals m) fun ds => lift (f ds)
theorem fn_sim {r : List V → Hp → VK → Prop} {t : TA} {f : List D → Option Ret} {m : M (List Ar)} (hr : ∀ (p : Pm) G σ H e vs ds res (Q : VK), Srp I.K I.mg p G σ H e → Reps I.K I.mg G vs ds → f ds = some res →
    (∀ G' H', Same G G' → Srp I.K I.mg p G' σ H' e → RetK I.K I.mg p G' σ H' e Q res) → r vs H Q) (h : SimP I W t m) : SimR I W (tCB r t) (rFn f m) := by
  intro p G σ H e Q S w
  refine simA_of h p G σ H e _ S (Wp.mono (Wp.bnd w) fun ds G1 H1 e1 s1 S1 w1 vs rs => ?_)
  obtain ⟨res, hf, k⟩ := lift_wp w1
  exact hr p G1 σ H1 e1 vs ds res Q S1 rs hf k
theorem dr_fnB {id : String} {f : List D → Option Ret} {m : M (List Ar)} (F : FnD I W (.builtin id) f) (g : I.sc.names.lookup x = some .globalImplicit) (hm : I.mg x = none) (hv : bootBuiltins x = some (.builtin id)) (ha : DP I W (a :: es) m)
    (hn : x ≠ "__name__") (hd : (x == ("__debug__" : Str)) = false) : DR I W (.Call (.Name x p0) (a :: es) [] pos) (rFn f m) := by
  obtain ⟨r, f1, f2⟩ := F
  obtain ⟨n, t, h1, h2⟩ := ha
  have n2 : nst a = true ∧ es.all nst = true := by simpa using n
  exact ⟨tCB r t, fun X ok => pe_callB (f1 X ok) (gl_of ok.hsc g) (by rw [ok.hmg]; exact hm) hv (h1 X ok) hn hd (star_of n2.1 _ _) (by rw [no_back]; exact no_star n2.2 _), fn_sim f2 h2⟩
theorem dr_fnT {T : String} {f : List D → Option Ret} {m : M (List Ar)} (F : FnD I W (.type T) f) (g : I.sc.names.lookup x = some .globalImplicit) (hm : I.mg x = none) (hv : bootBuiltins x = some (.type T)) (ha : DP I W (a :: es) m)
    (hn : x ≠ "__name__") (hd : (x == ("__debug__" : Str)) = false) : DR I W (.Call (.Name x p0) (a :: es) [] pos) (rFn f m) := by
  obtain ⟨r, f1, f2⟩ := F
  obtain ⟨n, t, h1, h2⟩ := ha
  have n2 : nst a = true ∧ es.all nst = true := by simpa using n
  exact ⟨tCB r t, fun X ok => pe_callTy (f1 X ok) (gl_of ok.hsc g) (by rw [ok.hmg]; exact hm) hv (h1 X ok) hn hd (star_of n2.1 _ _) (by rw [no_back]; exact no_star n2.2 _), fn_sim f2 h2⟩
end
end DL
end

section
namespace DL
open PySem PySem.Spec L2
open PyProof.Rows hiding St

def asInts : List D → Option (List Int)
  | [] => some []
  | .int i :: l => (asInts l).map (i :: ·)
  | _ :: _ => none
def asBls : List D → Option (List Bool)
  | [] => some []
  | .bl i :: l => (asBls l).map (i :: ·)
  | _ :: _ => none
theorem asInts_map (ns : List Int) : asInts (ns.map D.int) = some ns := by
  induction ns with
  | nil => rfl
  | cons n ns ih => simp [asInts, ih]
theorem asBls_map (ns : List Bool) : asBls (ns.map D.bl) = some ns := by
  induction ns with
  | nil => rfl
  | cons n ns ih => simp [asBls, ih]
section
variable {K : PySem.W.Frag} {mg : MG} {G : Hp}
theorem ints_of : ∀ {l : List D} {vs : List V} {ns : List Int}, Reps K mg G vs l → asInts l = some ns → vs = ns.map V.int
  | [], vs, ns, r, h => by
    cases h
    have := r.1
    cases vs with
    | nil => rfl
    | cons _ _ => simp at this
  | d :: l, vs, ns, r, h => by
    obtain ⟨v, vr, rfl, h1, h2⟩ := r.uncons
    cases d <;> first | cases h | skip
    rename_i i
    unfold asInts at h
    cases z : asInts l with
    | none => rw [z] at h; cases h
    | some ms =>
      rw [z] at h
      have : ns = i :: ms := (Option.some.inj h).symm
      subst this
      rw [rep_int h1, ints_of h2 z]
      rfl
theorem bls_of : ∀ {l : List D} {vs : List V} {ns : List Bool}, Reps K mg G vs l → asBls l = some ns → vs = ns.map V.bl
  | [], vs, ns, r, h => by
    cases h
    have := r.1
    cases vs with
    | nil => rfl
    | cons _ _ => simp at this
  | d :: l, vs, ns, r, h => by
    obtain ⟨v, vr, rfl, h1, h2⟩ := r.uncons
    cases d <;> first | cases h | skip
    rename_i i
    unfold asBls at h
    cases z : asBls l with
    | none => rw [z] at h; cases h
    | some ms =>
      rw [z] at h
      have : ns = i :: ms := (Option.some.inj h).symm
      subst this
      cases h1
      rw [bls_of h2 z]
      rfl
theorem reps_ints : ∀ (ns : List Int), Reps K mg G (ns.map V.int) (ns.map D.int)
  | [] => Reps.nil
  | n :: ns => .cons (.int n) (reps_ints ns)
end
section
variable {I : CI} {W : WX}
/-! ### one value -/
def f1 (g : D → Option Ret) : List D → Option Ret
  | [d] => g d
  | _ => none
def gLen : D → Option Ret
  | .lst l => some (.sh (.int l.length))
  | .tup l => some (.sh (.int l.length))
  | .str z => if z.length ≤ LIM then some (.sh (.int z.length)) else none
  | _ => none
theorem len_of {K : PySem.W.Frag} {mg : MG} {G H : Hp} {v : V} {d : D} {res : Ret} (r : Rep K mg G v d) (s : Same G H) (h : gLen d = some res) : ∃ n, LenV K v H n ∧ res = .sh (.int n) := by
  have ll := lim_line
  cases r with
  | lst h1 h2 _ => cases h; exact ⟨_, .inl ⟨_, LsT.sq (Same.ls s h1), rfl⟩, by rw [h2]⟩
  | tup h1 h2 _ => cases h; exact ⟨_, .inr ⟨_, Same.seqT s h1, rfl⟩, by rw [h2]⟩
  | str z =>
    unfold gLen at h
    dsimp only at h
    split at h
    · cases h; exact ⟨_, ⟨by omega, rfl⟩, rfl⟩
    · cases h
  | non => cases h
  | bl _ => cases h
  | int _ => cases h
  | dct _ _ _ _ => cases h
  | obj _ _ _ _ _ _ => cases h
theorem fn_one {fv : Value} {g : D → Option Ret} {r : List V → Hp → VK → Prop} (h1 : ∀ X, Okx I W X → CallR X fv r) (h2 : ∀ (p : Pm) G σ H e v d res (Q : VK), Srp I.K I.mg p G σ H e → Rep I.K I.mg G v d → g d = some res →
    (∀ G' H', Same G G' → Srp I.K I.mg p G' σ H' e → RetK I.K I.mg p G' σ H' e Q res) → r [v] H Q) : FnD I W fv (f1 g) := by
  refine ⟨r, h1, fun p G σ H e vs ds res Q S rs hf k => ?_⟩
  match ds, rs, hf with
  | [d], rs, hf =>
    obtain ⟨v, rfl, rv⟩ := reps1 rs
    exact h2 p G σ H e v d res Q S rv hf k
theorem fn_len : FnD I W (.builtin "len") (f1 gLen) := fn_one (r := fun xs H Q => ∃ x n, xs = [x] ∧ LenV I.K x H n ∧ Q (.int n) H) (fun X ok => by have := call_len (X := X); rw [ok.hK] at this; exact this) fun p G σ H e v d res Q S r h k => by
  obtain ⟨n, h1, rfl⟩ := len_of r S.sub h
  exact ⟨v, n, rfl, h1, k G H (Same.refl _) S _ (.int _)⟩
def gAbs : D → Option Ret
  | .int i => some (.sh (.int (if i < 0 then -i else i)))
  | _ => none
theorem fn_abs : FnD I W (.builtin "abs") (f1 gAbs) := fn_one (fun X ok => call_abs) fun p G σ H e v d res Q S r h k => by
  cases r <;> cases h
  exact ⟨_, rfl, k G H (Same.refl _) S _ (.int _)⟩
def gInt : D → Option Ret
  | .int i => some (.sh (.int i))
  | .bl b => some (.sh (.int (if b then 1 else 0)))
  | _ => none
theorem fn_int : FnD I W (.type "int") (f1 gInt) := fn_one (fun X ok => call_int1) fun p G σ H e v d res Q S r h k => by
  cases r <;> cases h
  · exact .inr ⟨_, rfl, k G H (Same.refl _) S _ (.int _)⟩
  · exact .inl ⟨_, rfl, k G H (Same.refl _) S _ (.int _)⟩
def gStr : D → Option Ret
  | .int i => if i.natAbs.log2 < 1920 then some (.sh (.str (toString i))) else none
  | _ => none
theorem fn_str : FnD I W (.type "str") (f1 gStr) := fn_one (fun X ok => call_str_int) fun p G σ H e v d res Q S r h k => by
  cases r <;> first | cases h | skip
  unfold gStr at h
  dsimp only at h
  split at h
  · cases h
    exact ⟨_, rfl, by assumption, k G H (Same.refl _) S _ (.str _)⟩
  · cases h
def gList : D → Option Ret
  | .lst l => some (.ow (.l l))
  | .tup l => some (.ow (.l l))
  | _ => none
theorem fn_list : FnD I W (.type "list") (f1 gList) := fn_one (r := fun xs H Q => ∃ p ys, xs = [.ref p] ∧ (SqL I.K H p ys ∨ SqT I.K H p ys) ∧ ∀ l, H l = none → Q (.ref l) (upd H l (.lst ys))) (fun X ok => by have := call_list_of (X := X); rw [ok.hK] at this; exact this) fun p G σ H e v d res Q S r h k => by
  cases r with
  | lst h1 h2 h3 =>
    cases h
    refine ⟨_, _, rfl, .inl (LsT.sq (Same.ls S.sub h1)), fun q n => ?_⟩
    obtain ⟨S4, gn, h0, hF, ap⟩ := S.laidOw (o := .lst _) n
    exact k G _ (Same.refl _) S4 q gn ⟨_, upd_same, ⟨h2, h3⟩⟩ h0 hF ap
  | tup h1 h2 h3 =>
    cases h
    refine ⟨_, _, rfl, .inr (Same.seqT S.sub h1), fun q n => ?_⟩
    obtain ⟨S4, gn, h0, hF, ap⟩ := S.laidOw (o := .lst _) n
    exact k G _ (Same.refl _) S4 q gn ⟨_, upd_same, ⟨h2, h3⟩⟩ h0 hF ap
  | str _ => cases h
  | non => cases h
  | bl _ => cases h
  | int _ => cases h
  | dct _ _ _ _ => cases h
  | obj _ _ _ _ _ _ => cases h
def gTuple : D → Option Ret
  | .lst l => some (.sh (.tup l))
  | .tup l => some (.sh (.tup l))
  | _ => none
theorem fn_tuple : FnD I W (.type "tuple") (f1 gTuple) := fn_one (r := fun xs H Q => ∃ p ys, xs = [.ref p] ∧ ((SqL I.K H p ys ∧ ∀ l, H l = none → Q (.ref l) (upd H l (.tup ys))) ∨ (SqT I.K H p ys ∧ Q (.ref p) H))) (fun X ok => by have := call_tuple_of (X := X); rw [ok.hK] at this; exact this) fun p G σ H e v d res Q S r h k => by
  cases r with
  | lst h1 h2 h3 =>
    cases h
    refine ⟨_, _, rfl, .inl ⟨LsT.sq (Same.ls S.sub h1), fun q n => ?_⟩⟩
    obtain ⟨s4, S4⟩ := S.laid (o := .tup _) n
    exact k _ _ s4 S4 _ (.mk_tup (.of upd_same) (Reps.mono s4 ⟨h2, h3⟩))
  | tup h1 h2 h3 =>
    cases h
    exact ⟨_, _, rfl, .inr ⟨Same.seqT S.sub h1, k G H (Same.refl _) S _ (.tup h1 h2 h3)⟩⟩
  | str _ => cases h
  | non => cases h
  | bl _ => cases h
  | int _ => cases h
  | dct _ _ _ _ => cases h
  | obj _ _ _ _ _ _ => cases h
/-! ### lists of ints, of bools -/
def gInts (g : List Int → Option Ret) : D → Option Ret
  | .lst l => (asInts l).bind g
  | _ => none
def gBls (g : List Bool → Option Ret) : D → Option Ret
  | .lst l => (asBls l).bind g
  | _ => none
theorem rep_ints {K : PySem.W.Frag} {mg : MG} {G H : Hp} {v : V} {d : D} {g : List Int → Option Ret} {res : Ret} (r : Rep K mg G v d) (s : Same G H) (h : gInts g d = some res) : ∃ q ns, v = .ref q ∧ SqL K H q (ns.map V.int) ∧ g ns = some res := by
  cases r <;> first | cases h | skip
  rename_i q vs l h1 h2 h3
  unfold gInts at h
  dsimp only at h
  cases z : asInts l with
  | none => rw [z] at h; cases h
  | some ns =>
    rw [z] at h
    have := ints_of ⟨h2, h3⟩ z
    subst this
    exact ⟨q, ns, rfl, LsT.sq (Same.ls s h1), h⟩
theorem rep_bls {K : PySem.W.Frag} {mg : MG} {G H : Hp} {v : V} {d : D} {g : List Bool → Option Ret} {res : Ret} (r : Rep K mg G v d) (s : Same G H) (h : gBls g d = some res) : ∃ q ns, v = .ref q ∧ SqL K H q (ns.map V.bl) ∧ g ns = some res := by
  cases r <;> first | cases h | skip
  rename_i q vs l h1 h2 h3
  unfold gBls at h
  dsimp only at h
  cases z : asBls l with
  | none => rw [z] at h; cases h
  | some ns =>
    rw [z] at h
    have := bls_of ⟨h2, h3⟩ z
    subst this
    exact ⟨q, ns, rfl, LsT.sq (Same.ls s h1), h⟩
def gSum := gInts fun ns => some (.sh (.int ns.sum))
def gAll := gBls fun bs => some (.sh (.bl (bs.all id)))
def gAny := gBls fun bs => some (.sh (.bl (bs.any id)))
theorem fn_sum : FnD I W (.builtin "sum") (f1 gSum) := fn_one (r := rSum I.K) (fun X ok => by have := cr_sum ok.calm; rw [ok.hK] at this; exact this) fun p G σ H e v d res Q S r h k => by
  obtain ⟨q, ns, rfl, hs, hg⟩ := rep_ints r S.sub h
  cases hg
  exact ⟨q, ns, rfl, hs, k G H (Same.refl _) S _ (.int _)⟩
theorem fn_all : FnD I W (.builtin "all") (f1 gAll) := fn_one (r := rAll I.K) (fun X ok => by have := cr_all ok.calm; rw [ok.hK] at this; exact this) fun p G σ H e v d res Q S r h k => by
  obtain ⟨q, ns, rfl, hs, hg⟩ := rep_bls r S.sub h
  cases hg
  exact ⟨q, ns, rfl, hs, k G H (Same.refl _) S _ (.bl _)⟩
theorem fn_any : FnD I W (.builtin "any") (f1 gAny) := fn_one (r := rAny I.K) (fun X ok => by have := cr_any ok.calm; rw [ok.hK] at this; exact this) fun p G σ H e v d res Q S r h k => by
  obtain ⟨q, ns, rfl, hs, hg⟩ := rep_bls r S.sub h
  cases hg
  exact ⟨q, ns, rfl, hs, k G H (Same.refl _) S _ (.bl _)⟩
/-- the greatest and the least -/
def maxI : List Int → Option Int
  | [] => none
  | x :: xs => some (xs.foldl (fun a b => if b > a then b else a) x)
def minI : List Int → Option Int
  | [] => none
  | x :: xs => some (xs.foldl (fun a b => if b < a then b else a) x)
theorem maxI_fold : ∀ (xs : List Int) (x : Int), let m := xs.foldl (fun a b => if b > a then b else a) x; (m = x ∨ m ∈ xs) ∧ x ≤ m ∧ ∀ y ∈ xs, y ≤ m
  | [], x => ⟨.inl rfl, Int.le_refl _, fun _ h => by cases h⟩
  | z :: xs, x => by
    obtain ⟨h1, h2, h3⟩ := maxI_fold xs (if z > x then z else x)
    simp only [List.foldl_cons]
    refine ⟨?_, ?_, fun y hy => ?_⟩
    · rcases h1 with h | h
      · rw [h]
        split
        · exact .inr List.mem_cons_self
        · exact .inl rfl
      · exact .inr (List.mem_cons_of_mem _ h)
    · refine Int.le_trans ?_ h2
      split <;> omega
    · rcases List.mem_cons.mp hy with rfl | hy
      · refine Int.le_trans ?_ h2
        split <;> omega
      · exact h3 y hy
theorem minI_fold : ∀ (xs : List Int) (x : Int), let m := xs.foldl (fun a b => if b < a then b else a) x; (m = x ∨ m ∈ xs) ∧ m ≤ x ∧ ∀ y ∈ xs, m ≤ y
  | [], x => ⟨.inl rfl, Int.le_refl _, fun _ h => by cases h⟩
  | z :: xs, x => by
    obtain ⟨h1, h2, h3⟩ := minI_fold xs (if z < x then z else x)
    simp only [List.foldl_cons]
    refine ⟨?_, ?_, fun y hy => ?_⟩
    · rcases h1 with h | h
      · rw [h]
        split
        · exact .inr List.mem_cons_self
        · exact .inl rfl
      · exact .inr (List.mem_cons_of_mem _ h)
    · refine Int.le_trans h2 ?_
      split <;> omega
    · rcases List.mem_cons.mp hy with rfl | hy
      · refine Int.le_trans h2 ?_
        split <;> omega
      · exact h3 y hy
theorem maxI_spec {xs : List Int} {m : Int} (h : maxI xs = some m) : m ∈ xs ∧ ∀ y ∈ xs, y ≤ m := by
  cases xs with
  | nil => cases h
  | cons x xs =>
    cases h
    obtain ⟨h1, h2, h3⟩ := maxI_fold xs x
    refine ⟨?_, fun y hy => ?_⟩
    · rcases h1 with h | h
      · rw [h]; exact List.mem_cons_self
      · exact List.mem_cons_of_mem _ h
    · rcases List.mem_cons.mp hy with rfl | hy
      · exact h2
      · exact h3 y hy
theorem minI_spec {xs : List Int} {m : Int} (h : minI xs = some m) : m ∈ xs ∧ ∀ y ∈ xs, m ≤ y := by
  cases xs with
  | nil => cases h
  | cons x xs =>
    cases h
    obtain ⟨h1, h2, h3⟩ := minI_fold xs x
    refine ⟨?_, fun y hy => ?_⟩
    · rcases h1 with h | h
      · rw [h]; exact List.mem_cons_self
      · exact List.mem_cons_of_mem _ h
    · rcases List.mem_cons.mp hy with rfl | hy
      · exact h2
      · exact h3 y hy
def fMax : List D → Option Ret
  | [.int i, .int j] => some (.sh (.int (if j > i then j else i)))
  | [.lst l] => (asInts l).bind fun ns => (maxI ns).map fun m => .sh (.int m)
  | _ => none
def fMin : List D → Option Ret
  | [.int i, .int j] => some (.sh (.int (if j < i then j else i)))
  | [.lst l] => (asInts l).bind fun ns => (minI ns).map fun m => .sh (.int m)
  | _ => none
theorem fn_max : FnD I W (.builtin "max") fMax := by
  refine ⟨fun xs H Q => (∃ i j, xs = [.int i, .int j] ∧ Q (.int (if j > i then j else i)) H) ∨ rMax I.K xs H Q, fun X ok => (call_max2 ok.calm).or (by have := cr_max ok.calm; rw [ok.hK] at this; exact this), fun p G σ H e vs ds res Q S rs hf k => ?_⟩
  match ds, rs, hf with
  | [.int i, .int j], rs, hf =>
    obtain ⟨v, v', rfl, rv, rv'⟩ := reps2 rs
    rw [rep_int rv, rep_int rv']
    cases hf
    exact .inl ⟨i, j, rfl, k G H (Same.refl _) S _ (.int _)⟩
  | [.lst l], rs, hf =>
    obtain ⟨v, rfl, rv⟩ := reps1 rs
    obtain ⟨q, ns, rfl, hs, hg⟩ := rep_ints (g := fun ns => (maxI ns).map fun m => .sh (.int m)) rv S.sub hf
    cases hm : maxI ns with
    | none => rw [hm] at hg; cases hg
    | some m =>
      rw [hm] at hg; cases hg
      obtain ⟨k1, k2⟩ := maxI_spec hm
      refine .inr ⟨q, ns, rfl, hs, List.length_pos_of_mem k1, fun m' h1 h2 => ?_⟩
      have : m' = m := Int.le_antisymm (k2 m' h1) (h2 m k1)
      subst this
      exact k G H (Same.refl _) S _ (.int _)
theorem fn_min : FnD I W (.builtin "min") fMin := by
  refine ⟨fun xs H Q => (∃ i j, xs = [.int i, .int j] ∧ Q (.int (if j < i then j else i)) H) ∨ rMin I.K xs H Q, fun X ok => (call_min2 ok.calm).or (by have := cr_min ok.calm; rw [ok.hK] at this; exact this), fun p G σ H e vs ds res Q S rs hf k => ?_⟩
  match ds, rs, hf with
  | [.int i, .int j], rs, hf =>
    obtain ⟨v, v', rfl, rv, rv'⟩ := reps2 rs
    rw [rep_int rv, rep_int rv']
    cases hf
    exact .inl ⟨i, j, rfl, k G H (Same.refl _) S _ (.int _)⟩
  | [.lst l], rs, hf =>
    obtain ⟨v, rfl, rv⟩ := reps1 rs
    obtain ⟨q, ns, rfl, hs, hg⟩ := rep_ints (g := fun ns => (minI ns).map fun m => .sh (.int m)) rv S.sub hf
    cases hm : minI ns with
    | none => rw [hm] at hg; cases hg
    | some m =>
      rw [hm] at hg; cases hg
      obtain ⟨k1, k2⟩ := minI_spec hm
      refine .inr ⟨q, ns, rfl, hs, List.length_pos_of_mem k1, fun m' h1 h2 => ?_⟩
      have : m' = m := Int.le_antisymm (h2 m k1) (k2 m' h1)
      subst this
      exact k G H (Same.refl _) S _ (.int _)
/-- sorted, of ints -/
def sortI (ns : List Int) : List Int := ns.mergeSort fun a b => decide (a ≤ b)
theorem sortI_uniq {ns ms : List Int} (h1 : ms.Perm ns) (h2 : ms.Pairwise (· ≤ ·)) : ms = sortI ns := by
  have p1 : (sortI ns).Perm ns := List.mergeSort_perm ns _
  have p2 : (sortI ns).Pairwise (fun a b => decide (a ≤ b) = true) := List.pairwise_mergeSort (fun a b c h1 h2 => by simp at *; omega) (fun a b => by simp; omega) ns
  have p3 : (sortI ns).Pairwise (· ≤ ·) := p2.imp fun h => of_decide_eq_true h
  exact List.Perm.eq_of_pairwise (fun a b _ _ h1 h2 => Int.le_antisymm h1 h2) h2 p3 (h1.trans p1.symm)
def gSorted := gInts fun ns => some (.ow (.l ((sortI ns).map .int)))
theorem fn_sorted : FnD I W (.builtin "sorted") (f1 gSorted) := fn_one (r := rSortedI I.K) (fun X ok => by have := cr_sortedI (X := X); rw [ok.hK] at this; exact this) fun p G σ H e v d res Q S r h k => by
  obtain ⟨q, ns, rfl, hs, hg⟩ := rep_ints r S.sub h
  cases hg
  refine ⟨q, ns, rfl, hs, fun ms b h1 h2 n => ?_⟩
  have := sortI_uniq h1 h2
  subst this
  obtain ⟨S4, gn, h0, hF, ap⟩ := S.laidOw (o := .lst _) n
  exact k G _ (Same.refl _) S4 b gn ⟨_, upd_same, reps_ints _⟩ h0 hF ap
/-! ### isinstance with built-in types -/
def D.ty : D → Option String
  | .non => some "NoneType"
  | .bl _ => some "bool"
  | .int _ => some "int"
  | .str _ => some "str"
  | .tup _ => some "tuple"
  | .lst _ => some "list"
  | .dct _ => some "dict"
  | .obj _ _ => none
theorem tyx_of {K : PySem.W.Frag} {mg : MG} {G H : Hp} {v : V} {d : D} {T : String} (r : Rep K mg G v d) (s : Same G H) (h : d.ty = some T) : TyX K H v (.type T) := by
  cases r with
  | non => cases h; exact .base .non
  | bl b => cases h; exact .base (.bl b)
  | int i => cases h; exact .base (.int i)
  | str z => cases h; exact .base (.str z)
  | lst h1 h2 _ =>
    cases h
    rcases h1 with (h1 | ⟨o, h1⟩) | ⟨us, n, k1, _⟩
    · exact .base (.lst (s _ _ h1))
    · exact .base (.frz (s _ _ h1))
    · exact .kList k1 rfl
  | tup h1 h2 _ =>
    cases h
    rcases h1 with (h1 | ⟨o, h1⟩) | ⟨o, its, n, k1, k2, _⟩
    · exact .base (.tup (s _ _ h1))
    · exact .fTuple (s _ _ h1)
    · exact .kTuple k1 k2
  | dct h1 _ _ _ => cases h; exact .base (.dK (s _ _ h1))
  | obj _ _ _ _ _ _ => cases h
def isiD (T : String) (d : D) : Option Ret := (d.ty.bind fun t => kitB t T).map fun b => .sh (.bl b)
variable {a : Expr} {es : List Expr} {pos p0 p1 : Pos} {x : Str}
def rOne (m : M D) (f : D → Option Ret) : M Ret := M.bnd m fun d => lift (f d)
theorem dr_isi {T : String} {y : Str} {m : M D} (g : I.sc.names.lookup ("isinstance" : Str) = some .globalImplicit) (hm : I.mg ("isinstance" : Str) = none) (g2 : I.sc.names.lookup y = some .globalImplicit) (hm2 : I.mg y = none)
    (hv : bootBuiltins y = some (.type T)) (hn : y ≠ "__name__") (hd : (y == ("__debug__" : Str)) = false) (ha : DE I W a m) (n : nst a = true) : DR I W (.Call (.Name "isinstance" p0) [a, .Name y p1] [] pos) (rOne m (isiD T)) := by
  obtain ⟨t, h1, h2⟩ := ha
  refine ⟨tCB (rIsi I.K) (tCons t (tCons (tC (.ty T)) tNil)), fun X ok => pe_callB (by have := call_isi (X := X); rw [ok.hK] at this; exact this) (gl_of ok.hsc g) (by rw [ok.hmg]; exact hm) boot_isinstance
    (pa_cons (h1 X ok) (pa_cons (pe_bltn (gl_of ok.hsc g2) (by rw [ok.hmg]; exact hm2) hv rfl hn hd) pa_nil) (star_of n _ _)) (by decide) (by decide) (star_of n _ _) rfl, fun p G σ H e Q S w => ?_⟩
  refine h2 p G σ H e _ S (Wp.mono (Wp.bnd w) fun d G1 H1 e1 s1 S1 w1 v r => ?_)
  obtain ⟨res, hf, k⟩ := lift_wp w1
  unfold isiD at hf
  cases z : d.ty with
  | none => rw [z] at hf; cases hf
  | some t0 =>
    rw [z] at hf
    cases zk : kitB t0 T with
    | none => simp only [Option.bind, zk] at hf; cases hf
    | some b =>
      simp only [Option.bind, zk] at hf
      cases hf
      exact ⟨v, .ty T, _, _, b, rfl, .ty T, tyx_of r S1.sub z, kit_ty zk, k G1 H1 (Same.refl _) S1 _ (.bl _)⟩
/-- isinstance(x, (A, B)) -/
def isiD2 (T U : String) (d : D) : Option Ret := d.ty.bind fun t => (kitB t T).bind fun b => if b = true then some (.sh (.bl true)) else (kitB t U).map fun c => .sh (.bl c)
theorem dr_isi2 {T U : String} {y z : Str} {m : M D} {p2 p3 : Pos} {kk} (g : I.sc.names.lookup ("isinstance" : Str) = some .globalImplicit) (hm : I.mg ("isinstance" : Str) = none) (g2 : I.sc.names.lookup y = some .globalImplicit) (hm2 : I.mg y = none)
    (hv : bootBuiltins y = some (.type T)) (hn : y ≠ "__name__") (hd : (y == ("__debug__" : Str)) = false) (g3 : I.sc.names.lookup z = some .globalImplicit) (hm3 : I.mg z = none)
    (hv3 : bootBuiltins z = some (.type U)) (hn3 : z ≠ "__name__") (hd3 : (z == ("__debug__" : Str)) = false) (ha : DE I W a m) (n : nst a = true) :
    DR I W (.Call (.Name "isinstance" p0) [a, .Tuple [.Name y p1, .Name z p2] kk p3] [] pos) (rOne m (isiD2 T U)) := by
  obtain ⟨t, h1, h2⟩ := ha
  refine ⟨tCB (rIsiT I.K) (tCons t (tCons (tTup (tCons (tC (.ty T)) (tCons (tC (.ty U)) tNil))) tNil)), fun X ok => pe_callB (by have := call_isiT (X := X); rw [ok.hK] at this; exact this) (gl_of ok.hsc g) (by rw [ok.hmg]; exact hm) boot_isinstance
    (pa_cons (h1 X ok) (pa_cons (pe_tup (pa_cons (pe_bltn (gl_of ok.hsc g2) (by rw [ok.hmg]; exact hm2) hv rfl hn hd) (pa_cons (pe_bltn (gl_of ok.hsc g3) (by rw [ok.hmg]; exact hm3) hv3 rfl hn3 hd3) pa_nil))) pa_nil) (star_of n _ _)) (by decide) (by decide) (star_of n _ _) rfl, fun p G σ H e Q S w => ?_⟩
  refine h2 p G σ H e _ S (Wp.mono (Wp.bnd w) fun d G1 H1 e1 s1 S1 w1 v r => ?_)
  obtain ⟨res, hf, k⟩ := lift_wp w1
  refine ⟨by show 2 ≤ sizeLine; decide, fun tp nt => ?_⟩
  obtain ⟨s2, S2⟩ := S1.laid (o := .tup [.ty T, .ty U]) nt
  unfold isiD2 at hf
  cases q : d.ty with
  | none => rw [q] at hf; cases hf
  | some t0 =>
    simp only [q, Option.bind] at hf
    cases zk : kitB t0 T with
    | none => simp only [zk] at hf; cases hf
    | some b =>
      simp only [zk] at hf
      have ty := tyx_of (r.mono s2) S2.sub q
      cases b with
      | true =>
        rw [if_pos rfl] at hf
        cases hf
        exact ⟨v, tp, _, _, _, true, rfl, upd_same, .cons (.ty T) (.cons (.ty U) .nil), ty, kitAny_cons (kit_ty zk) (fun z => nomatch z) (fun _ => rfl), k _ _ s2 S2 _ (.bl _)⟩
      | false =>
        rw [if_neg Bool.false_ne_true] at hf
        cases zu : kitB t0 U with
        | none => rw [zu] at hf; cases hf
        | some c =>
          rw [zu] at hf
          cases hf
          exact ⟨v, tp, _, _, _, c, rfl, upd_same, .cons (.ty T) (.cons (.ty U) .nil), ty, kitAny_cons (kit_ty zk) (fun _ => kitAny_cons (kit_ty zu) (fun e => by rw [e]; exact kitAny_nil) fun e => e) (fun z => nomatch z), k _ _ s2 S2 _ (.bl _)⟩
/-! ### x.bit_length() -/
def gBits : D → Option D
  | .int i => some (.int (Builtin.Int.intBits i : Nat))
  | _ => none
def eBits (m : M D) : M D := M.bnd m fun d => lift (gBits d)
theorem de_bits {m : M D} {apos : Pos} (h : DE I W a m) (hb : ∀ env : Env, attributeBase a "bit_length" env (eval a env) = eval a env) (hl : (apos.endLine == pos.line) = true) : DE I W (.Call (.Attribute a "bit_length" apos) [] [] pos) (eBits m) := by
  obtain ⟨t, h1, h2⟩ := h
  refine ⟨_, fun X ok => pe_bits (h1 X ok) (hb X.env) hl, fun p G σ H e Q S w => ?_⟩
  refine h2 p G σ H e _ S (Wp.mono (Wp.bnd w) fun d G1 H1 e1 s1 S1 w1 v r => ?_)
  obtain ⟨y, hy, k⟩ := lift_wp w1
  cases r <;> cases hy
  exact ⟨_, rfl, k G1 H1 (Same.refl _) S1 _ (.int _)⟩
end
end DL
end

section
namespace DL
open PySem PySem.Spec L2
open PyProof.Rows hiding St

/-! ### in, not in -/
def dIn (x : D) (l : List D) : Option Bool := if okD x && okD (.lst l) then some (l.any fun z => PyData.eqv z.py x.py) else none
def fIn : D → D → Option Ret
  | x, .lst l => (dIn x l).map fun b => .sh (.bl b)
  | x, .tup l => (dIn x l).map fun b => .sh (.bl b)
  | .str x, .str y => some (.sh (.bl (!(Builtin.Str.occurrences y x 0 y.length 1).isEmpty)))
  | _, _ => none
def fNotIn : D → D → Option Ret
  | x, .lst l => (dIn x l).map fun b => .sh (.bl (!b))
  | x, .tup l => (dIn x l).map fun b => .sh (.bl (!b))
  | .str x, .str y => some (.sh (.bl (!(!(Builtin.Str.occurrences y x 0 y.length 1).isEmpty))))
  | _, _ => none
def rInS (K : PySem.W.Frag) (neg : Bool) : R2 := fun x y H Q => ∃ d ds, Dp K H x d ∧ (Dp K H y (.list ds) ∨ Dp K H y (.tuple ds)) ∧ SeqAt.shaped d = true ∧ SeqAt.shaped (.list ds) = true ∧ Q (.bl (if neg then !(ds.any fun z => PyData.eqv z d) else ds.any fun z => PyData.eqv z d)) H
theorem op_inS {X : Cx} {k : Nat} (hr : Room k X.A) : OpR X (compareOp .In) (rInS X.K false) := by
  intro pins s σ H x y v u Q J rx ry ⟨d, ds, hd, he, sd, se, q⟩
  have hu : X.A.units + 65 < cLine := by have := hr.un; omega
  obtain ⟨as, r1⟩ := Dp.reads J d x v hd rx
  rcases he with he | he
  · obtain ⟨bs, r2⟩ := Dp.reads J (.list ds) y u he ry
    exact SeqAt.in_list_reads r2 r1 (SeqAt.canLay_of_shaped se) (SeqAt.canLay_of_shaped sd) (room_in_shaped sd hu) ⟨.bl _, H, J, rfl, q⟩
  · obtain ⟨bs, r2⟩ := Dp.reads J (.tuple ds) y u he ry
    exact SeqAt.in_tuple_reads r2 r1 (SeqAt.canLay_of_shaped se) (SeqAt.canLay_of_shaped sd) (room_in_shaped sd hu) ⟨.bl _, H, J, rfl, q⟩
theorem op_notInS {X : Cx} {k : Nat} (hr : Room k X.A) : OpR X (compareOp .NotIn) (rInS X.K true) := by
  intro pins s σ H x y v u Q J rx ry ⟨d, ds, hd, he, sd, se, q⟩
  have hu : X.A.units + 65 < cLine := by have := hr.un; omega
  obtain ⟨as, r1⟩ := Dp.reads J d x v hd rx
  rcases he with he | he
  · obtain ⟨bs, r2⟩ := Dp.reads J (.list ds) y u he ry
    exact SeqAt.notIn_list_reads r2 r1 (SeqAt.canLay_of_shaped se) (SeqAt.canLay_of_shaped sd) (room_in_shaped sd hu) ⟨.bl _, H, J, rfl, q⟩
  · obtain ⟨bs, r2⟩ := Dp.reads J (.tuple ds) y u he ry
    exact SeqAt.notIn_tuple_reads r2 r1 (SeqAt.canLay_of_shaped se) (SeqAt.canLay_of_shaped sd) (room_in_shaped sd hu) ⟨.bl _, H, J, rfl, q⟩
theorem dIn_ok {x : D} {l : List D} {b : Bool} (h : dIn x l = some b) : okD x = true ∧ okD (.lst l) = true ∧ b = (pys l).any fun z => PyData.eqv z x.py := by
  unfold dIn at h
  split at h
  · rename_i c
    simp only [Bool.and_eq_true] at c
    refine ⟨c.1, c.2, ?_⟩
    rw [pys_map, List.any_map]
    exact (Option.some.inj h).symm
  · cases h
section
variable {K : PySem.W.Frag} {mg : MG} {G H : Hp}
theorem okD_lst {l : List D} (h : okD (.lst l) = true) : SeqAt.shaped (.list (pys l)) = true := by
  unfold okD at h
  simp only [D.py] at h
  exact h
theorem dp_lst (s : Same G H) {v : V} {l : List D} (r : Rep K mg G v (.lst l)) (h : okD (.lst l) = true) : Dp K H v (.list (pys l)) := by
  have := r.dp s (canLay_ok h)
  simp only [D.py] at this
  exact this
theorem dp_tup (s : Same G H) {v : V} {l : List D} (r : Rep K mg G v (.tup l)) (h : okD (.lst l) = true) : Dp K H v (.tuple (pys l)) := by
  have c := canLay_ok h
  have := r.dp s (by simp only [D.py, PyData.canLay0] at c ⊢; exact c)
  simp only [D.py] at this
  exact this
end
section
variable {I : CI} {W : WX}
theorem o_in : OpD I W (compareOp .In) fIn := by
  refine ⟨fun x y H Q => rInS I.K false x y H Q ∨ (∃ i j, x = .str i ∧ y = .str j ∧ Q (.bl (!(Builtin.Str.occurrences j i 0 j.length 1).isEmpty)) H), fun X ok => (by have := op_inS ok.room; rw [ok.hK] at this; exact this.or op_in_str), fun p G σ H e x y a b res Q S ra rb hf k => ?_⟩
  have seq : ∀ l, (∃ q, dIn a l = some q ∧ res = .sh (.bl q)) → (okD (.lst l) = true → Dp I.K H y (.list (pys l)) ∨ Dp I.K H y (.tuple (pys l))) → rInS I.K false x y H Q := fun l ⟨q, hq, e⟩ hd => by
    obtain ⟨h1, h2, rfl⟩ := dIn_ok hq
    subst e
    exact ⟨_, _, ra.dp S.sub (canLay_ok h1), hd h2, h1, okD_lst h2, k G H (Same.refl _) S _ (.bl _)⟩
  have mp : ∀ l, fIn a (.lst l) = some res → ∃ q, dIn a l = some q ∧ res = .sh (.bl q) := fun l h => by
    have h' : (dIn a l).map (fun b => Ret.sh (.bl b)) = some res := by cases a <;> exact h
    cases z : dIn a l with
    | none => rw [z] at h'; cases h'
    | some q => rw [z] at h'; exact ⟨q, rfl, (Option.some.inj h').symm⟩
  cases b with
  | lst l => exact .inl (seq l (mp l hf) fun h => .inl (dp_lst S.sub rb h))
  | tup l => exact .inl (seq l (mp l (by cases a <;> exact hf)) fun h => .inr (dp_tup S.sub rb h))
  | str z =>
    cases ra <;> first | cases hf | skip
    cases rb
    exact .inr ⟨_, _, rfl, rfl, k G H (Same.refl _) S _ (.bl _)⟩
  | non => cases a <;> cases hf
  | bl _ => cases a <;> cases hf
  | int _ => cases a <;> cases hf
  | dct _ => cases a <;> cases hf
  | obj _ _ => cases a <;> cases hf
theorem o_notin : OpD I W (compareOp .NotIn) fNotIn := by
  refine ⟨fun x y H Q => rInS I.K true x y H Q ∨ (∃ i j, x = .str i ∧ y = .str j ∧ Q (.bl (!(!(Builtin.Str.occurrences j i 0 j.length 1).isEmpty))) H), fun X ok => (by have := op_notInS ok.room; rw [ok.hK] at this; exact this.or op_notIn_str), fun p G σ H e x y a b res Q S ra rb hf k => ?_⟩
  have seq : ∀ l, (∃ q, dIn a l = some q ∧ res = .sh (.bl (!q))) → (okD (.lst l) = true → Dp I.K H y (.list (pys l)) ∨ Dp I.K H y (.tuple (pys l))) → rInS I.K true x y H Q := fun l ⟨q, hq, e⟩ hd => by
    obtain ⟨h1, h2, rfl⟩ := dIn_ok hq
    subst e
    exact ⟨_, _, ra.dp S.sub (canLay_ok h1), hd h2, h1, okD_lst h2, k G H (Same.refl _) S _ (.bl _)⟩
  have mp : ∀ l, fNotIn a (.lst l) = some res → ∃ q, dIn a l = some q ∧ res = .sh (.bl (!q)) := fun l h => by
    have h' : (dIn a l).map (fun b => Ret.sh (.bl (!b))) = some res := by cases a <;> exact h
    cases z : dIn a l with
    | none => rw [z] at h'; cases h'
    | some q => rw [z] at h'; exact ⟨q, rfl, (Option.some.inj h').symm⟩
  cases b with
  | lst l => exact .inl (seq l (mp l hf) fun h => .inl (dp_lst S.sub rb h))
  | tup l => exact .inl (seq l (mp l (by cases a <;> exact hf)) fun h => .inr (dp_tup S.sub rb h))
  | str z =>
    cases ra <;> first | cases hf | skip
    cases rb
    exact .inr ⟨_, _, rfl, rfl, k G H (Same.refl _) S _ (.bl _)⟩
  | non => cases a <;> cases hf
  | bl _ => cases a <;> cases hf
  | int _ => cases a <;> cases hf
  | dct _ => cases a <;> cases hf
  | obj _ _ => cases a <;> cases hf
/-! ### what a name owns, looked at -/
variable {a b : Expr} {es : List Expr} {pos p0 p1 : Pos} {x : Str}
/-- what a slot holds, read without giving it up -/
theorem slot_dp {p : Pm} {G H : Hp} {σ : L2.St} {e : En} (S : Srp I.K I.mg p G σ H e) {i : Nat} {d : D} (h : e[i]?.bind Sl.look = some d) (hk : okD d = true) : ∃ v, σ[i]? = some (some v) ∧ Dp I.K H v d.py := by
  obtain ⟨v, hv, hc⟩ := slot_any S h
  refine ⟨v, hv, ?_⟩
  rcases hc with ⟨s, _, r⟩ | ⟨s, y, q, _, _, rfl, rfl, c⟩
  · exact r.dp S.sub (canLay_ok hk)
  · cases y with
    | o c fs =>
      have := canLay_ok hk
      simp [Ct.d, D.py, PyData.canLay0] at this
    | l l =>
      obtain ⟨vs, hH, rs⟩ := c
      exact Reps.dpl S.sub (.of hH) rs (canLay_ok hk)
/-- x == b, x != b; x a name -/
def rEqV (i : Nat) (neg : Bool) (mb : M D) : M Ret := fun e => if (e[i]?.bind Sl.look).isSome = true then (M.bnd mb fun y => fun e => match e[i]?.bind Sl.look with
  | some d => lift ((deq d y).map fun k => Ret.sh (.bl (if neg then !k else k))) e
  | none => .no) e else .no
theorem eqV_sim {i : Nat} {neg : Bool} {u : TE} {mb : M D} (h4 : SimE I W u mb) : SimR I W (tOp (if neg then rNeD I.K else rEqD I.K) (tVar i) u) (rEqV i neg mb) := by
  intro p G σ H e Q S w
  unfold rEqV at w
  split at w
  case isFalse => exact w.elim
  rename_i hs0
  cases q : e[i]?.bind Sl.look with
  | none => rw [q] at hs0; cases hs0
  | some d0 =>
    obtain ⟨v, hv, _⟩ := slot_any S q
    refine ⟨v, hv, h4 p G σ H e _ S (Wp.mono (Wp.bnd w) fun db G2 H2 e2 s2 S2 w2 v' r' => ?_)⟩
    cases q2 : e2[i]?.bind Sl.look with
    | none => rw [q2] at w2; exact w2.elim
    | some d =>
      rw [q2] at w2
      dsimp only at w2
      obtain ⟨res, hres, k⟩ := lift_wp w2
      cases hd : deq d db with
      | none => rw [hd] at hres; cases hres
      | some kk =>
        rw [hd] at hres
        obtain ⟨o1, o2, rfl⟩ := deq_ok hd
        obtain ⟨v2, hv2, dp⟩ := slot_dp S2 q2 o1
        rw [hv] at hv2; cases hv2
        cases neg with
        | true =>
          cases hres
          exact ⟨_, _, dp, r'.dp S2.sub (canLay_ok o2), o1, o2, k G2 H2 (Same.refl _) S2 _ (.bl _)⟩
        | false =>
          cases hres
          exact ⟨_, _, dp, r'.dp S2.sub (canLay_ok o2), o1, o2, k G2 H2 (Same.refl _) S2 _ (.bl _)⟩
theorem dr_eqV {i : Nat} {mb : M D} (hx : VarOk I.N I.sc i x) (hb : DE I W b mb) (hm : behindInMarks .Eq b = false) : DR I W (.Compare (.Name x p0) [.Eq] [b] pos) (rEqV i false mb) := by
  obtain ⟨u, h3, h4⟩ := hb
  exact ⟨tOp (rEqD I.K) (tVar i) u, fun X ok => pe_cmpR (by have := op_eqD (X := X) ok.room.units; rw [ok.hK] at this; exact this) (pe_slot hx X ok) (h3 X ok) hm, eqV_sim (neg := false) h4⟩
theorem dr_neV {i : Nat} {mb : M D} (hx : VarOk I.N I.sc i x) (hb : DE I W b mb) (hm : behindInMarks .NotEq b = false) : DR I W (.Compare (.Name x p0) [.NotEq] [b] pos) (rEqV i true mb) := by
  obtain ⟨u, h3, h4⟩ := hb
  exact ⟨tOp (rNeD I.K) (tVar i) u, fun X ok => pe_cmpR (by have := op_neD (X := X) ok.room.units; rw [ok.hK] at this; exact this) (pe_slot hx X ok) (h3 X ok) hm, eqV_sim (neg := true) h4⟩
theorem dt_eqV {i : Nat} {mb : M D} (hx : VarOk I.N I.sc i x) (hb : DE I W b mb) (hm : behindInMarks .Eq b = false) : DT I W (.Compare (.Name x p0) [.Eq] [b] pos) (M.bnd (rEqV i false mb) fun r => lift (blOf r)) := by
  obtain ⟨u, h3, h4⟩ := hb
  exact ⟨tTest (tOp (rEqD I.K) (tVar i) u), fun X ok => pt_cmpR (by have := op_eqD (X := X) ok.room.units; rw [ok.hK] at this; exact this) (pe_slot hx X ok) (h3 X ok) hm, test_sim (eqV_sim (neg := false) h4)⟩
theorem dt_neV {i : Nat} {mb : M D} (hx : VarOk I.N I.sc i x) (hb : DE I W b mb) (hm : behindInMarks .NotEq b = false) : DT I W (.Compare (.Name x p0) [.NotEq] [b] pos) (M.bnd (rEqV i true mb) fun r => lift (blOf r)) := by
  obtain ⟨u, h3, h4⟩ := hb
  exact ⟨tTest (tOp (rNeD I.K) (tVar i) u), fun X ok => pt_cmpR (by have := op_neD (X := X) ok.room.units; rw [ok.hK] at this; exact this) (pe_slot hx X ok) (h3 X ok) hm, test_sim (eqV_sim (neg := true) h4)⟩
/-- a in x, a not in x; x a name -/
def rInV (i : Nat) (neg : Bool) (ma : M D) : M Ret := M.bnd ma fun y => fun e => match e[i]?.bind Sl.look with
  | some (.lst l) => lift ((dIn y l).map fun k => Ret.sh (.bl (if neg then !k else k))) e
  | some (.tup l) => lift ((dIn y l).map fun k => Ret.sh (.bl (if neg then !k else k))) e
  | _ => .no
theorem inV_sim {i : Nat} {neg : Bool} {u : TE} {ma : M D} (h4 : SimE I W u ma) : SimR I W (tOp (rInS I.K neg) u (tVar i)) (rInV i neg ma) := by
  intro p G σ H e Q S w
  refine h4 p G σ H e _ S (Wp.mono (Wp.bnd w) fun d G1 H1 e1 s1 S1 w1 v r => ?_)
  have go : ∀ l dd, e1[i]?.bind Sl.look = some dd → (dd = .lst l ∨ dd = .tup l) → Wp I.K I.mg W p G1 σ (lift ((dIn d l).map fun k => Ret.sh (.bl (if neg then !k else k))) e1) (fun r G' H' e' => RetK I.K I.mg p G' σ H' e' Q r) →
      tVar i σ H1 fun y H2 => rInS I.K neg v y H2 Q := fun l dd q hdd w2 => by
    obtain ⟨res, hres, k⟩ := lift_wp w2
    cases hd : dIn d l with
    | none => rw [hd] at hres; cases hres
    | some kk =>
      rw [hd] at hres
      cases hres
      obtain ⟨o1, o2, rfl⟩ := dIn_ok hd
      have od : okD dd = true := by
        rcases hdd with rfl | rfl
        · exact o2
        · unfold okD at o2 ⊢
          simp only [D.py, SeqAt.shaped, PyData.canLay0, PyData.depth] at o2 ⊢
          exact o2
      obtain ⟨v2, hv2, dp⟩ := slot_dp S1 q od
      refine ⟨v2, hv2, _, _, r.dp S1.sub (canLay_ok o1), ?_, o1, okD_lst o2, k G1 H1 (Same.refl _) S1 _ (.bl _)⟩
      rcases hdd with rfl | rfl
      · simp only [D.py] at dp; exact .inl dp
      · simp only [D.py] at dp; exact .inr dp
  cases q : e1[i]?.bind Sl.look with
  | none => rw [q] at w1; exact w1.elim
  | some dd =>
    rw [q] at w1
    cases dd with
    | lst l => exact go l _ q (.inl rfl) w1
    | tup l => exact go l _ q (.inr rfl) w1
    | non => exact w1.elim
    | bl _ => exact w1.elim
    | int _ => exact w1.elim
    | str _ => exact w1.elim
    | dct _ => exact w1.elim
    | obj _ _ => exact w1.elim
theorem dr_inV {i : Nat} {ma : M D} (hx : VarOk I.N I.sc i x) (ha : DE I W a ma) (hm : behindInMarks .In (.Name x p0) = false) : DR I W (.Compare a [.In] [.Name x p0] pos) (rInV i false ma) := by
  obtain ⟨u, h3, h4⟩ := ha
  exact ⟨tOp (rInS I.K false) u (tVar i), fun X ok => pe_cmpR (by have := op_inS ok.room; rw [ok.hK] at this; exact this) (h3 X ok) (pe_slot hx X ok) hm, inV_sim h4⟩
theorem dr_notinV {i : Nat} {ma : M D} (hx : VarOk I.N I.sc i x) (ha : DE I W a ma) (hm : behindInMarks .NotIn (.Name x p0) = false) : DR I W (.Compare a [.NotIn] [.Name x p0] pos) (rInV i true ma) := by
  obtain ⟨u, h3, h4⟩ := ha
  exact ⟨tOp (rInS I.K true) u (tVar i), fun X ok => pe_cmpR (by have := op_notInS ok.room; rw [ok.hK] at this; exact this) (h3 X ok) (pe_slot hx X ok) hm, inV_sim h4⟩
theorem dt_inV {i : Nat} {ma : M D} (hx : VarOk I.N I.sc i x) (ha : DE I W a ma) (hm : behindInMarks .In (.Name x p0) = false) : DT I W (.Compare a [.In] [.Name x p0] pos) (M.bnd (rInV i false ma) fun r => lift (blOf r)) := by
  obtain ⟨u, h3, h4⟩ := ha
  exact ⟨tTest (tOp (rInS I.K false) u (tVar i)), fun X ok => pt_cmpR (by have := op_inS ok.room; rw [ok.hK] at this; exact this) (h3 X ok) (pe_slot hx X ok) hm, test_sim (inV_sim h4)⟩
theorem dt_notinV {i : Nat} {ma : M D} (hx : VarOk I.N I.sc i x) (ha : DE I W a ma) (hm : behindInMarks .NotIn (.Name x p0) = false) : DT I W (.Compare a [.NotIn] [.Name x p0] pos) (M.bnd (rInV i true ma) fun r => lift (blOf r)) := by
  obtain ⟨u, h3, h4⟩ := ha
  exact ⟨tTest (tOp (rInS I.K true) u (tVar i)), fun X ok => pt_cmpR (by have := op_notInS ok.room; rw [ok.hK] at this; exact this) (h3 X ok) (pe_slot hx X ok) hm, test_sim (inV_sim h4)⟩
/-- len(x), x a name -/
def eLenV (i : Nat) : M Ret := fun e => match e[i]?.bind Sl.look with
  | some d => lift (gLen d) e
  | none => .no
theorem dr_lenV {i : Nat} (g : I.sc.names.lookup ("len" : Str) = some .globalImplicit) (hm : I.mg ("len" : Str) = none) (hx : VarOk I.N I.sc i x) : DR I W (.Call (.Name "len" p0) [.Name x p1] [] pos) (eLenV i) := by
  refine ⟨tCB (fun xs H Q => ∃ x n, xs = [x] ∧ LenV I.K x H n ∧ Q (.int n) H) (tCons (tVar i) tNil), fun X ok => pe_callB (by have := call_len (X := X); rw [ok.hK] at this; exact this) (gl_of ok.hsc g) (by rw [ok.hmg]; exact hm) PySem.boot_len
    (pa_cons (pe_slot hx X ok) pa_nil) (by decide) (by decide) rfl rfl, fun p G σ H e Q S w => ?_⟩
  unfold eLenV at w
  cases q : e[i]?.bind Sl.look with
  | none => rw [q] at w; exact w.elim
  | some d =>
    rw [q] at w
    dsimp only at w
    obtain ⟨res, hf, k⟩ := lift_wp w
    obtain ⟨v, hv, hc⟩ := slot_any S q
    refine ⟨v, hv, ?_⟩
    rcases hc with ⟨s, _, r⟩ | ⟨s, y, b, _, _, rfl, rfl, c⟩
    · obtain ⟨n, h1, rfl⟩ := len_of r S.sub hf
      exact ⟨v, n, rfl, h1, k G H (Same.refl _) S _ (.int _)⟩
    · cases y with
      | o c fs => cases hf
      | l l =>
        obtain ⟨vs, hH, rs⟩ := c
        cases hf
        exact ⟨_, vs.length, rfl, .inl ⟨vs, .of hH, rfl⟩, by rw [rs.1]; exact k G H (Same.refl _) S _ (.int _)⟩
end
end DL
end

section
namespace DL
open PySem PySem.Spec L2
open PyProof.Rows hiding St

/-! ### lists that a name owns, changed -/
/-- a method of a list: what becomes of it, what comes back -/
def OpL (I : CI) (W : WX) (id : String) (f : List D → List D → Option (List D × D)) : Prop :=
  ∃ r : V → List V → Hp → VK → Prop, (∀ X, Okx I W X → MtR X id r) ∧ ∀ (G H : Hp) (q : Addr) (vs xs : List V) (l ds l' : List D) (d : D) (Q : VK), Same G H → H q = some (.lst vs) → Reps I.K I.mg G vs l → Reps I.K I.mg G xs ds → f l ds = some (l', d) →
    (∀ vs' v, Reps I.K I.mg G vs' l' → Rep I.K I.mg G v d → Q v (upd H q (.lst vs'))) → r (.ref q) xs H Q
def putL (i : Nat) (f : List D → Option (List D × D)) : M D := fun e => match e[i]? with
  | some s => match s.own with
    | some (.l l) => match f l with
      | some (l', d) => .ok d (e.set i (s.put (.l l')))
      | none => .no
    | _ => .no
  | none => .no
section
variable {I : CI} {W : WX} {a b : Expr} {es : List Expr} {pos p0 p1 apos : Pos} {x name : Str}
/-- the slot's list is changed -/
theorem putL_sim {p : Pm} {G H : Hp} {σ : L2.St} {e : En} {i : Nat} {f : List D → Option (List D × D)} {k : D → Hp → Hp → En → Prop} (S : Srp I.K I.mg p G σ H e) (w : Wp I.K I.mg W p G σ (putL i f e) k) :
    ∃ q vs l l' d, σ[i]? = some (some (.ref q)) ∧ H q = some (.lst vs) ∧ Reps I.K I.mg G vs l ∧ f l = some (l', d) ∧ ∀ vs', Reps I.K I.mg G vs' l' → ∃ e', Srp I.K I.mg p G σ (upd H q (.lst vs')) e' ∧ k d G (upd H q (.lst vs')) e' := by
  unfold putL at w
  cases q : e[i]? with
  | none => rw [q] at w; exact w.elim
  | some s =>
    rw [q] at w
    dsimp only at w
    cases z : s.own with
    | none => rw [z] at w; exact w.elim
    | some y =>
      rw [z] at w
      cases y with
      | o c fs => exact w.elim
      | l l =>
        dsimp only at w
        cases hf : f l with
        | none => rw [hf] at w; exact w.elim
        | some pr =>
          obtain ⟨l', d⟩ := pr
          rw [hf] at w
          dsimp only at w
          obtain ⟨q0, h1, h2, vs, h3, h4⟩ := S.ow i s _ q z
          refine ⟨q0, vs, l, l', d, h1, h3, h4, hf, fun vs' r' => ?_⟩
          have S' := S.change q z h1 (o := .lst vs') (fun _ z => nomatch z) (y := .l l') ⟨vs', upd_same, r'⟩
          exact ⟨_, S', w G _ (Same.refl _) S'⟩
def eMeth (i : Nat) (f : List D → List D → Option (List D × D)) (m : M (List Ar)) : M D := fun e => if (e[i]?.bind Sl.look).isSome = true then (M.bnd (aVals m) fun ds => putL i fun l => f l ds) e else .no
theorem upd_list {K : PySem.W.Frag} {H : Hp} {q : Addr} {vs : List V} (h : H q = some (.lst vs)) : tyV K "list" (.ref q) H := .inl ⟨rfl, _, .of h⟩
def tBMV (K : PySem.W.Frag) (r : V → List V → Hp → VK → Prop) (i : Nat) (t : TA) : TE := tBM K "list" r (tVar i) t
theorem look_list {p : Pm} {G H : Hp} {σ : L2.St} {e : En} (S : Srp I.K I.mg p G σ H e) {i : Nat} {q : Addr} (hσ : σ[i]? = some (some (.ref q))) {s : Sl} {y : Ct} (h : e[i]? = some s) (ho : s.own = some y) : ∃ b, σ[i]? = some (some (.ref b)) ∧ CtR I.K I.mg G H b y := by
  obtain ⟨b, h1, _, h3⟩ := S.ow i s y h ho
  exact ⟨b, h1, h3⟩
/-- x.m(..), x an own name -/
def ownL (e : En) (i : Nat) : Bool := match e[i]?.bind Sl.own with
  | some (.l _) => true
  | _ => false
def eMt (i : Nat) (f : List D → List D → Option (List D × D)) (m : M (List Ar)) : M D := fun e => if ownL e i = true then (M.bnd (aVals m) fun ds => putL i fun l => f l ds) e else .no
theorem ownL_at {p : Pm} {G H : Hp} {σ : L2.St} {e : En} (S : Srp I.K I.mg p G σ H e) {i : Nat} (h : ownL e i = true) : ∃ q vs, σ[i]? = some (some (V.ref q)) ∧ H q = some (.lst vs) := by
  unfold ownL at h
  cases q : e[i]? with
  | none => rw [q] at h; cases h
  | some s =>
    rw [q] at h
    dsimp only [Option.bind] at h
    cases z : s.own with
    | none => rw [z] at h; cases h
    | some y =>
      rw [z] at h
      cases y with
      | o _ _ => cases h
      | l l =>
        obtain ⟨b, h1, _, vs, h3, _⟩ := S.ow i s _ q z
        exact ⟨b, vs, h1, h3⟩
theorem mt_sim {id : String} {r : V → List V → Hp → VK → Prop} {t : TA} {i : Nat} {f : List D → List D → Option (List D × D)} {m : M (List Ar)}
    (hr : ∀ (G H : Hp) (q : Addr) (vs xs : List V) (l ds l' : List D) (d : D) (Q : VK), Same G H → H q = some (.lst vs) → Reps I.K I.mg G vs l → Reps I.K I.mg G xs ds → f l ds = some (l', d) →
      (∀ vs' v, Reps I.K I.mg G vs' l' → Rep I.K I.mg G v d → Q v (upd H q (.lst vs'))) → r (.ref q) xs H Q) (h : SimP I W t m) : SimE I W (tBM I.K "list" r (tVar i) t) (eMt i f m) := by
  intro p G σ H e Q S w
  unfold eMt at w
  split at w
  case isFalse => exact w.elim
  rename_i ho
  obtain ⟨q, vs0, hσ, hH⟩ := ownL_at S ho
  refine ⟨_, hσ, upd_list hH, simA_of h p G σ H e _ S (Wp.mono (Wp.bnd w) fun ds G1 H1 e1 s1 S1 w1 xs rs => ?_)⟩
  obtain ⟨q', vs, l, l', d, k1, k2, k3, k4, k5⟩ := putL_sim S1 w1
  rw [hσ] at k1; cases k1
  refine hr G1 H1 q vs xs l ds l' d Q S1.sub k2 k3 rs k4 fun vs' v r1 r2 => ?_
  obtain ⟨e', _, k6⟩ := k5 vs' r1
  exact k6 v r2
theorem de_mt {id : String} {f : List D → List D → Option (List D × D)} {i : Nat} {m : M (List Ar)} (F : OpL I W id f) (slot : Slot "list" name id) (hty : typeOf (.builtin id) = pure (.type "method_descriptor")) (hx : VarOk I.N I.sc i x) (ha : DP I W (a :: es) m)
    (hb : ∀ env : Env, attributeBase (.Name x p0) name env (eval (.Name x p0) env) = eval (.Name x p0) env)
    (hfew : ∀ env : Env, ((backTo pos (starEach (a :: es) env)).all (fun x => !x.1) && (backToKw pos (keywordEach [] env)).all (fun x => x.1.isSome) && decide ((a :: es).length + ([] : List Keyword).length + (if ([] : List Keyword).isEmpty then 0 else 1) < 30)) = true)
    (hl : (apos.endLine == pos.line) = true) : DE I W (.Call (.Attribute (.Name x p0) name apos) (a :: es) [] pos) (eMt i f m) := by
  obtain ⟨r, f1, f2⟩ := F
  obtain ⟨n, t, h1, h2⟩ := ha
  have n2 : nst a = true ∧ es.all nst = true := by simpa using n
  exact ⟨tBM I.K "list" r (tVar i) t, fun X ok => (by
    have := pe_bm (cpos := pos) (apos := apos) PySem.F.plainAttrs_list slot hty (f1 X ok) (pe_slot (p0 := p0) hx X ok) (h1 X ok) (hb X.env) (hfew X.env) hl (star_of n2.1 _ _) (by rw [no_back]; exact no_star n2.2 _)
    rw [ok.hK] at this
    exact this), mt_sim (id := id) f2 h2⟩
theorem de_mt0 {id : String} {f : List D → List D → Option (List D × D)} {i : Nat} (F : OpL I W id f) (slot : Slot "list" name id) (hty : typeOf (.builtin id) = pure (.type "method_descriptor")) (hx : VarOk I.N I.sc i x)
    (hb : ∀ env : Env, attributeBase (.Name x p0) name env (eval (.Name x p0) env) = eval (.Name x p0) env) (hl : (apos.endLine == pos.line) = true) : DE I W (.Call (.Attribute (.Name x p0) name apos) [] [] pos) (eMt i f aNil) := by
  obtain ⟨r, f1, f2⟩ := F
  refine ⟨tBM0 I.K "list" r (tVar i), fun X ok => (by
    have := pe_bm0 (cpos := pos) (apos := apos) PySem.F.plainAttrs_list slot hty (f1 X ok) (pe_slot (p0 := p0) hx X ok) (hb X.env) hl
    rw [ok.hK] at this
    exact this), fun p G σ H e Q S w => ?_⟩
  have := mt_sim (W := W) (id := id) (i := i) (t := tNil) (m := aNil) f2 (fun p G σ H e Q S w => w G H (Same.refl _) S [] ⟨rfl, fun _ _ _ h => by simp at h⟩) p G σ H e Q S w
  exact this
/-- append, pop, .. -/
def lAppend (l ds : List D) : Option (List D × D) := match ds with
  | [d] => if l.length < LIM then some (l ++ [d], .non) else none
  | _ => none
theorem ol_append : OpL I W "list.append" lAppend := by
  refine ⟨rAppend, fun X ok => mt_append, fun G H q vs xs l ds l' d Q s h r rs hf k => ?_⟩
  have ll := lim_line
  match ds, rs, hf with
  | [y], rs, hf =>
    obtain ⟨v, rfl, rv⟩ := reps1 rs
    unfold lAppend at hf
    dsimp only at hf
    split at hf
    · cases hf
      exact ⟨q, vs, v, rfl, rfl, h, by rw [r.1]; omega, k _ _ (r.append (Reps.one rv)) .non⟩
    · cases hf
def lPop (l ds : List D) : Option (List D × D) := match ds with
  | [] => (l[l.length - 1]?).map fun d => (l.dropLast, d)
  | [.int i] => if small62 i then (seqIndex? i l.length).bind fun k => (l[k]?).map fun d => (l.eraseIdx k, d) else none
  | _ => none
theorem reps_drop {K : PySem.W.Frag} {mg : MG} {G : Hp} {vs : List V} {l : List D} (r : Reps K mg G vs l) : Reps K mg G vs.dropLast l.dropLast := by
  refine ⟨by simp [r.1], fun i v d h1 h2 => ?_⟩
  rw [List.dropLast_eq_take] at h1 h2
  exact r.2 i v d (take_get h1).1 (take_get h2).1
theorem reps_erase {K : PySem.W.Frag} {mg : MG} {G : Hp} {vs : List V} {l : List D} (r : Reps K mg G vs l) (k : Nat) : Reps K mg G (vs.eraseIdx k) (l.eraseIdx k) := by
  refine ⟨?_, fun i v d h1 h2 => ?_⟩
  · rw [List.length_eraseIdx, List.length_eraseIdx, r.1]
  · rw [List.getElem?_eraseIdx] at h1 h2
    split at h1
    · rename_i hi
      rw [if_pos hi] at h2
      exact r.2 i v d h1 h2
    · rename_i hi
      rw [if_neg hi] at h2
      exact r.2 _ v d h1 h2
theorem ol_pop : OpL I W "list.pop" lPop := by
  refine ⟨fun x xs H Q => rPop x xs H Q ∨ rPopAt x xs H Q, fun X ok => MtR.or mt_pop mt_popAt, fun G H q vs xs l ds l' d Q s h r rs hf k => ?_⟩
  match ds, rs, hf with
  | [], rs, hf =>
    have e : xs = [] := by have := rs.1; simpa using this
    subst e
    unfold lPop at hf
    dsimp only at hf
    cases z : l[l.length - 1]? with
    | none => rw [z] at hf; cases hf
    | some y =>
      rw [z] at hf; cases hf
      obtain ⟨v, hv, rv⟩ := r.get z
      exact .inl ⟨q, vs, v, rfl, rfl, h, by rw [r.1]; exact hv, k _ _ (reps_drop r) rv⟩
  | [.int i], rs, hf =>
    obtain ⟨v, rfl, rv⟩ := reps1 rs
    rw [rep_int rv]
    unfold lPop at hf
    dsimp only at hf
    split at hf
    · rename_i hs
      obtain ⟨z1, z2⟩ := small62_ok hs
      cases z : seqIndex? i l.length with
      | none => rw [z] at hf; cases hf
      | some j =>
        rw [z] at hf
        dsimp only [Option.bind] at hf
        cases zj : l[j]? with
        | none => rw [zj] at hf; cases hf
        | some y =>
          rw [zj] at hf; cases hf
          obtain ⟨v, hv, rv'⟩ := r.get zj
          exact .inr ⟨q, vs, i, j, v, rfl, rfl, h, by omega, by omega, by rw [r.1]; exact z, hv, k _ _ (reps_erase r j) rv'⟩
    · cases hf
def lExtend (l ds : List D) : Option (List D × D) := match ds with
  | [.lst m] => if l.length + m.length ≤ LIM then some (l ++ m, .non) else none
  | _ => none
def rExt3 (K : PySem.W.Frag) : V → List V → Hp → VK → Prop := fun x vs H Q => ∃ l b xs zs, x = .ref l ∧ vs = [.ref b] ∧ H l = some (.lst xs) ∧ LsT K H b zs ∧ xs.length + zs.length ≤ sizeLine ∧ Q .non (upd H l (.lst (xs ++ zs)))
theorem mt_ext3 {X : Cx} : MtM X "list.extend" (rExt3 X.K) := by
  intro pins s σ H x vs v us Q J rx rv ⟨l, b, xs, zs, ex, ev, hH, hB, hz, q⟩
  subst ex; subst ev
  cases rx
  obtain ⟨u, rfl, ru⟩ := rv.one
  cases ru
  obtain ⟨_, is, n, r, hl, e⟩ := J.lstM hH
  obtain ⟨_, js, n2, r2, hl2, e2⟩ := rdL J hB
  have sz : is.toArray.size + js.toArray.size ≤ sizeLine := by simp only [List.size_toArray]; omega
  refine call_meets PySem.F.slot_list_extend ⟨_, e, rfl⟩ PySem.F.entry_list_extend (PySem.F.args_list_extend_2 _ _)
    (AutoSeq1.list_extend_list_list_0 l is.toArray n b js.toArray n2 (by rw [notLongL sz, Bool.and_false]; exact Bool.false_ne_true) (by simp only [List.size_toArray]; omega) (by omega)) ⟨e, e2, ?_⟩
  exact ⟨.non, _, J.lset (its' := is ++ js) hH e (by simp) (r.append r2) (by simp only [List.length_append]; omega), rfl, q⟩
theorem ol_extend : OpL I W "list.extend" lExtend := by
  refine ⟨rExt3 I.K, fun X ok => by have h0 := mt_ext3 (X := X); rw [ok.hK] at h0; exact h0, fun G H q vs xs l ds l' d Q s h r rs hf k => ?_⟩
  have ll := lim_line
  match ds, rs, hf with
  | [.lst m], rs, hf =>
    obtain ⟨v, rfl, rv⟩ := reps1 rs
    obtain ⟨b, ws, rfl, hb, rb⟩ := rv.ref_lst
    unfold lExtend at hf
    dsimp only at hf
    split at hf
    · cases hf
      exact ⟨q, b, vs, ws, rfl, rfl, h, Same.ls s hb, by rw [r.1, rb.1]; omega, k _ _ (r.append rb) .non⟩
    · cases hf
def lReverse (l ds : List D) : Option (List D × D) := match ds with
  | [] => some (l.reverse, .non)
  | _ => none
/-! ### x[i] = v -/
def lSet (l : List D) (i d : D) : Option (List D × D) := match i with
  | .int k => (ixN l.length k).map fun j => (l.set j d, .non)
  | _ => none
def gIx (i : Nat) (mi : M D) (d : D) : M Unit := fun e => if ownL e i = true then (M.bnd mi fun k => M.bnd (putL i fun l => lSet l k d) fun _ => M.ret ()) e else .no
theorem dg_ix {i : Nat} {mi : M D} (hx : VarOk I.N I.sc i x) (hi : DE I W b mi)
    (ha : ∀ (env : Env) v, assign (.Subscript (.Name x p0) b pos) env v = (do
      let ov ← holding [v] (eval (.Name x p0) env)
      let iv ← holding [v, ov] (eval b env)
      standAt pos
      holding [v, ov, iv] (setItem ov iv v)
      release [v, ov, iv] []))
    (hne : ∀ e c fs e', mi e ≠ .ex c fs e') : DG I W (.Subscript (.Name x p0) b pos) (gIx i mi) [] := by
  obtain ⟨t, h1, h2⟩ := hi
  refine ⟨gSub (tVar i) t rSetL, fun X ok => pg_sub (pe_slot hx X ok) (h1 X ok) set_list (ha X.env), fun p G σ H e v d Q S r w => ?_⟩
  unfold gIx at w
  split at w
  case isFalse => exact w.elim
  rename_i ho
  obtain ⟨q, vs0, hσ, hH⟩ := ownL_at S ho
  refine ⟨_, hσ, ?_⟩
  unfold M.bnd at w
  refine h2 p G σ H e _ S ?_
  cases z : mi e with
  | no => rw [z] at w; exact w.elim
  | ex c fs e' => exact absurd z (hne e c fs e')
  | ok k e1 =>
    rw [z] at w
    dsimp only at w
    intro G1 H1 s1 S1 kv rk
    have w1 : Wp I.K I.mg W p G1 σ (putL i (fun l => lSet l k d) e1) fun _ G' H' _ => Q σ H' := by
      cases z1 : putL i (fun l => lSet l k d) e1 with
      | no => rw [z1] at w; exact w.elim
      | ex c fs e' =>
        exfalso
        unfold putL at z1
        split at z1
        · split at z1
          · split at z1 <;> cases z1
          · cases z1
        · cases z1
      | ok u e2 =>
        rw [z1] at w
        exact fun G2 H2 s2 S2 => w G2 σ H2 (s1.trans s2) S2 ⟨rfl, fun _ _ => rfl⟩
    obtain ⟨q', vs, l, l', d', k1, k2, k3, k4, k5⟩ := putL_sim S1 w1
    rw [hσ] at k1; cases k1
    unfold lSet at k4
    cases rk <;> first | cases k4 | skip
    rename_i n
    dsimp only at k4
    cases zj : ixN l.length n with
    | none => rw [zj] at k4; cases k4
    | some j =>
      rw [zj] at k4
      have k4' : (l.set j d, D.non) = (l', d') := Option.some.inj k4
      cases k4'
      refine ⟨q, vs, n, j, rfl, rfl, k2, by rw [k3.1]; exact zj, ?_⟩
      obtain ⟨e', _, k6⟩ := k5 _ (k3.set (r.mono s1) j)
      exact k6
theorem gIx_ne {i : Nat} {mi : M D} (hne : ∀ e c fs e', mi e ≠ .ex c fs e') : ∀ d e c fs e', gIx i mi d e ≠ .ex c fs e' := by
  intro d e c fs e' h
  unfold gIx at h
  split at h
  · unfold M.bnd at h
    cases z : mi e with
    | no => rw [z] at h; cases h
    | ex c' fs' e2 => exact hne _ _ _ _ z
    | ok k e1 =>
      rw [z] at h
      dsimp only at h
      cases z1 : putL i (fun l => lSet l k d) e1 with
      | no => rw [z1] at h; cases h
      | ok _ _ => rw [z1] at h; cases h
      | ex _ _ _ =>
        unfold putL at z1
        split at z1
        · split at z1
          · split at z1 <;> cases z1
          · cases z1
        · cases z1
  · cases h
end
end DL
end

section
namespace DL
open PySem PySem.Spec L2
open PyProof.Rows hiding St
open RZ

section
variable {I : CI} {W : WX} {a b tg : Expr} {es : List Expr} {pos p0 p1 tpos : Pos} {x y : Str}
/-! ### a list or a tuple, walked -/
def seqL : D → Option (List D)
  | .lst l => some l
  | .tup l => some l
  | _ => none
def iSeq (m : M D) : M (List D) := M.bnd m fun d => lift (seqL d)
theorem pi_or {X : Cx} {iter : Expr} {w1 w2 : TI} (h1 : PI X tg iter w1) (h2 : PI X tg iter w2) : PI X tg iter (fun σ H R => w1 σ H R ∨ w2 σ H R) := by
  refine ⟨fun pins s σ H R J h => ?_⟩
  rcases h with h | h
  · exact h1.run pins s σ H R J h
  · exact h2.run pins s σ H R J h
theorem di_seq {m : M D} (h : DE I W a m) : DI I W tg a (iSeq m) := by
  obtain ⟨w1, i1, i2⟩ := di_lst (tg := tg) h
  obtain ⟨w2, j1, j2⟩ := di_tup (tg := tg) h
  refine ⟨_, fun X ok => pi_or (i1 X ok) (j1 X ok), fun p G σ H e R S w => ?_⟩
  have pick : ∀ r, m e = r → w1 σ H R ∨ w2 σ H R := fun r q => by
    unfold iSeq M.bnd at w
    rw [q] at w
    cases r with
    | no => exact w.elim
    | ex c fs e' =>
      refine .inl (i2 p G σ H e R S ?_)
      unfold iLst M.bnd
      rw [q]; exact w
    | ok d e' =>
      dsimp only at w
      cases d with
      | lst l =>
        refine .inl (i2 p G σ H e R S ?_)
        unfold iLst M.bnd
        rw [q]; exact w
      | tup l =>
        refine .inr (j2 p G σ H e R S ?_)
        unfold iTupM M.bnd
        rw [q]; exact w
      | non => exact w.elim
      | bl _ => exact w.elim
      | int _ => exact w.elim
      | str _ => exact w.elim
      | dct _ => exact w.elim
      | obj _ _ => exact w.elim
  exact pick _ rfl
/-! ### zip, enumerate -/
def zipL (l m : List D) : List D := (l.zip m).map fun z => .tup [z.1, z.2]
theorem zipL_len (l m : List D) : (zipL l m).length = min l.length m.length := by simp [zipL]
theorem zipL_get {l m : List D} {i : Nat} {d : D} (h : (zipL l m)[i]? = some d) : ∃ u v, l[i]? = some u ∧ m[i]? = some v ∧ d = .tup [u, v] := by
  unfold zipL at h
  rw [List.getElem?_map] at h
  cases q : (l.zip m)[i]? with
  | none => rw [q] at h; cases h
  | some z =>
    rw [q] at h
    obtain ⟨u, v⟩ := z
    obtain ⟨h1, h2⟩ := List.getElem?_zip_eq_some.mp q
    exact ⟨u, v, h1, h2, (Option.some.inj h).symm⟩
theorem rd_sq {K : PySem.W.Frag} {G H : Hp} {q : Addr} {vs : List V} (s : Same G H) (h : LsT K G q vs) : SqL K H q vs := LsT.sq (Same.ls s h)
theorem pair_new {K : PySem.W.Frag} {mg : MG} {p : Pm} {G H : Hp} {σ : L2.St} {e : En} {T : Addr} {v w : V} {c d : D} (S : Srp K mg p G σ H e) (n : H T = none) (r : Rep K mg G v c) (r' : Rep K mg G w d) :
    ∃ G2, Same G G2 ∧ Srp K mg p G2 σ (upd H T (.tup [v, w])) e ∧ Rep K mg G2 (.ref T) (.tup [c, d]) ∧ ∀ a o, H a = some o → upd H T (.tup [v, w]) a = some o := by
  obtain ⟨s2, S2⟩ := S.laid (o := .tup [v, w]) n
  exact ⟨_, s2, S2, .mk_tup (.of upd_same) (.cons (r.mono s2) (.cons (r'.mono s2) .nil)), fun a o h => by rw [upd_ne (fun z => by rw [z, n] at h; cases h)]; exact h⟩
theorem iter_zip {K : PySem.W.Frag} {mg : MG} {G : Hp} {q q' : Addr} {vs ws : List V} {l m : List D} (h : LsT K G q vs) (r : Reps K mg G vs l) (h' : LsT K G q' ws) (r' : Reps K mg G ws m) : IterOk K mg (Itz K q q') G (zipL l m) := by
  intro p G' σ H e s S i
  have h1 : SqL K H q vs := rd_sq S.sub (Same.ls s h)
  have h2 : SqL K H q' ws := rd_sq S.sub (Same.ls s h')
  refine ⟨fun ei => ⟨vs, ws, h1, h2, ?_⟩, fun d hd => ?_⟩
  · rw [zipL_len] at ei
    rw [r.1, r'.1]; omega
  · obtain ⟨u, v, e1, e2, rfl⟩ := zipL_get hd
    obtain ⟨x1, f1, g1⟩ := r.get e1
    obtain ⟨x2, f2, g2⟩ := r'.get e2
    refine ⟨⟨vs, ws, x1, x2, h1, h2, f1, f2⟩, fun z H2 y => ?_⟩
    obtain ⟨T, y1, y2, rfl, nT, rfl, k1, k2⟩ := y
    have := k1 vs h1; rw [f1] at this; cases this
    have := k2 ws h2; rw [f2] at this; cases this
    exact pair_new S nT (g1.mono s) (g2.mono s)
theorem iter_zipT {K : PySem.W.Frag} {mg : MG} {G : Hp} {q q' : Addr} {vs ws : List V} {l m : List D} (h : SqT K G q vs) (r : Reps K mg G vs l) (h' : SqT K G q' ws) (r' : Reps K mg G ws m) : IterOk K mg (ItzT K q q') G (zipL l m) := by
  intro p G' σ H e s S i
  have h1 : SqT K H q vs := Same.seqT S.sub (Same.seqT s h)
  have h2 : SqT K H q' ws := Same.seqT S.sub (Same.seqT s h')
  refine ⟨fun ei => ⟨vs, ws, h1, h2, ?_⟩, fun d hd => ?_⟩
  · rw [zipL_len] at ei
    rw [r.1, r'.1]; omega
  · obtain ⟨u, v, e1, e2, rfl⟩ := zipL_get hd
    obtain ⟨x1, f1, g1⟩ := r.get e1
    obtain ⟨x2, f2, g2⟩ := r'.get e2
    refine ⟨⟨vs, ws, x1, x2, h1, h2, f1, f2⟩, fun z H2 y => ?_⟩
    obtain ⟨T, y1, y2, rfl, nT, rfl, k1, k2⟩ := y
    have := k1 vs h1; rw [f1] at this; cases this
    have := k2 ws h2; rw [f2] at this; cases this
    exact pair_new S nT (g1.mono s) (g2.mono s)
def zipD : List D → Option (List D)
  | [.lst l, .lst m] => some (zipL l m)
  | [.tup l, .tup m] => some (zipL l m)
  | _ => none
def iZipM (m : M (List Ar)) : M (List D) := M.bnd (aVals m) fun ds => lift (zipD ds)
theorem di_zip {m : M (List Ar)} {elts : List Expr} {kk} (g : I.sc.names.lookup ("zip" : Str) = some .globalImplicit) (hm : I.mg ("zip" : Str) = none) (h : DP I W [a, b] m) : DI I W (.Tuple elts kk tpos) (.Call (.Name "zip" p0) [a, b] [] pos) (iZipM m) := by
  obtain ⟨n, t, h1, h2⟩ := h
  have n2 : nst a = true ∧ nst b = true := by simpa using n
  refine ⟨iZipA I.K t, fun X ok => (by
    have := pi_zipA (tpos := tpos) (elts := elts) (kk := kk) (pos := pos) (p := p0) (gl_of ok.hsc g) (by rw [ok.hmg]; exact hm) (h1 X ok) (star_of n2.1 _ _) (by rw [no_back]; exact no_star (by simp [n2.2]) _)
    rw [ok.hK] at this; exact this), fun p G σ H e R S w => ?_⟩
  refine simA_of h2 p G σ H e _ S (Wp.mono (Wp.bnd w) fun ds G1 H1 e1 s1 S1 w1 vs r => ?_)
  obtain ⟨l, hl, k⟩ := lift_wp w1
  match ds, r, hl with
  | [.lst l, .lst m], r, hl =>
    obtain ⟨v, v', rfl, r1, r2⟩ := reps2 r
    obtain ⟨q, vs, rfl, g1, g2⟩ := r1.ref_lst
    obtain ⟨q', ws, rfl, g3, g4⟩ := r2.ref_lst
    cases hl
    exact ⟨q, q', vs, ws, rfl, .inl ⟨rd_sq S1.sub g1, rd_sq S1.sub g3, k G1 H1 (Same.refl _) S1 _ (iter_zip g1 g2 g3 g4)⟩⟩
  | [.tup l, .tup m], r, hl =>
    obtain ⟨v, v', rfl, r1, r2⟩ := reps2 r
    obtain ⟨q, vs, rfl, g1, g2⟩ := r1.ref_tup
    obtain ⟨q', ws, rfl, g3, g4⟩ := r2.ref_tup
    cases hl
    exact ⟨q, q', vs, ws, rfl, .inr ⟨Same.seqT S1.sub g1, Same.seqT S1.sub g3, k G1 H1 (Same.refl _) S1 _ (iter_zipT g1 g2 g3 g4)⟩⟩
def enumL (l : List D) : List D := (l.zipIdx).map fun z => .tup [.int (z.2 : Nat), z.1]
theorem enumL_get {l : List D} {i : Nat} {d : D} (h : (enumL l)[i]? = some d) : ∃ u, l[i]? = some u ∧ d = .tup [.int (i : Nat), u] := by
  unfold enumL at h
  rw [List.getElem?_map] at h
  cases q : l.zipIdx[i]? with
  | none => rw [q] at h; cases h
  | some z =>
    rw [q] at h
    obtain ⟨u, j⟩ := z
    rw [List.getElem?_zipIdx] at q
    cases q2 : l[i]? with
    | none => rw [q2] at q; cases q
    | some w =>
      rw [q2] at q
      have q' : (w, 0 + i) = (u, j) := Option.some.inj q
      injection q' with e1 e2
      subst e1
      refine ⟨w, rfl, ?_⟩
      have h' : D.tup [.int (j : Nat), w] = d := Option.some.inj h
      rw [← h', ← e2, Nat.zero_add]
def enumD : List D → Option (List D)
  | [.lst l] => some (enumL l)
  | _ => none
def iEnumM (m : M (List Ar)) : M (List D) := M.bnd (aVals m) fun ds => lift (enumD ds)
theorem iter_enum {K : PySem.W.Frag} {mg : MG} {G : Hp} {q : Addr} {vs : List V} {l : List D} (h : LsT K G q vs) (r : Reps K mg G vs l) : IterOk K mg (Ite K q) G (enumL l) := by
  intro p G' σ H e s S i
  have h1 : SqL K H q vs := rd_sq S.sub (Same.ls s h)
  refine ⟨fun ei => ⟨vs, h1, by rw [r.1, ei]; simp [enumL]⟩, fun d hd => ?_⟩
  obtain ⟨u, e1, rfl⟩ := enumL_get hd
  obtain ⟨x1, f1, g1⟩ := r.get e1
  refine ⟨⟨vs, x1, h1, f1⟩, fun z H2 y => ?_⟩
  obtain ⟨T, y1, rfl, nT, rfl, k1⟩ := y
  have := k1 vs h1; rw [f1] at this; cases this
  exact pair_new S nT (.int _) (g1.mono s)
theorem di_enum {m : M (List Ar)} {elts : List Expr} {kk} (g : I.sc.names.lookup ("enumerate" : Str) = some .globalImplicit) (hm : I.mg ("enumerate" : Str) = none) (h : DP I W [a] m) : DI I W (.Tuple elts kk tpos) (.Call (.Name "enumerate" p0) [a] [] pos) (iEnumM m) := by
  obtain ⟨n, t, h1, h2⟩ := h
  have n2 : nst a = true := by simpa using n
  refine ⟨iEnum I.K t, fun X ok => (by
    have := pi_enum (tpos := tpos) (elts := elts) (kk := kk) (pos := pos) (p := p0) (gl_of ok.hsc g) (by rw [ok.hmg]; exact hm) (h1 X ok) (star_of n2 _ _)
    rw [ok.hK] at this; exact this), fun p G σ H e R S w => ?_⟩
  refine simA_of h2 p G σ H e _ S (Wp.mono (Wp.bnd w) fun ds G1 H1 e1 s1 S1 w1 vs r => ?_)
  obtain ⟨l, hl, k⟩ := lift_wp w1
  match ds, r, hl with
  | [.lst l], r, hl =>
    obtain ⟨v, rfl, r1⟩ := reps1 r
    obtain ⟨q, vs, rfl, g1, g2⟩ := r1.ref_lst
    cases hl
    exact ⟨q, vs, rfl, rd_sq S1.sub g1, k G1 H1 (Same.refl _) S1 _ (iter_enum g1 g2)⟩
/-! ### a tuple or a list into names -/
theorem pg_or {X : Cx} {t1 t2 : TG} (h1 : PG X tg t1) (h2 : PG X tg t2) : PG X tg (fun v σ H Q => t1 v σ H Q ∨ t2 v σ H Q) := by
  refine ⟨fun pins s σ H v u Q J r h => ?_⟩
  rcases h with h | h
  · exact h1.run pins s σ H v u Q J r h
  · exact h2.run pins s σ H v u Q J r h
def gSeqM (n : Nat) (h : List D → M Unit) (d : D) : M Unit := match seqL d with
  | some ds => if ds.length = n then h ds else fun _ => .no
  | none => fun _ => .no
theorem dg_seq {as : List Expr} {k} {h : List D → M Unit} {gs : List Nat} (hh : DGs I W as h gs) : DG I W (.Tuple as k pos) (gSeqM as.length h) gs := by
  obtain ⟨t1, i1, i2⟩ := dg_tup (pos := pos) (k := k) hh
  obtain ⟨t2, j1, j2⟩ := dg_lst (pos := pos) (k := k) hh
  refine ⟨_, fun X ok => pg_or (i1 X ok) (j1 X ok), fun p G σ H e v d Q S r w => ?_⟩
  cases d with
  | lst l => exact .inr (j2 p G σ H e v _ Q S r w)
  | tup l => exact .inl (i2 p G σ H e v _ Q S r w)
  | non => exact w.elim
  | bl _ => exact w.elim
  | int _ => exact w.elim
  | str _ => exact w.elim
  | dct _ => exact w.elim
  | obj _ _ => exact w.elim
/-! ### no error comes of these -/
def nox {α : Type} (m : M α) : M α := fun e => match m e with
  | .ex _ _ _ => .no
  | r => r
theorem nox_ne {α : Type} {m : M α} : ∀ e c fs e', nox m e ≠ .ex c fs e' := by
  intro e c fs e' h
  unfold nox at h
  cases z : m e <;> rw [z] at h <;> cases h
theorem de_nox {m : M D} (h : DE I W a m) : DE I W a (nox m) := by
  obtain ⟨t, h1, h2⟩ := h
  refine ⟨t, h1, fun p G σ H e Q S w => h2 p G σ H e Q S ?_⟩
  unfold nox at w
  cases z : m e with
  | no => rw [z] at w; exact w
  | ex c fs e' => rw [z] at w; exact w.elim
  | ok d e' => rw [z] at w; exact w
theorem gSet_ne {i : Nat} : ∀ d e c fs e', gSet i d e ≠ .ex c fs e' := by
  intro d e c fs e' z
  unfold gSet at z
  split at z <;> cases z
theorem gCons_ne {g : D → M Unit} {h : List D → M Unit} (h1 : ∀ d e c fs e', g d e ≠ .ex c fs e') (h2 : ∀ d e c fs e', h d e ≠ .ex c fs e') : ∀ ds e c fs e', gConsM g h ds e ≠ .ex c fs e' := by
  intro ds e c fs e' z
  unfold gConsM at z
  cases ds with
  | nil => cases z
  | cons d ds =>
    unfold M.bnd at z
    dsimp only at z
    cases q : g d e with
    | no => rw [q] at z; cases z
    | ex _ _ _ => exact h1 _ _ _ _ _ q
    | ok u e2 => rw [q] at z; exact h2 _ _ _ _ _ z
theorem gNil_ne : ∀ ds e c fs e', gNilM ds e ≠ .ex c fs e' := by
  intro ds e c fs e' z
  unfold gNilM at z
  cases ds <;> cases z
theorem gSeq_ne {n : Nat} {h : List D → M Unit} (h2 : ∀ d e c fs e', h d e ≠ .ex c fs e') : ∀ d e c fs e', gSeqM n h d e ≠ .ex c fs e' := by
  intro d e c fs e' z
  unfold gSeqM at z
  cases q : seqL d with
  | none => rw [q] at z; cases z
  | some ds =>
    rw [q] at z
    by_cases hl : ds.length = n
    · dsimp only at z; rw [if_pos hl] at z; exact h2 _ _ _ _ _ z
    · dsimp only at z; rw [if_neg hl] at z; cases z
/-! ### name op= e -/
def sAug (i : Nat) (f : D → D → Option Ret) (m : M D) : M Fl := fun e => match e[i]? with
  | some (.sh d) => M.bnd m (fun y => M.bnd (lift (f d y)) (gOwn i)) e
  | _ => .no
theorem ds_aug {i : Nat} {op : Operator} {f : D → D → Option Ret} {m : M D} (ho : OpD I W (inplaceOp op) f) (hx : SetOk I.N I.sc I.fn i x) (h : DE I W a m) : DS I W (.AugAssign (.Name x p0) op a pos) (sAug i f m) := by
  obtain ⟨r, r1, r2⟩ := ho
  obtain ⟨t, h1, h2⟩ := h
  refine ⟨tAug i t r, fun X ok => ps_aug (by rw [ok.hN]; exact ok.nd) (by rw [ok.hN]; exact hx.hN) (by rw [ok.hsc]; exact hx.hv) (h1 X ok) (fun pins s σ H x y v u Q J rx ry q => r1 X ok pins s σ H x y v u Q J rx ry q) (by rw [ok.hfn, ok.hsc]; exact hx.hf), fun p G σ H e E S w => ?_⟩
  unfold sAug at w
  cases q : e[i]? with
  | none => rw [q] at w; exact w.elim
  | some s =>
    rw [q] at w
    cases s with
    | no => exact w.elim
    | ow _ => exact w.elim
    | io _ => exact w.elim
    | sh d =>
      obtain ⟨v, hv, rv⟩ := S.sh i d q
      refine ⟨v, hv, h2 p G σ H e _ S (Wp.mono (Ws.bnd w) fun dy G1 H1 e1 s1 S1 w1 vy ry => ?_)⟩
      have w2 := Ws.bnd (σ := σ) w1
      obtain ⟨res, hf, k⟩ := lift_wp w2
      refine r2 p G1 σ H1 e1 v vy d dy res _ S1 (rv.mono s1) ry hf fun G2 H2 s2 S2 => ?_
      have w3 := k G2 H2 s2 S2
      unfold gOwn at w3
      cases q1 : e1[i]? with
      | none => rw [q1] at w3; exact w3.elim
      | some s0 =>
        have hi := (List.getElem?_eq_some_iff.mp q1).1
        rw [q1] at w3
        have nio : (∀ y, s0 ≠ .io y) → ∀ y, e1[i]? ≠ some (.io y) := fun h y z => by rw [q1] at z; cases z; exact h y rfl
        cases res with
        | sh dd =>
          intro u ru
          cases s0 with
          | io _ => exact w3.elim
          | no => exact w3 G2 _ H2 (Same.refl _) (S2.setSh ru hi (nio fun _ z => nomatch z))
          | sh _ => exact w3 G2 _ H2 (Same.refl _) (S2.setSh ru hi (nio fun _ z => nomatch z))
          | ow _ => exact w3 G2 _ H2 (Same.refl _) (S2.setSh ru hi (nio fun _ z => nomatch z))
        | ow y =>
          intro c gc cc h0 hF ap
          cases s0 with
          | io _ => exact w3.elim
          | no => exact w3 G2 _ H2 (Same.refl _) (S2.setOw gc cc h0 hF ap hi (nio fun _ z => nomatch z))
          | sh _ => exact w3 G2 _ H2 (Same.refl _) (S2.setOw gc cc h0 hF ap hi (nio fun _ z => nomatch z))
          | ow _ => exact w3 G2 _ H2 (Same.refl _) (S2.setOw gc cc h0 hF ap hi (nio fun _ z => nomatch z))
theorem io_add : OpD I W (inplaceOp .Add) (fInt0 fun i j => i + j) := opd_int0 fun _ => iop_add
theorem io_sub : OpD I W (inplaceOp .Sub) fSub := opd_int0 fun _ => iop_sub
theorem io_or : OpD I W (inplaceOp .BitOr) fOr := opd_int0 fun _ => iop_or
theorem io_and : OpD I W (inplaceOp .BitAnd) fAnd := opd_int0 fun _ => iop_and
theorem io_xor : OpD I W (inplaceOp .BitXor) fXor := opd_int0 fun _ => iop_xor
end
end DL
end

section
namespace DL
open PySem PySem.Spec L2
open PyProof.Rows hiding St

section
variable {I : CI} {W : WX} {a b tg iter elt : Expr} {es ifs : List Expr} {scope : Scope} {pos p0 p1 tpos spos py : Pos} {x y : Str}
/-! ### x, y = a, b with plain local names -/
def sPar (m : M (List Ar)) (i j : Nat) : M Fl := M.bnd (aVals m) fun ds => match ds with
  | [u, v] => M.bnd (gSet i u) fun _ => M.bnd (gSet j v) fun _ => M.ret .nx
  | _ => fun _ => .no
theorem set_sim {p : Pm} {G H : Hp} {σ : L2.St} {e : En} {i : Nat} {v : V} {d : D} {E : Ends} {k : M Fl} (S : Srp I.K I.mg p G σ H e) (r : Rep I.K I.mg G v d) (w : Ws I.K I.mg W p G (M.bnd (gSet i d) (fun _ => k) e) E) :
    Srp I.K I.mg p G (σ.set i (some v)) H (e.set i (.sh d)) ∧ Ws I.K I.mg W p G (k (e.set i (.sh d))) E := by
  unfold M.bnd gSet at w
  cases q : e[i]? with
  | none => rw [q] at w; exact w.elim
  | some s0 =>
    have hi := (List.getElem?_eq_some_iff.mp q).1
    rw [q] at w
    have nio : (∀ y, s0 ≠ .io y) → ∀ y, e[i]? ≠ some (.io y) := fun h y z => by rw [q] at z; cases z; exact h y rfl
    cases s0 with
    | io _ => exact w.elim
    | no => exact ⟨S.setSh r hi (nio fun _ z => nomatch z), w⟩
    | sh _ => exact ⟨S.setSh r hi (nio fun _ z => nomatch z), w⟩
    | ow _ => exact ⟨S.setSh r hi (nio fun _ z => nomatch z), w⟩
theorem ds_par {i j : Nat} {m : M (List Ar)} {k k2} {pt pt2 : Pos} (hi : I.N[i]? = some x) (hj : I.N[j]? = some y) (hij : i ≠ j) (hx : I.sc.names.lookup x = some .local) (hy : I.sc.names.lookup y = some .local) (ha : DP I W [a, b] m)
    (hw : ∀ env : Env, env.scope = I.sc → swappedStores [.Tuple [.Name x p0, .Name y p1] k pt] (.Tuple [a, b] k2 pt2) env = pure (some [x, y]))
    (hs : ∀ env : Env, swapsWithSole [.Tuple [.Name x p0, .Name y p1] k pt] (.Tuple [a, b] k2 pt2) pos.line env = pure false) :
    DS I W (.Assign [.Tuple [.Name x p0, .Name y p1] k pt] (.Tuple [a, b] k2 pt2) pos) (sPar m i j) := by
  obtain ⟨n, t, h1, h2⟩ := ha
  refine ⟨tPar i j t, fun X ok => ps_par ok.calm (by rw [ok.hN]; exact ok.nd) (by rw [ok.hN]; exact hi) (by rw [ok.hN]; exact hj) hij (by rw [ok.hsc]; exact hx) (by rw [ok.hsc]; exact hy) (h1 X ok) (hw X.env ok.hsc) (hs X.env), fun p G σ H e E S w => ?_⟩
  refine simA_of h2 p G σ H e _ S (Wp.mono (Ws.bnd w) fun ds G1 H1 e1 s1 S1 w1 vs r => ?_)
  match ds, vs, r, w1 with
  | [u, v], [u', v'], r, w1 =>
    have r1 := r.2 0 u' u rfl rfl
    have r2 := r.2 1 v' v rfl rfl
    obtain ⟨S2, w2⟩ := set_sim S1 r1 w1
    obtain ⟨S3, w3⟩ := set_sim S2 r2 w2
    exact ⟨u', v', rfl, w3 G1 _ H1 (Same.refl _) S3⟩
  | [u, v], [], r, w1 => exact absurd r.1 (by simp)
  | [u, v], [_], r, w1 => exact absurd r.1 (by simp)
  | [u, v], _ :: _ :: _ :: _, r, w1 => exact absurd r.1 (by simp)
  | [], _, _, w1 => exact w1.elim
  | [_], _, _, w1 => exact w1.elim
  | _ :: _ :: _ :: _, _, _, w1 => exact w1.elim
/-! ### name = [..] on one line -/
theorem own_sim {i : Nat} {t : TE} {m : M Ret} (h2 : SimR I W t m) : SimS I W (tAsg t (gName i)) (sOwn m i) := by
  intro p G σ H e E S w
  refine h2 p G σ H e _ S (Wp.mono (Ws.bnd w) fun r G1 H1 e1 s1 S1 w1 => ?_)
  unfold gOwn at w1
  cases q : e1[i]? with
  | none => rw [q] at w1; exact w1.elim
  | some s =>
    have hi := (List.getElem?_eq_some_iff.mp q).1
    rw [q] at w1
    have nio : (∀ y, s ≠ .io y) → ∀ y, e1[i]? ≠ some (.io y) := fun h y z => by rw [q] at z; cases z; exact h y rfl
    cases r with
    | sh d =>
      intro v rv
      cases s with
      | io _ => exact w1.elim
      | no => exact w1 G1 _ H1 (Same.refl _) (S1.setSh rv hi (nio fun _ z => nomatch z))
      | sh _ => exact w1 G1 _ H1 (Same.refl _) (S1.setSh rv hi (nio fun _ z => nomatch z))
      | ow _ => exact w1 G1 _ H1 (Same.refl _) (S1.setSh rv hi (nio fun _ z => nomatch z))
    | ow y =>
      intro b gb c h0 hF ap
      cases s with
      | io _ => exact w1.elim
      | no => exact w1 G1 _ H1 (Same.refl _) (S1.setOw gb c h0 hF ap hi (nio fun _ z => nomatch z))
      | sh _ => exact w1 G1 _ H1 (Same.refl _) (S1.setOw gb c h0 hF ap hi (nio fun _ z => nomatch z))
      | ow _ => exact w1 G1 _ H1 (Same.refl _) (S1.setOw gb c h0 hF ap hi (nio fun _ z => nomatch z))
theorem ds_setLc {i : Nat} {own : List (Str × Nat)} {mi : M (List D)} {g : D → M Unit} {gs : List Nat} {t : M Bool} {m : M D} (hy : I.N[i]? = some y) (hyl : I.sc.names.lookup y = some .local) (hk : I.sc.kind = .function) (hl : (py.line == pos.line) = true)
    (hn : (scope.names.any fun (n, k) => n == y && (k == .local || k == .cell)) = false)
    (hi : DI I W tg iter mi) (ok : BlkOk I.N I.sc scope own) (hg : DG (I.blk scope) W0 tg g gs) (hgs : ∀ i ∈ gs, i ∈ own.map (·.2))
    (ht : DTs (I.blk scope) W0 ifs t) (he : DE (I.blk scope) W0 elt m) (hs : ∀ (env : Env) x, foldedSetIterable iter env x = pure x) :
    DS I W (.Assign [.Name y py] (.ListComp elt [⟨tg, iter, ifs, 0⟩] scope pos) spos) (sOwn (rComp mi g t m (own.map (·.2))) i) := by
  obtain ⟨w, i1, i2⟩ := hi
  obtain ⟨u, g1, g2⟩ := hg
  obtain ⟨tt, t1, t2⟩ := ht
  obtain ⟨te, e1, e2⟩ := he
  exact ⟨tAsg (tLc w u tt te (own.map (·.2))) (gName i), fun X kx => ps_setLc kx.calm (by rw [kx.hN]; exact kx.nd) (by rw [kx.hN]; exact hy) (by rw [kx.hsc]; exact hyl) (sw_true (by rw [kx.hsc]; exact hk) (by rw [kx.hsc]; exact hyl) hl hn) (i1 X kx) (by rw [kx.hN, kx.hsc]; exact ok) (fun s H C cl fp => g1 _ (okx_blk kx scope s H C cl fp)) (fun s H C cl fp => t1 _ (okx_blk kx scope s H C cl fp)) (fun s H C cl fp => e1 _ (okx_blk kx scope s H C cl fp)) (hs X.env),
    own_sim (comp_sim i2 g2 hgs t2 e2)⟩
theorem set_simS {i : Nat} {x : Str} {t : TE} {m : M D} (hx : I.N[i]? = some x) (h2 : SimE I W t m) : SimS I W (tAsg t (gName i)) (sAsg m (gSet i)) := by
  intro p G σ H e E S w
  refine h2 p G σ H e _ S (Wp.mono (Ws.bnd w) fun d G1 H1 e1 s1 S1 w1 v r => ?_)
  obtain ⟨S2, w2⟩ := set_sim S1 r w1
  exact w2 G1 _ H1 (Same.refl _) S2
/-- the same, its value for all -/
theorem ds_setLcF {i : Nat} {own : List (Str × Nat)} {mi : M (List D)} {g : D → M Unit} {gs : List Nat} {t : M Bool} {m : M D} (hy : I.N[i]? = some y) (hyl : I.sc.names.lookup y = some .local) (hk : I.sc.kind = .function) (hl : (py.line == pos.line) = true)
    (hn : (scope.names.any fun (n, k) => n == y && (k == .local || k == .cell)) = false)
    (hi : DI I W tg iter mi) (ok : BlkOk I.N I.sc scope own) (hg : DG (I.blk scope) W0 tg g gs) (hgs : ∀ i ∈ gs, i ∈ own.map (·.2))
    (ht : DTs (I.blk scope) W0 ifs t) (he : DE (I.blk scope) W0 elt m) (hs : ∀ (env : Env) x, foldedSetIterable iter env x = pure x) :
    DS I W (.Assign [.Name y py] (.ListComp elt [⟨tg, iter, ifs, 0⟩] scope pos) spos) (sAsg (mD (rComp mi g t m (own.map (·.2)))) (gSet i)) := by
  obtain ⟨w, i1, i2⟩ := hi
  obtain ⟨u, g1, g2⟩ := hg
  obtain ⟨tt, t1, t2⟩ := ht
  obtain ⟨te, e1, e2⟩ := he
  exact ⟨tAsg (tLc w u tt te (own.map (·.2))) (gName i), fun X kx => ps_setLc kx.calm (by rw [kx.hN]; exact kx.nd) (by rw [kx.hN]; exact hy) (by rw [kx.hsc]; exact hyl) (sw_true (by rw [kx.hsc]; exact hk) (by rw [kx.hsc]; exact hyl) hl hn) (i1 X kx) (by rw [kx.hN, kx.hsc]; exact ok) (fun s H C cl fp => g1 _ (okx_blk kx scope s H C cl fp)) (fun s H C cl fp => t1 _ (okx_blk kx scope s H C cl fp)) (fun s H C cl fp => e1 _ (okx_blk kx scope s H C cl fp)) (hs X.env),
    set_simS hy (.of_r (comp_sim i2 g2 hgs t2 e2))⟩
/-! ### products -/
def mulI (i j : Int) : Bool := (decide (-(2 ^ 64) < i) && decide (i < 2 ^ 64)) || (decide (-(2 ^ 64) < j) && decide (j < 2 ^ 64))
def fMulI : D → D → Option Ret := fInt2 mulI fun i j => i * j
theorem o_mulI : OpD I W (binaryOp .Mult) fMulI := opd_int (fun _ => op_mul) fun i j c => by
  unfold mulI at c
  simp only [Bool.or_eq_true, Bool.and_eq_true, decide_eq_true_eq] at c
  exact c
theorem op_rep2 {X : Cx} : OpR X (binaryOp .Mult) (rRep2 X.K) := by
  intro pins s σ H x y v u Q I rx ry ⟨l, k, xs, ex, ey, hH, h1, h2, hz, q⟩
  subst ex; subst ey
  cases rx
  obtain ⟨t, rfl⟩ := ry
  obtain ⟨z, cs, n, r, hl, e⟩ := rdL I hH
  have many : cs.toArray.size * k.toNat ≤ sizeLine := by rw [List.size_toArray, ← hl]; exact hz
  have noc : ¬ cs.toArray.size * k.toNat > (2 ^ 63 - 1) / 8 := by
    have : (sizeLine : Nat) ≤ (2 ^ 63 - 1) / 8 := by decide
    omega
  have fits : ¬ (!Builtin.List.listFitsIndex k) = true := by
    rw [fitsIndex_both h1 h2]
    exact Bool.false_ne_true
  have short : ¬ Builtin.List.listTooLong (cs.toArray.size * k.toNat) = true := by
    rw [notLongL many]
    exact Bool.false_ne_true
  have fresh_ : List.foldl (fun x1 x2 => x1 ++ x2) #[] (List.replicate (if cs.toArray.isEmpty = true then 0 else k.toNat) cs.toArray) = (List.replicate k.toNat cs).flatten.toArray := by
    rw [size_rep]
    cases cs with
    | nil => simp
    | cons a r' => rw [if_neg (by simp)]
  refine wpAny_binaryOp_repeat_ref (T := "list") (U := "int") (by decide) ⟨_, e, rfl⟩ (fun s' => typeIs_int s' k t) noFill_list_mul F.fills_int_mul F.slot_int_rmul repeat_list F.slot_int_index.lookup
    (call_meets F.slot_int_rmul (typeIs_int s k t) F.entry_int_rmul (F.args_int_rmul_2 _ _) (int___rmul___int_list k t l cs.toArray n)
      ⟨e, rfl, ⟨_, e, rfl⟩, call_meets F.slot_list_mul ⟨_, e, rfl⟩ F.entry_list_mul (F.args_list_mul_2 _ _) (AutoListH.list___mul___list_int_3 l cs.toArray n k t fits noc short) ⟨e, ?_⟩⟩)
  rw [fresh_]
  exact ⟨.ref _, _, I.lnew (t' := s.toks) (r.rep k.toNat) (by rw [PyProof.Rows.lm_len_rep_flat, Nat.mul_comm]; exact hz), rfl, q _ I.fresh⟩
/-- a * b: ints; a list or a tuple times an int -/
def fMul : D → D → Option Ret
  | .int i, .int j => if mulI i j then some (.sh (.int (i * j))) else none
  | .lst l, .int k => if -(2 ^ 63) ≤ k ∧ k < 2 ^ 63 ∧ l.length * k.toNat ≤ LIM then some (.ow (.l (List.replicate k.toNat l).flatten)) else none
  | .tup l, .int k => if l ≠ [] ∧ 2 ≤ k ∧ k ≤ 1000 ∧ l.length ≤ 1000 then some (.sh (.tup (List.replicate k.toNat l).flatten)) else none
  | _, _ => none
theorem Reps.rep {K : PySem.W.Frag} {mg : MG} {G : Hp} {vs : List V} {l : List D} (r : Reps K mg G vs l) : ∀ n : Nat, Reps K mg G (List.replicate n vs).flatten (List.replicate n l).flatten
  | 0 => Reps.nil
  | n + 1 => by
    rw [List.replicate_succ, List.replicate_succ, List.flatten_cons, List.flatten_cons]
    exact Reps.append r (Reps.rep r n)
theorem o_mul : OpD I W (binaryOp .Mult) fMul := by
  refine ⟨fun x y H Q => rI CMul (fun i j => .int (i * j)) x y H Q ∨ rRep2 I.K x y H Q ∨ rRepT I.K x y H Q, fun X ok => by have h1 := op_rep2 (X := X); have h2 := op_repT (X := X); rw [ok.hK] at h1 h2; exact op_mul.or (h1.or h2), fun p G σ H e x y a b res Q S ra rb hf k => ?_⟩
  have ll := lim_line
  cases ra with
  | int i =>
    cases rb <;> first | cases hf | skip
    rename_i j
    unfold fMul at hf
    dsimp only at hf
    split at hf
    · rename_i c
      cases hf
      unfold mulI at c
      simp only [Bool.or_eq_true, Bool.and_eq_true, decide_eq_true_eq] at c
      exact .inl ⟨i, j, rfl, rfl, c, k G H (Same.refl _) S _ (.int _)⟩
    · cases hf
  | @lst a2 vs l h1 h2 h3 =>
    cases rb <;> first | cases hf | skip
    rename_i j
    unfold fMul at hf
    dsimp only at hf
    split at hf
    · rename_i hz
      cases hf
      refine .inr (.inl ⟨a2, j, vs, rfl, rfl, Same.ls S.sub h1, hz.1, hz.2.1, by rw [h2]; omega, fun q n => ?_⟩)
      obtain ⟨S1, gn, h0, hF, ap⟩ := S.laidOw (o := .lst (List.replicate j.toNat vs).flatten) n
      exact k _ _ (Same.refl _) S1 q gn ⟨_, upd_same, Reps.rep ⟨h2, h3⟩ _⟩ h0 hF ap
    · cases hf
  | @tup a2 vs l h1 h2 h3 =>
    cases rb <;> first | cases hf | skip
    rename_i j
    unfold fMul at hf
    dsimp only at hf
    split at hf
    · rename_i hz
      cases hf
      refine .inr (.inr ⟨a2, j, vs, rfl, rfl, Same.seqT S.sub h1, ?_, hz.2.1, hz.2.2.1, by rw [h2]; exact hz.2.2.2, fun q n => ?_⟩)
      · intro z
        subst z
        have : l = [] := by cases l with | nil => rfl | cons _ _ => simp at h2
        exact hz.1 this
      · obtain ⟨s1, S1⟩ := S.laid (o := .tup (List.replicate j.toNat vs).flatten) n
        exact k _ _ s1 S1 _ (.mk_tup (.of upd_same) (Reps.mono s1 (Reps.rep ⟨h2, h3⟩ _)))
    · cases hf
  | non => cases hf
  | bl _ => cases hf
  | str _ => cases hf
  | dct _ _ _ _ => cases hf
  | obj _ _ _ _ _ _ => cases hf
/-! ### {k: v} -/
theorem de_dict1 {z : Str} {i : Int} {j1 j2} : DE I W (.Dict [some (.Constant (.str z) j1 p0)] [.Constant (.int i) j2 p1] pos) (eC (.dct [(.inr z, .int i)])) := by
  refine ⟨tDisp [(tC (.str z), tC (.int i))], fun X ok => pe_disp (pps_cons pe_str pe_int pps_nil) rfl rfl (by simp) (by simp), fun p G σ H e Q S w => fun q n => ?_⟩
  refine ⟨upd_same, [(.inr z, .int i)], rfl, by simp, ?_⟩
  have hu : upd (upd H q (.dK [])) q (.dK (mergeK [] [((.inr z : Key), V.int i)])) = upd H q (.dK [((.inr z : Key), V.int i)]) := by
    funext b
    by_cases hb : b = q
    · subst hb; rw [upd_same, upd_same]; rfl
    · rw [upd_ne hb, upd_ne hb, upd_ne hb]
  rw [hu]
  obtain ⟨s2, S2⟩ := S.laid (o := .dK [((.inr z : Key), V.int i)]) n
  refine w _ _ s2 S2 _ (.dct upd_same rfl (fun i kv kd h1 h2 => ?_) (fun i kv kd h1 h2 => ?_))
  · cases i with
    | zero => simp at h1 h2; subst h1 h2; rfl
    | succ i => simp at h1
  · cases i with
    | zero => simp at h1 h2; subst h1 h2; exact .int _
    | succ i => simp at h1
end

/-! ### calls with keywords, and with nothing -/
def permL {α : Type} (z : α) (perm : List Nat) (l : List α) : List α := perm.map fun j => l.getD j z
theorem permL_vals {vs : List V} {us : List Value} (r : Vals vs us) (perm : List Nat) : Vals (permL .non perm vs) (permL .none perm us) := by
  induction perm with
  | nil => exact .nil
  | cons j perm ih =>
    refine .cons ?_ ih
    show RelV (vs.getD j .non) (us.getD j .none)
    rw [List.getD_eq_getElem?_getD, List.getD_eq_getElem?_getD]
    cases q : vs[j]? with
    | none =>
      have : us[j]? = none := by
        rw [List.getElem?_eq_none_iff] at q ⊢
        rw [← r.length]; exact q
      rw [this]; rfl
    | some v =>
      obtain ⟨u, h1, h2⟩ := r.get q
      rw [h1]; exact h2
theorem permL_ars {K : PySem.W.Frag} {mg : MG} {G : Hp} {σ : L2.St} {vs : List V} {as : List Ar} (r : ArsOk K mg G σ vs as) (perm : List Nat) : ArsOk K mg G σ (permL .non perm vs) (permL (.d .non) perm as) := by
  refine ⟨by simp [permL], fun j v a h1 h2 => ?_⟩
  unfold permL at h1 h2
  rw [List.getElem?_map] at h1 h2
  cases q : perm[j]? with
  | none => rw [q] at h1; cases h1
  | some n =>
    rw [q] at h1 h2
    simp only [Option.map_some, Option.some.injEq] at h1 h2
    subst h1 h2
    rw [List.getD_eq_getElem?_getD, List.getD_eq_getElem?_getD]
    cases qv : vs[n]? with
    | none =>
      have : as[n]? = none := by
        rw [List.getElem?_eq_none_iff] at qv ⊢
        rw [← r.1]; exact qv
      rw [this]; exact Rep.non
    | some v =>
      have hn : n < as.length := by rw [← r.1]; exact (List.getElem?_eq_some_iff.mp qv).1
      rw [List.getElem?_eq_getElem hn]
      exact r.2 n v _ qv (List.getElem?_eq_getElem hn)
theorem ArsOk.app {K : PySem.W.Frag} {mg : MG} {G : Hp} {σ : L2.St} {vs ws : List V} {as bs : List Ar} (r : ArsOk K mg G σ vs as) (r' : ArsOk K mg G σ ws bs) : ArsOk K mg G σ (vs ++ ws) (as ++ bs) := by
  refine ⟨by simp [r.1, r'.1], fun j v a h1 h2 => ?_⟩
  by_cases hj : j < vs.length
  · rw [List.getElem?_append_left hj] at h1
    rw [List.getElem?_append_left (by rw [← r.1]; exact hj)] at h2
    exact r.2 j v a h1 h2
  · rw [List.getElem?_append_right (by omega)] at h1
    rw [List.getElem?_append_right (by rw [← r.1]; omega), ← r.1] at h2
    exact r'.2 _ v a h1 h2
theorem ArsOk.up {K : PySem.W.Frag} {mg : MG} {G G' : Hp} {σ : L2.St} {vs : List V} {as : List Ar} (r : ArsOk K mg G σ vs as) (s : Same G G') : ArsOk K mg G' σ vs as := ⟨r.1, fun j v a h1 h2 => (r.2 j v a h1 h2).mono s⟩
def DK (I : CI) (W : WX) (kws : List Keyword) (m : M (List Ar)) : Prop := ∃ t, (∀ X, Okx I W X → PK X kws t) ∧ SimP I W t m
section
variable {I : CI} {W : WX} {a : Expr} {es : List Expr} {pos p0 kpos : Pos} {x : Str} {nm : Option Str} {kws : List Keyword}
theorem dk_nil : DK I W [] aNil := ⟨tNil, fun _ _ => pk_nil, fun p G σ H e Q S w => w G H (Same.refl _) S [] ⟨rfl, fun _ _ _ h => by simp at h⟩⟩
theorem dk_cons {ma : M Ar} {mr : M (List Ar)} (ha : DO I W a ma) (hr : DK I W kws mr) : DK I W (⟨nm, a, kpos⟩ :: kws) (aCons ma mr) := by
  obtain ⟨n, t, h1, h2⟩ := ha
  obtain ⟨u, h3, h4⟩ := hr
  refine ⟨tCons t u, fun X ok => pk_cons (h1 X ok) (h3 X ok), fun p G σ H e Q S w => ?_⟩
  refine h2 p G σ H e _ S (Wp.mono (Wp.bnd w) fun d G1 H1 e1 s1 S1 w1 v r => ?_)
  refine h4 p G1 σ H1 e1 _ S1 (Wp.mono (Wp.bnd w1) fun as G2 H2 e2 s2 S2 w2 vs rs => ?_)
  refine w2 G2 H2 (Same.refl _) S2 (v :: vs) ⟨by simp [rs.1], fun j v' a' q1 q2 => ?_⟩
  cases j with
  | zero => simp at q1 q2; subst q1 q2; exact r.mono s2
  | succ j => exact rs.2 j v' a' (by simpa using q1) (by simpa using q2)
def rCallK (sem : FS) (n nk : Nat) (perm : List Nat) (ma mk : M (List Ar)) : M Ret := M.bnd ma fun as => M.bnd mk fun ks => if as.length = n ∧ ks.length = nk then callS sem (permL (.d .non) perm (as ++ ks)) else fun _ => .no
/-- how keywords are put into the parameters' order -/
def KwOk (x : Str) (st : Stmt) (ps ks : List Str) (n : Nat) (perm : List Nat) : Prop := perm.length = ps.length ∧ ∀ (kV doc pm : Value) (an : Option Addr) (cdv ct : Value) (us ws : List Value), us.length = n → ws.length = ks.length →
    bindArgs (PySem.W.fnOf x x (defArgs st) (defBody st) (defScope st) .none kV doc pm an cdv ct) ⟨us, ks.zip ws⟩ = pure (ps.zip (permL .none perm (us ++ ws)))
def tCallK0 (sp : Sp) (n nk : Nat) (perm : List Nat) (E : L2.St → XK) (t tk : TA) : TE := fun σ H Q => t σ H fun vs H1 => tk σ H1 fun zs H2 => vs.length = n ∧ zs.length = nk ∧ sp (permL .non perm (vs ++ zs)) H2 Q (E σ)
theorem run_kw {X : Cx} {CX : CXT} {k n : Nat} {f : Addr} {fd : FuncData} {st : Stmt} {ps ks : List Str} {perm : List Nat} {sp : Sp} {E : L2.St → XK} {pins : List (Addr × Obj)} {σ : L2.St} {H : Hp} {s : Shared} {Q : VK} {us ws : List Value} {vs zs : List V} (F : FnOk X.prog X.w X.K X.mg X.base CX k f fd ps sp) (hr : Room k X.A)
    (D : FunD X.K x x (defArgs st) (defBody st) (defScope st) [] [] f fd) (hb : KwOk x st ps ks n perm) (hx : PassesAt CX X σ (E σ)) (I : Inv X pins σ H s) (r : Vals vs us) (rz : Vals zs ws) (hn : vs.length = n) (hz : zs.length = ks.length) (h : sp (permL .non perm (vs ++ zs)) H Q (E σ)) :
    wpAny (model X.prog X.w) X.A (call (.ref f) us (ks.zip ws)) (EP X pins σ Q) X.xe s := by
  have r2 := permL_vals (r.append rz) perm
  have b : BindsTo s fd ⟨us, ks.zip ws⟩ (ps.zip (permL .none perm (us ++ ws))) := by
    obtain ⟨oc, od, dV, kV, doc, pm, an, cdv, ct, osl, rfl, lk, hcd, hD, hK⟩ := D.ex
    rcases hD with ⟨_, rfl⟩ | ⟨e, _⟩
    · exact .of_eq (hb.2 kV doc pm an cdv ct us ws (by rw [← r.length]; exact hn) (by rw [← rz.length]; exact hz))
    · exact absurd rfl e
  refine wpAny_call (codeAny_mono (F.run X.A X.stack s H ⟨us, ks.zip ws⟩ (permL .none perm (us ++ ws)) _ Q (E σ) hr I.env0 b r2 h) fun r s' hq => ?_)
  cases r with
  | error e => exact hx pins H s e s' I hq
  | ok fl =>
    cases fl with
    | ret u => exact I.after hq
    | next => exact False.elim hq
    | brk => exact False.elim hq
    | cont => exact False.elim hq
theorem kw_sim {sem : FS} {n nk : Nat} {perm : List Nat} {t tk : TA} {ma mk : M (List Ar)} (h2 : SimP I W t ma) (k2 : SimP I W tk mk) : SimR I W (tCallK0 (spF I.K I.mg sem) n nk perm (WE W) t tk) (rCallK sem n nk perm ma mk) := by
  intro p G σ H e Q S w
  refine h2 p G σ H e _ S (Wp.mono (Wp.bnd w) fun as G1 H1 e1 s1 S1 w1 vs rs => ?_)
  refine k2 p G1 σ H1 e1 _ S1 (Wp.mono (Wp.bnd w1) fun ks G2 H2 e2 s2 S2 w2 zs rz => ?_)
  by_cases hl : as.length = n ∧ ks.length = nk
  · rw [if_pos hl] at w2
    exact ⟨rs.1.trans hl.1, rz.1.trans hl.2, call_sim S2 (permL_ars ((rs.up s2).app rz) perm) w2⟩
  · rw [if_neg hl] at w2; exact w2.elim
theorem dr_callK {st : Stmt} {ps ks : List Str} {sem : FS} {k n : Nat} {perm : List Nat} {ma mk : M (List Ar)} (F : DF I.P I.w I.K I.mg I.base k x st ps sem) (hk : k ≤ I.k) (g : I.sc.names.lookup x = some .globalImplicit) (hd : (x == ("__debug__" : Str)) = false)
    (ha : DP I W (a :: es) ma) (hkw : DK I W kws mk) (hb : KwOk x st ps ks n perm) (hall : ∀ env : Env, (backToKw pos (keywordEach kws env)).all (·.1.isSome) = true) (hks : ∀ env : Env, (backToKw pos (keywordEach kws env)).filterMap (·.1) = ks)
    (hno : ∀ env : Env, (backToKw pos (keywordEach kws env)).any (·.1.isNone) = false) : DR I W (.Call (.Name x p0) (a :: es) kws pos) (rCallK sem n ks.length perm ma mk) := by
  obtain ⟨f, fd, F1, F2, F3, F4⟩ := F.ex
  obtain ⟨nn, t, h1, h2⟩ := ha
  obtain ⟨tk, k1, k2⟩ := hkw
  have n2 : nst a = true ∧ es.all nst = true := by simpa using nn
  refine ⟨tCallK0 (spF I.K I.mg sem) n ks.length perm (WE W) t tk, fun X ok => ?_, kw_sim h2 k2⟩
  obtain ⟨P, ww, K, mg, base, N, sc, fn, kk⟩ := I
  obtain ⟨e1, e2, e3, e4, e5, e6, e7, e8, nd, calm, room, takes, passes⟩ := id ok
  dsimp only at *
  subst e1 e2 e3 e4 e5
  refine ⟨fun pins s σ H Q I h => ?_⟩
  refine wpAny_Call_Name_kw (ld_glob I (gl_of e7 g) F2 ?_ hd)
  refine PySem.W.callWith_KW (h₀ := X.base) I.ok.mod.kin F3.kp (hall _) (thn ((h1 X ok).run pos pins s σ H _ I h) fun us s1 ⟨vs, H1, I1, r, q⟩ => ?_) (by rw [no_back, no_star nn, hno]; rfl) (star_of n2.1 _ _)
  refine thn ((k1 X ok).run pos pins s1 σ H1 _ I1 q) fun ws s2 ⟨zs, H2, I2, rz, q1, q2, q3⟩ => ⟨I2.kIn, ?_⟩
  rw [hks]
  exact run_kw F1 (room.mono hk) F3 hb (passAt takes σ) I2 r rz q1 q2 q3
theorem dr_callK0 {st : Stmt} {ps ks : List Str} {sem : FS} {k : Nat} {perm : List Nat} {mk : M (List Ar)} (F : DF I.P I.w I.K I.mg I.base k x st ps sem) (hk : k ≤ I.k) (g : I.sc.names.lookup x = some .globalImplicit) (hd : (x == ("__debug__" : Str)) = false)
    (hkw : DK I W kws mk) (hb : KwOk x st ps ks 0 perm) (hall : ∀ env : Env, (backToKw pos (keywordEach kws env)).all (·.1.isSome) = true) (hks : ∀ env : Env, (backToKw pos (keywordEach kws env)).filterMap (·.1) = ks)
    (hno : ∀ env : Env, (backToKw pos (keywordEach kws env)).any (·.1.isNone) = false) : DR I W (.Call (.Name x p0) [] kws pos) (rCallK sem 0 ks.length perm aNil mk) := by
  obtain ⟨f, fd, F1, F2, F3, F4⟩ := F.ex
  obtain ⟨nn, t, h1, h2⟩ := (dp_nil : DP I W [] aNil)
  obtain ⟨tk, k1, k2⟩ := hkw
  refine ⟨tCallK0 (spF I.K I.mg sem) 0 ks.length perm (WE W) tNil tk, fun X ok => ?_, kw_sim (fun p G σ H e Q S w => w G H (Same.refl _) S [] ⟨rfl, fun _ _ _ h => by simp at h⟩) k2⟩
  obtain ⟨P, ww, K, mg, base, N, sc, fn, kk⟩ := I
  obtain ⟨e1, e2, e3, e4, e5, e6, e7, e8, nd, calm, room, takes, passes⟩ := id ok
  dsimp only at *
  subst e1 e2 e3 e4 e5
  refine ⟨fun pins s σ H Q I h => ?_⟩
  refine wpAny_Call_Name_kw (ld_glob I (gl_of e7 g) F2 ?_ hd)
  refine PySem.W.callWith_KW0 (h₀ := X.base) I.ok.mod.kin F3.kp (hall _) ?_ (by rw [hno]; rfl)
  refine thn ((k1 X ok).run pos pins s σ H _ I h) fun ws s2 ⟨zs, H2, I2, rz, q1, q2, q3⟩ => ⟨I2.kIn, ?_⟩
  rw [hks]
  exact run_kw (us := []) (vs := []) F1 (room.mono hk) F3 hb (passAt takes σ) I2 .nil rz rfl q2 q3
/-- f() -/
theorem dr_call0 {st : Stmt} {ps : List Str} {sem : FS} {k : Nat} (F : DF I.P I.w I.K I.mg I.base k x st ps sem) (hk : k ≤ I.k) (g : I.sc.names.lookup x = some .globalImplicit) (hd : (x == ("__debug__" : Str)) = false) :
    DR I W (.Call (.Name x p0) [] [] pos) (callS sem []) := by
  obtain ⟨f, fd, F1, F2, F3, F4⟩ := F.ex
  refine ⟨tCallS0 (spF I.K I.mg sem) (WE W), fun X ok => ?_, fun p G σ H e Q S w => ?_⟩
  · obtain ⟨P, ww, K, mg, base, N, sc, fn, kk⟩ := I
    obtain ⟨e1, e2, e3, e4, e5, e6, e7, e8, nd, calm, room, takes, passes⟩ := id ok
    dsimp only at *
    subst e1 e2 e3 e4 e5
    refine ⟨fun pins s σ H Q I h => ?_⟩
    refine wpAny_Call_Name_kw (ld_glob I (gl_of e7 g) F2 ?_ hd)
    exact PySem.W.callWith_K0 I.kIn F3.kp (run_fnS F1 (room.mono hk) F4 (passAt takes σ) I .nil h)
  · exact call_sim (as := []) (vs := []) S ⟨rfl, fun _ _ _ h => by simp at h⟩ w
end
end DL
end

section
namespace DL
open PySem PySem.Spec L2
open PyProof.Rows hiding St
open HT

/-! ### t[::-1] of tuples -/
section
variable {prog : Program} {w : World} {A : Around} {E : Value → Shared → Prop} {s : Shared}
theorem fm_congr {α β : Type} {f g : α → Option β} : ∀ {l : List α}, (∀ x ∈ l, f x = g x) → l.filterMap f = l.filterMap g
  | [], _ => rfl
  | a :: l, h => by
    rw [List.filterMap_cons, List.filterMap_cons, h a List.mem_cons_self, fm_congr fun x hx => h x (List.mem_cons_of_mem _ hx)]
theorem rev_adjust (n : Nat) : Builtin.Slice.sliceAdjust none none (-1) (n : Int) = ((n : Int) - 1, -1) := by
  unfold Builtin.Slice.sliceAdjust
  simp
theorem rev_places (n : Nat) : Builtin.Slice.slicePlaces ((n : Int) - 1) (-1) (-1) = n := by
  unfold Builtin.Slice.slicePlaces
  have h1 : ¬ (-1 : Int) > 0 := by omega
  simp only [h1, if_false]
  by_cases h : (n : Int) - 1 > -1
  · rw [if_pos h, show (- -1 : Int) = 1 by decide, Int.ediv_one]
    omega
  · rw [if_neg h]
    omega
theorem rev_list : ∀ l : List Value, (List.range l.length).filterMap (fun m => l[l.length - 1 - m]?) = l.reverse
  | l => by
    refine List.ext_getElem? fun i => ?_
    have h1 : (List.range l.length).filterMap (fun m => l[l.length - 1 - m]?) = (List.range l.length).map fun m => l.getD (l.length - 1 - m) .none := by
      rw [← List.filterMap_eq_map]
      refine fm_congr fun m hm => ?_
      have := List.mem_range.mp hm
      rw [List.getElem?_eq_getElem (by omega)]
      simp [List.getD_eq_getElem?_getD, List.getElem?_eq_getElem (show l.length - 1 - m < l.length by omega)]
    rw [h1, List.getElem?_map]
    by_cases hi : i < l.length
    · rw [List.getElem?_range hi, List.getElem?_reverse hi]
      simp [List.getD_eq_getElem?_getD, List.getElem?_eq_getElem (show l.length - 1 - i < l.length by omega)]
    · rw [List.getElem?_eq_none (by simpa using hi), List.getElem?_eq_none (by simpa using hi)]
      rfl
theorem rev_pick (xs : Array Value) : ((List.range xs.size).filterMap fun (m : Nat) => xs[((xs.size : Int) - 1 + (m : Int) * -1).toNat]?).toArray = xs.toList.reverse.toArray := by
  have e : (List.range xs.size).filterMap (fun (m : Nat) => xs[((xs.size : Int) - 1 + (m : Int) * -1).toNat]?) = (List.range xs.toList.length).filterMap (fun m => xs.toList[xs.toList.length - 1 - m]?) := by
    rw [Array.length_toList]
    refine fm_congr fun m hm => ?_
    have := List.mem_range.mp hm
    have e2 : ((xs.size : Int) - 1 + (m : Int) * -1).toNat = xs.size - 1 - m := by omega
    rw [e2]
    simp
  rw [e, rev_list]
theorem sliceApplied_rev {sl : Addr} {vs : Value} {n : Nat} {Q : Int × Int × Nat → Shared → Prop} (hs : s.heap.IsSliceOf sl .none .none vs) (ps : IsPart vs (some (-1)))
    (h : Q ((n : Int) - 1, -1, n) s) : wpAny (model prog w) A (Builtin.Slice.sliceApplied (.ref sl) (pure (n : Int))) Q E s := by
  obtain ⟨ob, g1, g2, g3⟩ := id hs
  unfold Builtin.Slice.sliceApplied Builtin.Slice.sliceFields
  refine wpAny_bind (wpAny_bind (wpAny_field g1 g3 (x := .none) rfl (wpAny_bind (wpAny_field g1 g3 (x := .none) rfl (wpAny_bind (wpAny_field g1 g3 (x := vs) rfl (wpAny_pure ?_)))))))
  refine wpAny_bind (slicePart_ ps ?_)
  show wpAny _ _ (if ((-1 : Int) == 0) = true then _ else _) _ _ s
  rw [if_neg (by decide)]
  refine wpAny_bind (slicePart_none (wpAny_bind (slicePart_none (wpAny_bind (wpAny_pure ?_)))))
  show wpAny _ _ (match Builtin.Slice.sliceAdjust none none (-1) (n : Int) with | (lo, hi) => pure (lo, (-1 : Int), Builtin.Slice.slicePlaces lo hi (-1))) _ _ s
  rw [rev_adjust]
  show wpAny _ _ (pure (((n : Int) - 1), (-1 : Int), Builtin.Slice.slicePlaces ((n : Int) - 1) (-1) (-1))) _ _ s
  rw [rev_places]
  exact wpAny_pure h
theorem getItem_tuple_rev {t sl : Addr} {items : Array Value} {vs : Value} {Q : Value → Shared → Prop} (ht : IsTup s.heap t items) (hs : s.heap.IsSliceOf sl .none .none vs) (ps : IsPart vs (some (-1)))
    (h : Q (.ref s.heap.objs.size) { s with heap := s.heap.push { cls := .type "tuple", data := .seq items.toList.reverse.toArray } })
    (hsz : items.size ≤ sizeLine) : wpAny (model prog w) A (getItem (.ref t) (.ref sl)) Q E s := by
  have room : sizeOk (.seq items.toList.reverse.toArray) := by
    show items.toList.reverse.toArray.size ≤ sizeLine
    simpa using hsz
  obtain ⟨ob, g1, g2, g3⟩ := id hs
  have tyS : s.TypeIs (.ref sl) "slice" := ⟨ob, g1, g2⟩
  unfold getItem
  try with_reducible refine wpAny_holding ?_
  first | refine wpAny_bind (wpAny_pure ?_) | skip
  refine wpAny_bind (wpAny_sequenceKey ht.typeIs (by decide) ?_)
  refine wpAny_bind (wpAny_callSpecial?_slot (name := Str.ofString "__getitem__") ht.typeIs PyProof.Rows.slot_tuple_getitem (wpAny_call_entry PyProof.Rows.slot_tuple_getitem ht.typeIs entry_tuple_getitem ?_ (args_tuple_getitem _ _)))
  show wpAny _ _ (Builtin.Tuple.tupleItemsOf (.ref t) >>= _) _ _ s
  refine wpAny_bind (tupleItemsOf_ ht ?_)
  refine wpAny_bind (wpAny_typeOf tyS ?_)
  rw [if_pos (by decide)]
  refine wpAny_bind (sliceApplied_rev hs ps ?_)
  have no1 : ¬ ((((items.size : Int) - 1 == 0) && ((-1 : Int) == 1) && (items.size == items.size)) = true) := by simp
  show wpAny _ _ (if ((((items.size : Int) - 1 == 0) && ((-1 : Int) == 1) && (items.size == items.size)) = true) then _ else _) _ _ s
  rw [if_neg no1, rev_pick]
  first
    | exact wpAny_bind (m := Builtin.Tuple.tupleExact _) (wpAny_newObj_type (wpAny_pure ⟨_, rfl, wpAny_pure h⟩) room)
    | exact wpAny_bind (m := Builtin.Tuple.tupleExact _) (wpAny_newObj_type (wpAny_bind (wpAny_pure (wpAny_pure ⟨_, rfl, wpAny_pure h⟩))) room)
    | exact wpAny_bind (wpAny_bind (m := Builtin.Tuple.tupleExact _) (wpAny_newObj_type (wpAny_pure (wpAny_pure ⟨_, rfl, wpAny_pure h⟩)) room))
    | exact wpAny_bind (wpAny_bind (m := Builtin.Tuple.tupleExact _) (wpAny_newObj_type (wpAny_pure ⟨_, rfl, wpAny_pure h⟩) room))
end
def tRevT (K : PySem.W.Frag) (te : TE) : TE := fun σ H Q => te σ H fun x H1 => ∃ a xs, x = .ref a ∧ ((SqL K H1 a xs ∧ ∀ p, H1 p = none → Q (.ref p) (upd H1 p (.lst xs.reverse))) ∨ (SqT K H1 a xs ∧ ∀ p, H1 p = none → Q (.ref p) (upd H1 p (.tup xs.reverse))))
section
variable {X : Cx}
theorem pe_revT {e : Expr} {te : TE} {k : Nat} {p1 p2 p3 pos : Pos} (he : PE X e te) : PE X (.Subscript e (.Slice none none (some (.UnaryOp .USub (.Constant (.int 1) k p1) p2)) p3) pos) (tRevT X.K te) := by
  refine ⟨fun pins s σ H Q I h => ?_⟩
  refine Subscript_ (thn (he.run pins s σ H _ I h) fun v s1 ⟨x, H1, I1, r1, q1⟩ => ?_)
  obtain ⟨a, xs, ex, q⟩ := q1
  subst ex
  cases r1
  have part : PO X (some (.UnaryOp .USub (.Constant (.int 1) k p1) p2)) (tPart (tUn (rU fun i => .int (-i)) (tC (.int 1)))) := po_some (pe_un un_neg pe_int)
  refine wpAny_Slice (thn (po_none.run pins s1 σ H1 (fun o H2 => o = none ∧ H2 = H1) I1 ⟨rfl, rfl⟩) fun vl s2 ⟨l, H2, I2, pl, el, e2⟩ => ?_)
  subst el e2
  refine thn (po_none.run pins s2 σ H2 (fun o H3 => o = none ∧ H3 = H2) I2 ⟨rfl, rfl⟩) fun vu s3 ⟨u, H3, I3, pu, eu, e3⟩ => ?_
  subst eu e3
  refine thn (part.run pins s3 σ H3 (fun o H4 => o = some (-1) ∧ H4 = H3) I3 ⟨1, rfl, -1, rfl, rfl, rfl⟩) fun vs s4 ⟨o, H4, I4, ps, eo, e4⟩ => ?_
  subst eo e4
  cases pl
  cases pu
  have I5 : Inv X pins σ H4 { s4 with heap := s4.heap.push { cls := .type "slice", data := .fields #[.none, .none, vs] } } := I4.kept (t' := s4.toks) fun b ob q => Heap.get?_push_of_some _ q
  show wpAny (model X.prog X.w) X.A (subscriptTail e (.Slice none none (some (.UnaryOp .USub (.Constant (.int 1) k p1) p2)) p3) (.ref a) (.ref s4.heap.objs.size)) (EP X pins σ Q) X.xe { s4 with heap := s4.heap.push { cls := .type "slice", data := .fields #[.none, .none, vs] } }
  rcases q with ⟨hx, q⟩ | ⟨hx, q⟩
  · obtain ⟨us, r, ht, hz⟩ := I5.list hx
    refine tail_any (ops := [.ref a, .ref s4.heap.objs.size]) ht.isList.typeIs (PySem.slot_list_getitem.lookup) ?_ (by with_unfolding_all rfl)
    refine wpAny_getItem_list_slice ht.isList (Heap.IsSliceOf.new _ _ _ vs) .none .none ps (by decide) ?_ (by rw [List.size_toArray, ← r.length]; exact hz)
    rw [PySem.W.krv_pick]
    refine ⟨.ref _, _, I5.laid (t' := s4.toks) (o := .lst xs.reverse) (fun b ob q => Heap.get?_push_of_some _ q) (Nat.le_refl _) ?_, rfl, q _ (I5.hok.fresh (Nat.le_refl _))⟩
    exact ⟨by rw [List.length_reverse]; exact hz, _, 0, r.reverse, Heap.get?_push_size _ rfl⟩
  · obtain ⟨us, r, ht, hz⟩ := I5.tuple hx
    refine tail_any (ops := [.ref a, .ref s4.heap.objs.size]) ht.typeIs (PyProof.Rows.slot_tuple_getitem.lookup) ?_ (by with_unfolding_all rfl)
    refine getItem_tuple_rev ht (Heap.IsSliceOf.new _ _ _ vs) ps ?_ (by rw [List.size_toArray, ← r.length]; exact hz)
    refine ⟨.ref _, _, I5.laid (t' := s4.toks) (o := .tup xs.reverse) (fun b ob q => Heap.get?_push_of_some _ q) (Nat.le_refl _) ?_, rfl, q _ (I5.hok.fresh (Nat.le_refl _))⟩
    exact ⟨by rw [List.length_reverse]; exact hz, _, r.reverse, IsTup.new _ _⟩
end
def fRev : D → Option Ret
  | .lst l => some (.ow (.l l.reverse))
  | .tup l => some (.sh (.tup l.reverse))
  | _ => none
def rRev (m : M D) : M Ret := M.bnd m fun d => lift (fRev d)
theorem Reps.reverse {K : PySem.W.Frag} {mg : MG} {G : Hp} {vs : List V} {l : List D} (r : Reps K mg G vs l) : Reps K mg G vs.reverse l.reverse := by
  refine ⟨by simp [r.1], fun i v d h1 h2 => ?_⟩
  have hi : i < vs.length := by simpa using (List.getElem?_eq_some_iff.mp h1).1
  rw [List.getElem?_reverse hi] at h1
  rw [List.getElem?_reverse (by rw [← r.1]; exact hi), ← r.1] at h2
  exact r.2 _ v d h1 h2
theorem dr_rev {I : CI} {W : WX} {a : Expr} {m : M D} {k : Nat} {p1 p2 p3 pos : Pos} (h : DE I W a m) : DR I W (.Subscript a (.Slice none none (some (.UnaryOp .USub (.Constant (.int 1) k p1) p2)) p3) pos) (rRev m) := by
  obtain ⟨t, h1, h2⟩ := h
  refine ⟨tRevT I.K t, fun X ok => by have := pe_revT (k := k) (p1 := p1) (p2 := p2) (p3 := p3) (pos := pos) (h1 X ok); rw [ok.hK] at this; exact this, fun p G σ H e Q S w => ?_⟩
  refine h2 p G σ H e _ S (Wp.mono (Wp.bnd w) fun d G1 H1 e1 s1 S1 w1 v r => ?_)
  obtain ⟨res, hf, k⟩ := lift_wp w1
  cases r <;> first | cases hf | skip
  · rename_i b vs l g1 g2 g3
    exact ⟨b, vs, rfl, .inr ⟨Same.seqT S1.sub g1, fun q n => by
      obtain ⟨s2, S2⟩ := S1.laid (o := .tup vs.reverse) n
      exact k _ _ s2 S2 _ (.mk_tup (.of upd_same) (Reps.mono s2 (Reps.reverse ⟨g2, g3⟩)))⟩⟩
  · rename_i b vs l g1 g2 g3
    exact ⟨b, vs, rfl, .inl ⟨LsT.sq (Same.ls S1.sub g1), fun q n => by
      obtain ⟨S2, gn, h0, hF, ap⟩ := S1.laidOw (o := .lst vs.reverse) n
      exact k G1 _ (Same.refl _) S2 q gn ⟨_, upd_same, Reps.reverse ⟨g2, g3⟩⟩ h0 hF ap⟩⟩
end DL
end

section
namespace DL
open PySem PySem.Spec L2
open PyProof.Rows hiding St

/-! ### the checks that a text's names ask for -/
def visK : Option NameKind → Bool
  | some .local => true
  | some .cell => true
  | some .free => true
  | _ => false
def locK : Option NameKind → Bool
  | some .local => true
  | some .cell => true
  | _ => false
def isL : Option NameKind → Bool
  | some .local => true
  | _ => false
def isG : Option NameKind → Bool
  | some .globalImplicit => true
  | _ => false
def atN (N : List Str) (i : Nat) (x : Str) : Bool := match N[i]? with
  | some y => decide (y = x)
  | none => false
theorem atN_ok {N : List Str} {i : Nat} {x : Str} (h : atN N i x = true) : N[i]? = some x := by
  unfold atN at h
  cases q : N[i]? with
  | none => rw [q] at h; cases h
  | some y => rw [q] at h; rw [of_decide_eq_true h]
theorem isL_ok {o : Option NameKind} (h : isL o = true) : o = some .local := by
  cases o with
  | none => cases h
  | some k => cases k <;> first | rfl | cases h
theorem isG_ok {o : Option NameKind} (h : isG o = true) : o = some .globalImplicit := by
  cases o with
  | none => cases h
  | some k => cases k <;> first | rfl | cases h
def varB (N : List Str) (sc : Scope) (i : Nat) (x : Str) : Bool := atN N i x && visK (sc.names.lookup x) && !(x == ("__debug__" : Str)) && !(x == ("__classdict__" : Str))
theorem vk {N : List Str} {sc : Scope} {i : Nat} {x : Str} (h : varB N sc i x = true) : VarOk N sc i x := by
  unfold varB at h
  simp only [Bool.and_eq_true, Bool.not_eq_true'] at h
  obtain ⟨⟨⟨h1, h2⟩, h3⟩, h4⟩ := h
  refine ⟨atN_ok h1, ?_, h3, h4⟩
  unfold L2.Vis
  cases q : sc.names.lookup x with
  | none => rw [q] at h2; cases h2
  | some k => rw [q] at h2; cases k <;> first | exact .inl rfl | exact .inr (.inl rfl) | exact .inr (.inr rfl) | cases h2
def setB (N : List Str) (sc : Scope) (fn : Str → Bool) (i : Nat) (x : Str) : Bool := atN N i x && locK (sc.names.lookup x) && (fn x || isL (sc.names.lookup x))
theorem sk {N : List Str} {sc : Scope} {fn : Str → Bool} {i : Nat} {x : Str} (h : setB N sc fn i x = true) : SetOk N sc fn i x := by
  unfold setB at h
  simp only [Bool.and_eq_true, Bool.or_eq_true] at h
  obtain ⟨⟨h1, h2⟩, h3⟩ := h
  refine ⟨atN_ok h1, ?_, h3.imp id isL_ok⟩
  unfold L2.Loc
  cases q : sc.names.lookup x with
  | none => rw [q] at h2; cases h2
  | some k => rw [q] at h2; cases k <;> first | exact .inl rfl | exact .inr rfl | cases h2
def fsB (N ps : List Str) (sc : Scope) : Bool := decide (sc.kind = .function) && !sc.isCoroutine && !sc.isGenerator && decide N.Nodup && decide (N.take ps.length = ps) && (ps.all fun x => locK (sc.names.lookup x)) && sc.names.all fun y => decide (y.2 ≠ .free)
theorem fsk {N ps : List Str} {sc : Scope} (h : fsB N ps sc = true) : FnScope N ps sc := by
  unfold fsB at h
  simp only [Bool.and_eq_true, Bool.not_eq_true', decide_eq_true_eq, List.all_eq_true] at h
  obtain ⟨⟨⟨⟨⟨⟨h1, h2⟩, h3⟩, h4⟩, h5⟩, h6⟩, h7⟩ := h
  refine ⟨h1, h2, h3, h4, h5, fun x hx => ?_, h7⟩
  have := h6 x hx
  cases q : sc.names.lookup x with
  | none => rw [q] at this; cases this
  | some k => rw [q] at this; cases k <;> first | exact .inl rfl | exact .inr rfl | cases this
def glB (sc : Scope) (x : Str) : Bool := isG (sc.names.lookup x)
/-! ### the built-ins that a text may name -/
def bnames : List Str := ["len", "abs", "sum", "all", "any", "max", "min", "sorted", "int", "str", "list", "tuple", "bool", "isinstance", "range", "zip", "enumerate", "set", "dict"]
def Bs (mg : MG) : Prop := ∀ x ∈ bnames, mg x = none
section
variable {I : CI} {W : WX} {a b tg : Expr} {es : List Expr} {pos p0 p1 p2 p3 tpos apos : Pos} {m : M D} {mp : M (List Ar)} {kk : Nat} {elts : List Expr}
theorem c_len (B : Bs I.mg) (g : glB I.sc "len" = true) (h : DP I W (a :: es) mp) : DR I W (.Call (.Name "len" p0) (a :: es) [] pos) (rFn (f1 gLen) mp) := dr_fnB fn_len (isG_ok g) (B _ (by simp [bnames])) boot_len h (by decide) (by decide)
theorem c_abs (B : Bs I.mg) (g : glB I.sc "abs" = true) (h : DP I W (a :: es) mp) : DR I W (.Call (.Name "abs" p0) (a :: es) [] pos) (rFn (f1 gAbs) mp) := dr_fnB fn_abs (isG_ok g) (B _ (by simp [bnames])) (by decide +kernel) h (by decide) (by decide)
theorem c_sum (B : Bs I.mg) (g : glB I.sc "sum" = true) (h : DP I W (a :: es) mp) : DR I W (.Call (.Name "sum" p0) (a :: es) [] pos) (rFn (f1 gSum) mp) := dr_fnB fn_sum (isG_ok g) (B _ (by simp [bnames])) (by decide +kernel) h (by decide) (by decide)
theorem c_all (B : Bs I.mg) (g : glB I.sc "all" = true) (h : DP I W (a :: es) mp) : DR I W (.Call (.Name "all" p0) (a :: es) [] pos) (rFn (f1 gAll) mp) := dr_fnB fn_all (isG_ok g) (B _ (by simp [bnames])) (by decide +kernel) h (by decide) (by decide)
theorem c_any (B : Bs I.mg) (g : glB I.sc "any" = true) (h : DP I W (a :: es) mp) : DR I W (.Call (.Name "any" p0) (a :: es) [] pos) (rFn (f1 gAny) mp) := dr_fnB fn_any (isG_ok g) (B _ (by simp [bnames])) (by decide +kernel) h (by decide) (by decide)
theorem c_max (B : Bs I.mg) (g : glB I.sc "max" = true) (h : DP I W (a :: es) mp) : DR I W (.Call (.Name "max" p0) (a :: es) [] pos) (rFn fMax mp) := dr_fnB fn_max (isG_ok g) (B _ (by simp [bnames])) (by decide +kernel) h (by decide) (by decide)
theorem c_min (B : Bs I.mg) (g : glB I.sc "min" = true) (h : DP I W (a :: es) mp) : DR I W (.Call (.Name "min" p0) (a :: es) [] pos) (rFn fMin mp) := dr_fnB fn_min (isG_ok g) (B _ (by simp [bnames])) (by decide +kernel) h (by decide) (by decide)
theorem c_sorted (B : Bs I.mg) (g : glB I.sc "sorted" = true) (h : DP I W (a :: es) mp) : DR I W (.Call (.Name "sorted" p0) (a :: es) [] pos) (rFn (f1 gSorted) mp) := dr_fnB fn_sorted (isG_ok g) (B _ (by simp [bnames])) (by decide +kernel) h (by decide) (by decide)
theorem c_int (B : Bs I.mg) (g : glB I.sc "int" = true) (h : DP I W (a :: es) mp) : DR I W (.Call (.Name "int" p0) (a :: es) [] pos) (rFn (f1 gInt) mp) := dr_fnT fn_int (isG_ok g) (B _ (by simp [bnames])) (by decide +kernel) h (by decide) (by decide)
theorem c_str (B : Bs I.mg) (g : glB I.sc "str" = true) (h : DP I W (a :: es) mp) : DR I W (.Call (.Name "str" p0) (a :: es) [] pos) (rFn (f1 gStr) mp) := dr_fnT fn_str (isG_ok g) (B _ (by simp [bnames])) (by decide +kernel) h (by decide) (by decide)
theorem c_list (B : Bs I.mg) (g : glB I.sc "list" = true) (h : DP I W (a :: es) mp) : DR I W (.Call (.Name "list" p0) (a :: es) [] pos) (rFn (f1 gList) mp) := dr_fnT fn_list (isG_ok g) (B _ (by simp [bnames])) (by decide +kernel) h (by decide) (by decide)
theorem c_tuple (B : Bs I.mg) (g : glB I.sc "tuple" = true) (h : DP I W (a :: es) mp) : DR I W (.Call (.Name "tuple" p0) (a :: es) [] pos) (rFn (f1 gTuple) mp) := dr_fnT fn_tuple (isG_ok g) (B _ (by simp [bnames])) (by decide +kernel) h (by decide) (by decide)
theorem c_lenV {x : Str} {i : Nat} (B : Bs I.mg) (g : glB I.sc "len" = true) (h : varB I.N I.sc i x = true) : DR I W (.Call (.Name "len" p0) [.Name x p1] [] pos) (eLenV i) := dr_lenV (isG_ok g) (B _ (by simp [bnames])) (vk h)
/-- isinstance by a type's name -/
theorem c_isi {T : String} (T' : Str) (B : Bs I.mg) (g : glB I.sc "isinstance" = true) (g' : glB I.sc T' = true) (hb : T' ∈ bnames) (hv : bootBuiltins T' = some (.type T)) (n1 : T' ≠ "__name__") (n2 : (T' == ("__debug__" : Str)) = false) (h : DE I W a m) (n : nst a = true) :
    DR I W (.Call (.Name "isinstance" p0) [a, .Name T' p1] [] pos) (rOne m (isiD T)) := dr_isi (isG_ok g) (B _ (by simp [bnames])) (isG_ok g') (B _ hb) hv n1 n2 h n
theorem c_isi_int (B : Bs I.mg) (g : glB I.sc "isinstance" = true) (g' : glB I.sc "int" = true) (h : DE I W a m) (n : nst a = true) : DR I W (.Call (.Name "isinstance" p0) [a, .Name "int" p1] [] pos) (rOne m (isiD "int")) := c_isi "int" B g g' (by simp [bnames]) (by decide +kernel) (by decide) (by decide) h n
theorem c_isi_bool (B : Bs I.mg) (g : glB I.sc "isinstance" = true) (g' : glB I.sc "bool" = true) (h : DE I W a m) (n : nst a = true) : DR I W (.Call (.Name "isinstance" p0) [a, .Name "bool" p1] [] pos) (rOne m (isiD "bool")) := c_isi "bool" B g g' (by simp [bnames]) (by decide +kernel) (by decide) (by decide) h n
theorem c_isi_str (B : Bs I.mg) (g : glB I.sc "isinstance" = true) (g' : glB I.sc "str" = true) (h : DE I W a m) (n : nst a = true) : DR I W (.Call (.Name "isinstance" p0) [a, .Name "str" p1] [] pos) (rOne m (isiD "str")) := c_isi "str" B g g' (by simp [bnames]) (by decide +kernel) (by decide) (by decide) h n
theorem c_isi_list (B : Bs I.mg) (g : glB I.sc "isinstance" = true) (g' : glB I.sc "list" = true) (h : DE I W a m) (n : nst a = true) : DR I W (.Call (.Name "isinstance" p0) [a, .Name "list" p1] [] pos) (rOne m (isiD "list")) := c_isi "list" B g g' (by simp [bnames]) (by decide +kernel) (by decide) (by decide) h n
theorem c_isi_tuple (B : Bs I.mg) (g : glB I.sc "isinstance" = true) (g' : glB I.sc "tuple" = true) (h : DE I W a m) (n : nst a = true) : DR I W (.Call (.Name "isinstance" p0) [a, .Name "tuple" p1] [] pos) (rOne m (isiD "tuple")) := c_isi "tuple" B g g' (by simp [bnames]) (by decide +kernel) (by decide) (by decide) h n
theorem c_isi_dict (B : Bs I.mg) (g : glB I.sc "isinstance" = true) (g' : glB I.sc "dict" = true) (h : DE I W a m) (n : nst a = true) : DR I W (.Call (.Name "isinstance" p0) [a, .Name "dict" p1] [] pos) (rOne m (isiD "dict")) := c_isi "dict" B g g' (by simp [bnames]) (by decide +kernel) (by decide) (by decide) h n
theorem c_isi_lt (B : Bs I.mg) (g : glB I.sc "isinstance" = true) (g' : glB I.sc "list" = true) (g2 : glB I.sc "tuple" = true) (h : DE I W a m) (n : nst a = true) : DR I W (.Call (.Name "isinstance" p0) [a, .Tuple [.Name "list" p1, .Name "tuple" p2] kk p3] [] pos) (rOne m (isiD2 "list" "tuple")) :=
  dr_isi2 (isG_ok g) (B _ (by simp [bnames])) (isG_ok g') (B _ (by simp [bnames])) (by decide +kernel) (by decide) (by decide) (isG_ok g2) (B _ (by simp [bnames])) (by decide +kernel) (by decide) (by decide) h n
theorem c_isi_tl (B : Bs I.mg) (g : glB I.sc "isinstance" = true) (g' : glB I.sc "tuple" = true) (g2 : glB I.sc "list" = true) (h : DE I W a m) (n : nst a = true) : DR I W (.Call (.Name "isinstance" p0) [a, .Tuple [.Name "tuple" p1, .Name "list" p2] kk p3] [] pos) (rOne m (isiD2 "tuple" "list")) :=
  dr_isi2 (isG_ok g) (B _ (by simp [bnames])) (isG_ok g') (B _ (by simp [bnames])) (by decide +kernel) (by decide) (by decide) (isG_ok g2) (B _ (by simp [bnames])) (by decide +kernel) (by decide) (by decide) h n
theorem c_rng1 (B : Bs I.mg) (g : glB I.sc "range" = true) (h : DP I W [a] mp) : DI I W tg (.Call (.Name "range" p0) [a] [] pos) (iRng1M mp) := di_rng1 (isG_ok g) (B _ (by simp [bnames])) h
theorem c_rng2 (B : Bs I.mg) (g : glB I.sc "range" = true) (h : DP I W [a, b] mp) : DI I W tg (.Call (.Name "range" p0) [a, b] [] pos) (iRng2M mp) := di_rng2 (isG_ok g) (B _ (by simp [bnames])) h
theorem c_zip (B : Bs I.mg) (g : glB I.sc "zip" = true) (h : DP I W [a, b] mp) : DI I W (.Tuple elts kk tpos) (.Call (.Name "zip" p0) [a, b] [] pos) (iZipM mp) := di_zip (isG_ok g) (B _ (by simp [bnames])) h
theorem c_enum (B : Bs I.mg) (g : glB I.sc "enumerate" = true) (h : DP I W [a] mp) : DI I W (.Tuple elts kk tpos) (.Call (.Name "enumerate" p0) [a] [] pos) (iEnumM mp) := di_enum (isG_ok g) (B _ (by simp [bnames])) h
def nodbg (x : Str) : Bool := !(x == ("__debug__" : Str))
theorem c_call {x : Str} {st : Stmt} {ps : List Str} {sem : FS} {k : Nat} (F : DF I.P I.w I.K I.mg I.base k x st ps sem) (hk : Nat.ble k I.k = true) (g : (glB I.sc x && nodbg x) = true) (h : DP I W (a :: es) mp) : DR I W (.Call (.Name x p0) (a :: es) [] pos) (rCall sem mp) := by
  simp only [Bool.and_eq_true] at g
  exact dr_call F (Nat.le_of_ble_eq_true hk) (isG_ok g.1) (by have := g.2; unfold nodbg at this; simpa using this) h
theorem c_call0 {x : Str} {st : Stmt} {ps : List Str} {sem : FS} {k : Nat} (F : DF I.P I.w I.K I.mg I.base k x st ps sem) (hk : Nat.ble k I.k = true) (g : (glB I.sc x && nodbg x) = true) : DR I W (.Call (.Name x p0) [] [] pos) (callS sem []) := by
  simp only [Bool.and_eq_true] at g
  exact dr_call0 F (Nat.le_of_ble_eq_true hk) (isG_ok g.1) (by have := g.2; unfold nodbg at this; simpa using this)
theorem c_callK {x : Str} {st : Stmt} {ps ks : List Str} {sem : FS} {k n : Nat} {perm : List Nat} {mk : M (List Ar)} {kws : List Keyword} (F : DF I.P I.w I.K I.mg I.base k x st ps sem) (hk : Nat.ble k I.k = true) (g : (glB I.sc x && nodbg x) = true)
    (ha : DP I W (a :: es) mp) (hkw : DK I W kws mk) (hb : KwOk x st ps ks n perm) (hall : ∀ env : Env, (backToKw pos (keywordEach kws env)).all (·.1.isSome) = true) (hks : ∀ env : Env, (backToKw pos (keywordEach kws env)).filterMap (·.1) = ks)
    (hno : ∀ env : Env, (backToKw pos (keywordEach kws env)).any (·.1.isNone) = false) : DR I W (.Call (.Name x p0) (a :: es) kws pos) (rCallK sem n ks.length perm mp mk) := by
  simp only [Bool.and_eq_true] at g
  exact dr_callK F (Nat.le_of_ble_eq_true hk) (isG_ok g.1) (by have := g.2; unfold nodbg at this; simpa using this) ha hkw hb hall hks hno
theorem c_callK0 {x : Str} {st : Stmt} {ps ks : List Str} {sem : FS} {k : Nat} {perm : List Nat} {mk : M (List Ar)} {kws : List Keyword} (F : DF I.P I.w I.K I.mg I.base k x st ps sem) (hk : Nat.ble k I.k = true) (g : (glB I.sc x && nodbg x) = true)
    (hkw : DK I W kws mk) (hb : KwOk x st ps ks 0 perm) (hall : ∀ env : Env, (backToKw pos (keywordEach kws env)).all (·.1.isSome) = true) (hks : ∀ env : Env, (backToKw pos (keywordEach kws env)).filterMap (·.1) = ks)
    (hno : ∀ env : Env, (backToKw pos (keywordEach kws env)).any (·.1.isNone) = false) : DR I W (.Call (.Name x p0) [] kws pos) (rCallK sem 0 ks.length perm aNil mk) := by
  simp only [Bool.and_eq_true] at g
  exact dr_callK0 F (Nat.le_of_ble_eq_true hk) (isG_ok g.1) (by have := g.2; unfold nodbg at this; simpa using this) hkw hb hall hks hno
end
/-- what the module's head says of a def -/
def FD (K : PySem.W.Frag) (mg : MG) (x : Str) (st : Stmt) : Prop := ∃ f fd, FunD K x x (defArgs st) (defBody st) (defScope st) [] [] f fd ∧ mg x = some (.ref f)
theorem df_of {P : Program} {w : World} {K : PySem.W.Frag} {mg : MG} {base : Heap} {k : Nat} {x : Str} {st : Stmt} {N ps : List Str} {m : M Fl} (F : FD K mg x st) (S : fsB N ps (defScope st) = true) (hp : Nat.ble ps.length N.length = true)
    (hb : ∀ (kV doc pm : Value) (an : Option Addr) (cdv ct : Value) (us : List Value), us.length = ps.length → bindArgs (PySem.W.fnOf x x (defArgs st) (defBody st) (defScope st) .none kV doc pm an cdv ct) ⟨us, []⟩ = pure (ps.zip us))
    (body : ∀ W : WX, DSs ⟨P, w, K, mg, base, N, defScope st, fun _ => true, k⟩ W (defBody st) m) : DF P w K mg base (k + 1) x st ps (sFun N.length ps.length m) := by
  obtain ⟨f, fd, F1, F2⟩ := F
  exact df_mk F1 F2 (fsk S) (Nat.le_of_ble_eq_true hp) hb body
theorem dss_no {I : CI} {W : WX} {sts : List Stmt} : DSs I W sts sNever := by
  cases sts with
  | nil => exact ⟨tNext, fun _ _ => pss_nil, fun p G σ H e E S w => w.elim⟩
  | cons s r =>
    obtain ⟨t, h1, h2⟩ := (ds_never : DS I W s sNever)
    obtain ⟨u, h3, h4⟩ := (dss_no : DSs I W r sNever)
    exact ⟨_, fun X ok => pss_cons (h1 X ok) (h3 X ok), fun p G σ H e E S w => w.elim⟩
termination_by sts.length
/-- the fuel of a while -/
def FUEL : Nat := 100000
/-- a body's meaning, by itself -/
abbrev CIof (P : Program) (w : World) (K : PySem.W.Frag) (mg : MG) (base : Heap) (N : List Str) (st : Stmt) (k : Nat) : CI := ⟨P, w, K, mg, base, N, defScope st, fun _ => true, k⟩
end DL
namespace DL
theorem eC_nx {d : D} : ∀ e c fs e', eC d e ≠ .ex c fs e' := fun _ _ _ _ z => by cases z
theorem eVar_nx {i : Nat} : ∀ e c fs e', eVar i e ≠ .ex c fs e' := fun e _ _ _ z => by
  unfold eVar at z
  cases q : e[i]? with
  | none => rw [q] at z; cases z
  | some s => rw [q] at z; cases s <;> cases z
end DL
namespace DL
theorem ble_lv {a b n : Nat} (h : Nat.ble a b = true) : Nat.ble a (b + n + 1) = true := Nat.ble_eq_true_of_le (by have := Nat.le_of_ble_eq_true h; omega)
theorem ble_self (a : Nat) : Nat.ble a a = true := Nat.ble_eq_true_of_le (Nat.le_refl a)
end DL
end

section
namespace DL
open PySem PySem.Spec L2
open PyProof.Rows hiding St

/-! ### the head's facts -/
section
variable {K : PySem.W.Frag} {h : Heap} {mg : MG} {fa : List He.Fa} {fn : List He.DefD}
theorem says_fact (c : He.SaysD fa fn K) {f : He.Fa} (hf : f ∈ fa) : f.ok K = true := by
  obtain ⟨i, hi, e⟩ := List.mem_iff_getElem.mp hf
  exact c.fact i (f := f) (by rw [List.getElem?_eq_getElem hi, e])
theorem bs_of (X : K.In h) (G : h.Ns mainGlobals mg) (c : He.SaysD (bnames.map He.Fa.free ++ fa) fn K) : Bs mg := fun x hx =>
  He.free_ok X G (says_fact c (List.mem_append_left _ (List.mem_map_of_mem hx)))
/-- a def without defaults, as a datum -/
def dd (x : Str) (st : Stmt) : He.DefD := ⟨(x, none), x, x, defArgs st, defBody st, defScope st, [], []⟩
theorem fd_of (X : K.In h) (G : h.Ns mainGlobals mg) (c : He.SaysD fa fn K) {x : Str} {st : Stmt} (i : Nat) (hi : fn[i]? = some (dd x st)) (hf : He.Fa.glo x ∈ fa) : FD K mg x st := by
  obtain ⟨fd, F⟩ := c.def_ i (d := dd x st) hi
  exact ⟨_, fd, F, He.glo_ok X G (says_fact c hf)⟩
end
/-! ### the law's end -/
theorem cx_end {P : Program} {w : World} {H : Hp} {s : Shared} {u : Value} {s' : Shared} (h : L2.CX P w [] H s (fun _ _ _ => False) u s') : False := by
  obtain ⟨_, _, _, _, _, _, _, _, _, _, _, _, z⟩ := h
  exact z
/-- the script, as the law's def gets it -/
theorem script_rep {K : PySem.W.Frag} {mg : MG} {H : Hp} {h : Heap} {a : Addr} {vs : List Value} {ns : List Int} (KX : K.In h) (ho : h.get? a = some { cls := .type "list", data := .seq vs.toArray }) (hS : SqL K H a (ns.map V.int)) : Rep K mg H (.ref a) (.lst (ns.map .int)) := by
  refine .mk_lst ?_ (reps_ints ns)
  rcases hS with h1 | ⟨o, its, n, k1, k2, k3, k4, k5, k6⟩
  · exact .inl h1
  · have e := KX _ _ k1
    rw [ho] at e
    cases e
    cases k4
    exact .inr ⟨vs, _, k1, by simpa using k5, by simpa using k6⟩
theorem walk_D {l : PySem.W.OpenLaw} {n k : Nat} {q : Program} {loose : List Str} {XP : (Str → Option Value) → Heap → Prop} {YP : World → Heap → Prop} {d : DefRec} {x nm : Str} {st : Stmt} {sem : FS}
    (hn : l.most = some n) (hn2 : n ≤ sizeLine) (hdf : d.params.defaults = []) (hr : Room k callerA) (hnm : d.name = nm)
    (hb : ∀ (kV doc pm : Value) (an : Option Addr) (cdv ct : Value) (us : List Value), us.length = [x].length → bindArgs (PySem.W.fnOf nm nm (defArgs st) (defBody st) (defScope st) .none kV doc pm an cdv ct) ⟨us, []⟩ = pure ([x].zip us))
    (F : ∀ (w : World) (mg : MG) (h : Heap), YP w h → h.Ns mainGlobals mg → ∃ K : PySem.W.Frag, K.In h ∧ ∀ base : Heap, DF l.prog w K mg base k nm st [x] sem)
    (hsem : ∀ ns : List Int, ns.length ≤ n → ∃ o, sem [.sh (.lst (ns.map .int))] = .ok (.sh (.bl true)) o) :
    PySem.W.WalkO q loose XP YP l.row.toRowW d [] (fun f vs => PySem.call f vs) := by
  refine Att.attach_call hn hdf fun w s₀ s₁ mg mb fa o pm cd doc a vs ns G Y ho hd hcd hmg hobj hints hlen hg => ?_
  obtain ⟨K, KX, D⟩ := F w mg _ Y G.T.g
  rw [hnm] at hmg
  obtain ⟨f, fd, _, F2, F3, _⟩ := (D s₁.heap).ex
  rw [hmg] at F2
  cases F2
  have F1 : ∀ base : Heap, FnOk l.prog w K mg base (L2.CX l.prog w) k fa fd [x] (spF K mg sem) := fun base => by
    obtain ⟨f', fd', g0, g2, g3, _⟩ := (D base).ex
    rw [hmg] at g2
    cases g2
    obtain ⟨_, _, _, _, _, _, _, _, _, _, _, lk, _⟩ := F3.ex
    obtain ⟨_, _, _, _, _, _, _, _, _, _, _, lk', _⟩ := g3.ex
    rw [lk] at lk'
    cases lk'
    exact g0
  have b := FunD.bindsA (ps := [x]) F3 hb
  refine law_call KX G.T.g G.T.b G.T.builtins G.T.nolimit hg hobj hints (Nat.le_trans hlen hn2) hr (fun base _ _ => F1 base) (fun s u => b s [u] rfl) (fun H _ hS => ?_) fun H e s' z => cx_end z
  obtain ⟨out, hout⟩ := hsem ns hlen
  have R : Rep K mg H (.ref a) (.lst (ns.map .int)) := script_rep KX hobj hS
  refine ⟨fun _ => 0, H, [.sh (.lst (ns.map .int))], ⟨Same.refl _, rfl, fun j d' q => ?_, fun j x q => ?_, fun i j x y q => ?_, fun j x q => ?_⟩, ?_⟩
  · cases j with
    | zero => simp at q; subst q; exact ⟨_, rfl, R⟩
    | succ j => simp at q
  · cases j with
    | zero => simp at q
    | succ j => simp at q
  · cases i with
    | zero => simp at q
    | succ i => simp at q
  · cases j with
    | zero => simp at q
    | succ j => simp at q
  · rw [hout]
    intro G' H' _ v rv
    cases rv
    rfl
end DL
end

section
namespace DL
open PySem PySem.Spec L2
open PyProof.Rows hiding St

/-! ### meanings, evaluated -/
section
variable {α β : Type} {e e1 e2 e3 : En} {x y z d : D} {r r' : Ret} {k k' : Bool}
theorem ev_bnd {m : M α} {f : α → M β} {a : α} (h : m e = .ok a e1) : M.bnd m f e = f a e1 := by unfold M.bnd; rw [h]
theorem ev_mD {m : M Ret} (h : m e = .ok (.sh d) e1) : mD m e = .ok d e1 := ev_bnd h
theorem ev_mDo {m : M Ret} {c : Ct} (h : m e = .ok (.ow c) e1) : mD m e = .ok c.d e1 := ev_bnd h
theorem ev_mDl {m : M Ret} {l : List D} (h : m e = .ok (.ow (.l l)) e1) : mD m e = .ok (.lst l) e1 := ev_bnd h
theorem ev_mR {m : M D} (h : m e = .ok d e1) : mR m e = .ok (.sh d) e1 := ev_bnd h
theorem ev_bin {f : D → D → Option Ret} {ma mb : M D} (ha : ma e = .ok x e1) (hb : mb e1 = .ok y e2) (hf : f x y = some r) : rBin f ma mb e = .ok r e2 := by
  unfold rBin; rw [ev_bnd ha, ev_bnd hb, hf]; rfl
theorem ev_cmp {f : D → D → Option Ret} {ma mb : M D} (ha : ma e = .ok x e1) (hb : mb e1 = .ok y e2) (hf : f x y = some (.sh (.bl k))) : tCmp f ma mb e = .ok k e2 := by
  unfold tCmp; rw [ev_bnd (ev_bin ha hb hf)]; rfl
theorem ev_chain1 {f g : D → D → Option Ret} {ma mb mc : M D} (ha : ma e = .ok x e1) (hb : mb e1 = .ok y e2) (hf : f x y = some (.sh (.bl true))) (hc : mc e2 = .ok z e3) (hg : g y z = some r) : rChain f g ma mb mc e = .ok r e3 := by
  unfold rChain; rw [ev_bnd ha, ev_bnd hb, hf]
  show M.bnd mc (fun z => lift (g y z)) e2 = _
  rw [ev_bnd hc, hg]; rfl
theorem ev_chain0 {f g : D → D → Option Ret} {ma mb mc : M D} (ha : ma e = .ok x e1) (hb : mb e1 = .ok y e2) (hf : f x y = some (.sh (.bl false))) : rChain f g ma mb mc e = .ok (.sh (.bl false)) e2 := by
  unfold rChain; rw [ev_bnd ha, ev_bnd hb, hf]; rfl
theorem ev_tchain1 {f g : D → D → Option Ret} {ma mb mc : M D} (ha : ma e = .ok x e1) (hb : mb e1 = .ok y e2) (hf : f x y = some (.sh (.bl true))) (hc : mc e2 = .ok z e3) (hg : g y z = some (.sh (.bl k))) : M.bnd (rChain f g ma mb mc) (fun r => lift (blOf r)) e = .ok k e3 := by
  rw [ev_bnd (ev_chain1 ha hb hf hc hg)]; rfl
theorem ev_tru {m : M D} (h : m e = .ok d e1) (hd : dTru d = some k) : tTru m e = .ok k e1 := by unfold tTru; rw [ev_bnd h, hd]; rfl
theorem ev_and1 {m n : M Bool} (h : m e = .ok true e1) (h' : n e1 = .ok k e2) : tAndM m n e = .ok k e2 := by unfold tAndM; rw [ev_bnd h]; exact h'
theorem ev_and0 {m n : M Bool} (h : m e = .ok false e1) : tAndM m n e = .ok false e1 := by unfold tAndM; rw [ev_bnd h]; rfl
theorem ev_or1 {m n : M Bool} (h : m e = .ok true e1) : tOrM m n e = .ok true e1 := by unfold tOrM; rw [ev_bnd h]; rfl
theorem ev_or0 {m n : M Bool} (h : m e = .ok false e1) (h' : n e1 = .ok k e2) : tOrM m n e = .ok k e2 := by unfold tOrM; rw [ev_bnd h]; exact h'
theorem ev_not {m : M Bool} (h : m e = .ok k e1) : tNotM m e = .ok (!k) e1 := by unfold tNotM; rw [ev_bnd h]; rfl
theorem ev_eAnd1 {m n : M D} (h : m e = .ok x e1) (hx : dTru x = some true) (h' : n e1 = .ok y e2) : eAnd m n e = .ok y e2 := by unfold eAnd; rw [ev_bnd h, hx]; exact h'
theorem ev_eAnd0 {m n : M D} (h : m e = .ok x e1) (hx : dTru x = some false) : eAnd m n e = .ok x e1 := by unfold eAnd; rw [ev_bnd h, hx]; rfl
theorem ev_eOr1 {m n : M D} (h : m e = .ok x e1) (hx : dTru x = some true) : eOr m n e = .ok x e1 := by unfold eOr; rw [ev_bnd h, hx]; rfl
theorem ev_eOr0 {m n : M D} (h : m e = .ok x e1) (hx : dTru x = some false) (h' : n e1 = .ok y e2) : eOr m n e = .ok y e2 := by unfold eOr; rw [ev_bnd h, hx]; exact h'
theorem ev_eNot {m : M D} (h : m e = .ok x e1) (hx : dTru x = some k) : eNot m e = .ok (.bl (!k)) e1 := by unfold eNot; rw [ev_bnd h, hx]; rfl
theorem ev_rIf {c : M Bool} {m n : M Ret} (h : c e = .ok k e1) : rIf c m n e = (if k = true then m else n) e1 := by unfold rIf; rw [ev_bnd h]
theorem ev_rIf1 {c : M Bool} {m n : M Ret} (h : c e = .ok true e1) : rIf c m n e = m e1 := by rw [ev_rIf h]; rfl
theorem ev_rIf0 {c : M Bool} {m n : M Ret} (h : c e = .ok false e1) : rIf c m n e = n e1 := by rw [ev_rIf h]; rfl
theorem ev_un {g : Int → Int} {m : M D} {i : Int} (h : m e = .ok (.int i) e1) : eUn g m e = .ok (.int (g i)) e1 := by unfold eUn; rw [ev_bnd h]; rfl
/-! arguments -/
theorem ev_aD {m : M D} (h : m e = .ok d e1) : aD m e = .ok (.d d) e1 := by unfold aD; rw [ev_bnd h]; rfl
theorem ev_cons {ma : M Ar} {mr : M (List Ar)} {a : Ar} {as : List Ar} (h : ma e = .ok a e1) (h' : mr e1 = .ok as e2) : aCons ma mr e = .ok (a :: as) e2 := by unfold aCons; rw [ev_bnd h, ev_bnd h']; rfl
theorem ev_d1 {m : M D} (h : m e = .ok x e1) : aCons (aD m) aNil e = .ok [.d x] e1 := ev_cons (ev_aD h) rfl
theorem ev_d2 {m n : M D} (h : m e = .ok x e1) (h' : n e1 = .ok y e2) : aCons (aD m) (aCons (aD n) aNil) e = .ok [.d x, .d y] e2 := ev_cons (ev_aD h) (ev_d1 h')
theorem ev_d3 {m n o : M D} (h : m e = .ok x e1) (h' : n e1 = .ok y e2) (h'' : o e2 = .ok z e3) : aCons (aD m) (aCons (aD n) (aCons (aD o) aNil)) e = .ok [.d x, .d y, .d z] e3 := ev_cons (ev_aD h) (ev_d2 h' h'')
theorem ev_vals {m : M (List Ar)} {as : List Ar} {ds : List D} (h : m e = .ok as e1) (hd : dVals as = some ds) : aVals m e = .ok ds e1 := by unfold aVals; rw [ev_bnd h, hd]; rfl
theorem ev_tup {m : M (List Ar)} {as : List Ar} {ds : List D} (h : m e = .ok as e1) (hd : dVals as = some ds) (hl : ds.length ≤ LIM) : eTup m e = .ok (.tup ds) e1 := by unfold eTup; rw [ev_bnd (ev_vals h hd), if_pos hl]; rfl
theorem ev_lst {m : M (List Ar)} {as : List Ar} {ds : List D} (h : m e = .ok as e1) (hd : dVals as = some ds) (hl : ds.length ≤ LIM) : rLst m e = .ok (.ow (.l ds)) e1 := by unfold rLst; rw [ev_bnd (ev_vals h hd), if_pos hl]; rfl
theorem ev_fn {f : List D → Option Ret} {m : M (List Ar)} {as : List Ar} {ds : List D} (h : m e = .ok as e1) (hd : dVals as = some ds) (hf : f ds = some r) : rFn f m e = .ok r e1 := by unfold rFn; rw [ev_bnd (ev_vals h hd), hf]; rfl
theorem ev_fn1 {f : List D → Option Ret} {m : M D} (h : m e = .ok x e1) (hf : f [x] = some r) : rFn f (aCons (aD m) aNil) e = .ok r e1 := ev_fn (ev_d1 h) rfl hf
theorem ev_one {f : D → Option Ret} {m : M D} (h : m e = .ok x e1) (hf : f x = some r) : rOne m f e = .ok r e1 := by unfold rOne; rw [ev_bnd h, hf]; rfl
/-! calls -/
theorem ev_call {sem : FS} {ma : M (List Ar)} {as : List Ar} {args outs : List Sl} (h : ma e = .ok as e1) (ha : argsOf e1 as = some args) (hn : (ixs as).Nodup) (hs : sem args = .ok r outs) : rCall sem ma e = .ok r (putBack as outs e1) := by
  unfold rCall; rw [ev_bnd h]; unfold callS; rw [ha]; dsimp only; rw [if_pos hn, hs]
theorem ev_callP {sem : FS} {ma : M (List Ar)} {as : List Ar} {args outs : List Sl} (h : ma e = .ok as e1) (ha : argsOf e1 as = some args) (hn : (ixs as).Nodup) (hs : sem args = .ok r outs) (hp : putBack as outs e1 = e2) : rCall sem ma e = .ok r e2 := by
  rw [ev_call h ha hn hs, hp]
theorem ev_call1 {sem : FS} {m : M D} {outs : List Sl} (h : m e = .ok x e1) (hs : sem [.sh x] = .ok r outs) : rCall sem (aCons (aD m) aNil) e = .ok r e1 := ev_call (ev_d1 h) rfl List.nodup_nil hs
theorem ev_call2 {sem : FS} {m n : M D} {outs : List Sl} (h : m e = .ok x e1) (h' : n e1 = .ok y e2) (hs : sem [.sh x, .sh y] = .ok r outs) : rCall sem (aCons (aD m) (aCons (aD n) aNil)) e = .ok r e2 := ev_call (ev_d2 h h') rfl List.nodup_nil hs
theorem ev_call3 {sem : FS} {m n o : M D} {outs : List Sl} (h : m e = .ok x e1) (h' : n e1 = .ok y e2) (h'' : o e2 = .ok z e3) (hs : sem [.sh x, .sh y, .sh z] = .ok r outs) : rCall sem (aCons (aD m) (aCons (aD n) (aCons (aD o) aNil))) e = .ok r e3 := ev_call (ev_d3 h h' h'') rfl List.nodup_nil hs
theorem ev_kw {sem : FS} {n nk : Nat} {perm : List Nat} {ma mk : M (List Ar)} {as ks : List Ar} {args outs : List Sl} (h : ma e = .ok as e1) (h' : mk e1 = .ok ks e2) (hl : as.length = n ∧ ks.length = nk) (ha : argsOf e2 (permL (.d .non) perm (as ++ ks)) = some args)
    (hn : (ixs (permL (.d .non) perm (as ++ ks))).Nodup) (hs : sem args = .ok r outs) : rCallK sem n nk perm ma mk e = .ok r (putBack (permL (.d .non) perm (as ++ ks)) outs e2) := by
  unfold rCallK; rw [ev_bnd h, ev_bnd h', if_pos hl]; unfold callS; rw [ha]; dsimp only; rw [if_pos hn, hs]
/-! subscripts -/
theorem ev_ix {ma mb : M D} (ha : ma e = .ok x e1) (hb : mb e1 = .ok y e2) (hf : fIx x y = some z) : eIx ma mb e = .ok z e2 := by unfold eIx; rw [ev_bnd ha, ev_bnd hb, hf]; rfl
theorem ev_ixV {i : Nat} {mb : M D} (h0 : (e[i]?.bind Sl.look).isSome = true) (hb : mb e = .ok y e1) (h : e1[i]?.bind Sl.look = some x) (hf : fIx x y = some z) : eIxV i mb e = .ok z e1 := by
  unfold eIxV has; rw [if_pos h0, ev_bnd hb]; unfold peek; rw [h]; dsimp only; rw [hf]; rfl
/-! statements -/
theorem ev_ret {m : M Ret} (h : m e = .ok r e1) : sRet m e = .ok (.rt r) e1 := by unfold sRet; rw [ev_bnd h]; rfl
theorem ev_seq {m n : M Fl} (h : m e = .ok .nx e1) : sSeq m n e = n e1 := by unfold sSeq; rw [ev_bnd h]
theorem ev_seqR {m n : M Fl} (h : m e = .ok (.rt r) e1) : sSeq m n e = .ok (.rt r) e1 := by unfold sSeq; rw [ev_bnd h]; rfl
theorem ev_if {c : M Bool} {m n : M Fl} (h : c e = .ok k e1) : sIf c m n e = (if k = true then m else n) e1 := by unfold sIf; rw [ev_bnd h]
theorem ev_if1 {c : M Bool} {m n : M Fl} (h : c e = .ok true e1) : sIf c m n e = m e1 := by rw [ev_if h]; rfl
theorem ev_if0 {c : M Bool} {m n : M Fl} (h : c e = .ok false e1) : sIf c m n e = n e1 := by rw [ev_if h]; rfl
theorem ev_asg {m : M D} {g : D → M Unit} (h : m e = .ok d e1) (h' : g d e1 = .ok () e2) : sAsg m g e = .ok .nx e2 := by unfold sAsg; rw [ev_bnd h, ev_bnd h']; rfl
theorem ev_own {m : M Ret} {i : Nat} (h : m e = .ok r e1) : sOwn m i e = gOwn i r e1 := by unfold sOwn; rw [ev_bnd h]
theorem ev_seq' {m n : M Fl} {z : R Fl} (h : m e = .ok .nx e1) (h' : n e1 = z) : sSeq m n e = z := (ev_seq h).trans h'
theorem ev_if1' {c : M Bool} {m n : M Fl} {z : R Fl} (h : c e = .ok true e1) (h' : m e1 = z) : sIf c m n e = z := (ev_if1 h).trans h'
theorem ev_if0' {c : M Bool} {m n : M Fl} {z : R Fl} (h : c e = .ok false e1) (h' : n e1 = z) : sIf c m n e = z := (ev_if0 h).trans h'
theorem ev_rIf1' {c : M Bool} {m n : M Ret} {z : R Ret} (h : c e = .ok true e1) (h' : m e1 = z) : rIf c m n e = z := (ev_rIf1 h).trans h'
theorem ev_rIf0' {c : M Bool} {m n : M Ret} {z : R Ret} (h : c e = .ok false e1) (h' : n e1 = z) : rIf c m n e = z := (ev_rIf0 h).trans h'
theorem ev_own' {m : M Ret} {i : Nat} {z : R Fl} (h : m e = .ok r e1) (h' : gOwn i r e1 = z) : sOwn m i e = z := (ev_own h).trans h'
/-! loops -/
theorem ev_for {mi : M (List D)} {g : D → M Unit} {b : M Fl} {ds : List D} (h : mi e = .ok ds e1) : sFor mi g b e = loopF g b ds e1 := by unfold sFor; rw [ev_bnd h]
theorem ev_for' {mi : M (List D)} {g : D → M Unit} {b : M Fl} {ds : List D} {z : R Fl} (h : mi e = .ok ds e1) (h' : loopF g b ds e1 = z) : sFor mi g b e = z := (ev_for h).trans h'
theorem loop_inv {g : D → M Unit} {b : M Fl} (Inv : Nat → En → Prop) : ∀ (ds : List D) (n : Nat) (e : En), Inv n e → (∀ i d e, ds[i]? = some d → Inv (n + i) e → ∃ e1, g d e = .ok () e1 ∧ ∃ fl e2, b e1 = .ok fl e2 ∧ (fl = .nx ∨ fl = .ct) ∧ Inv (n + i + 1) e2) →
    ∃ e', loopF g b ds e = .ok .nx e' ∧ Inv (n + ds.length) e'
  | [], n, e, h, _ => ⟨e, rfl, h⟩
  | d :: ds, n, e, h, st => by
    obtain ⟨e1, h1, fl, e2, h2, h3, h4⟩ := st 0 d e rfl h
    obtain ⟨e', q1, q2⟩ := loop_inv Inv ds (n + 1) e2 h4 (fun i d' e' q k => by
      have := st (i + 1) d' e' (by simpa using q) (by rw [show n + (i + 1) = n + 1 + i by omega]; exact k)
      rw [show n + 1 + i + 1 = n + (i + 1) + 1 by omega]
      exact this)
    refine ⟨e', ?_, by rw [List.length_cons, show n + (ds.length + 1) = n + 1 + ds.length by omega]; exact q2⟩
    unfold loopF
    rw [ev_bnd h1, ev_bnd h2]
    rcases h3 with rfl | rfl <;> exact q1
/-! blocks -/
theorem ev_turn {g : D → M Unit} {t : M Bool} {m : M D} (h1 : g d e = .ok () e1) (h2 : t e1 = .ok true e2) (h3 : m e2 = .ok y e3) : turnC g t m d e = .ok (some y) e3 := by
  unfold turnC; rw [ev_bnd h1, ev_bnd h2, if_pos rfl, ev_bnd h3]; rfl
theorem ev_turn0 {g : D → M Unit} {t : M Bool} {m : M D} (h1 : g d e = .ok () e1) (h2 : t e1 = .ok false e2) : turnC g t m d e = .ok none e2 := by
  unfold turnC; rw [ev_bnd h1, ev_bnd h2, if_neg Bool.false_ne_true]; rfl
theorem comp_run {g : D → M Unit} {t : M Bool} {m : M D} {vs : List Nat} (Inv : Nat → List D → En → Prop) : ∀ (ds acc : List D) (n : Nat) (e : En), Inv n acc e →
    (∀ i d acc e, ds[i]? = some d → Inv (n + i) acc e → noOwn e vs = true ∧ ∃ o e1, turnC g t m d (wipeE e vs) = .ok o e1 ∧ Inv (n + i + 1) (acc ++ o.toList) (backE e1 e vs)) →
    ∃ acc' e', compF g t m vs ds acc e = .ok acc' e' ∧ Inv (n + ds.length) acc' e'
  | [], acc, n, e, h, _ => ⟨acc, e, rfl, h⟩
  | d :: ds, acc, n, e, h, st => by
    obtain ⟨h0, o, e1, h1, h2⟩ := st 0 d acc e rfl h
    obtain ⟨acc', e', q1, q2⟩ := comp_run Inv ds (acc ++ o.toList) (n + 1) _ h2 (fun i d' a' e' q k => by
      have := st (i + 1) d' a' e' (by simpa using q) (by rw [show n + (i + 1) = n + 1 + i by omega]; exact k)
      rw [show n + 1 + i + 1 = n + (i + 1) + 1 by omega]
      exact this)
    refine ⟨acc', e', ?_, by rw [List.length_cons, show n + (ds.length + 1) = n + 1 + ds.length by omega]; exact q2⟩
    unfold compF
    rw [if_pos h0, h1]
    cases o with
    | none => simpa using q1
    | some y => exact q1
theorem comp_pure {g : D → M Unit} {t : M Bool} {m : M D} {vs : List Nat} {ds : List D} {F : D → Option D} (h0 : noOwn e vs = true) (st : ∀ d ∈ ds, ∃ e1, turnC g t m d (wipeE e vs) = .ok (F d) e1 ∧ backE e1 e vs = e) : ∀ acc, compF g t m vs ds acc e = .ok (acc ++ ds.filterMap F) e := by
  induction ds with
  | nil => intro acc; simp [compF]; rfl
  | cons d ds ih =>
    intro acc
    obtain ⟨e1, h1, h2⟩ := st d List.mem_cons_self
    unfold compF
    rw [if_pos h0, h1]
    cases q : F d with
    | none =>
      dsimp only
      rw [h2, ih (fun d' hd => st d' (List.mem_cons_of_mem _ hd)), List.filterMap_cons, q]
    | some y =>
      dsimp only
      rw [h2, ih (fun d' hd => st d' (List.mem_cons_of_mem _ hd)), List.filterMap_cons, q]
      simp
theorem ev_comp {mi : M (List D)} {g : D → M Unit} {t : M Bool} {m : M D} {vs : List Nat} {ds l : List D} (h : mi e = .ok ds e1) (hl : ds.length ≤ LIM) (hc : compF g t m vs ds [] e1 = .ok l e2) : rComp mi g t m vs e = .ok (.ow (.l l)) e2 := by
  unfold rComp; rw [ev_bnd h, if_pos hl, ev_bnd hc]; rfl
theorem ev_compP {mi : M (List D)} {g : D → M Unit} {t : M Bool} {m : M D} {vs : List Nat} {ds : List D} {F : D → Option D} (h : mi e = .ok ds e1) (hl : ds.length ≤ LIM) (h0 : noOwn e1 vs = true) (st : ∀ d ∈ ds, ∃ e2, turnC g t m d (wipeE e1 vs) = .ok (F d) e2 ∧ backE e2 e1 vs = e1) :
    rComp mi g t m vs e = .ok (.ow (.l (ds.filterMap F))) e1 := ev_comp h hl (by rw [comp_pure h0 st]; rfl)
theorem ev_compP' {mi : M (List D)} {g : D → M Unit} {t : M Bool} {m : M D} {vs : List Nat} {ds l : List D} {F : D → Option D} (h : mi e = .ok ds e1) (hl : ds.length ≤ LIM) (h0 : noOwn e1 vs = true) (st : ∀ d ∈ ds, ∃ e2, turnC g t m d (wipeE e1 vs) = .ok (F d) e2 ∧ backE e2 e1 vs = e1) (hF : ds.filterMap F = l) :
    rComp mi g t m vs e = .ok (.ow (.l l)) e1 := by rw [ev_compP h hl h0 st, hF]
theorem comp_inv {g : D → M Unit} {t : M Bool} {m : M D} {vs : List Nat} (Inv : Nat → List D → En → Prop) (ds : List D) (h : Inv 0 [] e)
    (st : ∀ i d acc e, ds[i]? = some d → Inv i acc e → noOwn e vs = true ∧ ∃ o e1, turnC g t m d (wipeE e vs) = .ok o e1 ∧ Inv (i + 1) (acc ++ o.toList) (backE e1 e vs)) : ∃ acc' e', compF g t m vs ds [] e = .ok acc' e' ∧ Inv ds.length acc' e' := by
  have := comp_run (g := g) (t := t) (m := m) (vs := vs) Inv ds [] 0 e h fun i d acc e q k => by
    rw [Nat.zero_add] at k ⊢
    exact st i d acc e q k
  rwa [Nat.zero_add] at this
theorem loop_inv0 {g : D → M Unit} {b : M Fl} (Inv : Nat → En → Prop) (ds : List D) (h : Inv 0 e) (st : ∀ i d e, ds[i]? = some d → Inv i e → ∃ e1, g d e = .ok () e1 ∧ ∃ fl e2, b e1 = .ok fl e2 ∧ (fl = .nx ∨ fl = .ct) ∧ Inv (i + 1) e2) :
    ∃ e', loopF g b ds e = .ok .nx e' ∧ Inv ds.length e' := by
  have := loop_inv (g := g) (b := b) Inv ds 0 e h fun i d e q k => by
    rw [Nat.zero_add] at k ⊢
    exact st i d e q k
  rwa [Nat.zero_add] at this
theorem ev_seqL {m : M D} {l : List D} (h : m e = .ok d e1) (hd : seqL d = some l) : iSeq m e = .ok l e1 := by unfold iSeq; rw [ev_bnd h, hd]; rfl
/-! defs -/
theorem ev_fun {n k : Nat} {b : M Fl} {args : List Sl} {e' : En} (hl : args.length = k) (h : b (args ++ List.replicate (n - k) .no) = .ok (.rt r) e') : sFun n k b args = .ok r (e'.take k) := by
  unfold sFun; rw [if_pos hl, h]; rfl
theorem ev_funN {n k : Nat} {b : M Fl} {args : List Sl} {e' : En} (hl : args.length = k) (h : b (args ++ List.replicate (n - k) .no) = .ok .nx e') : sFun n k b args = .ok (.sh .non) (e'.take k) := by
  unfold sFun; rw [if_pos hl, h]; rfl
end
/-! ### data, compared by computing -/
mutual
def D.same : D → D → Bool
  | .non, .non => true
  | .bl a, .bl b => a == b
  | .int a, .int b => decide (a = b)
  | .str a, .str b => decide (a = b)
  | .tup a, .tup b => D.sameL a b
  | .lst a, .lst b => D.sameL a b
  | _, _ => false
def D.sameL : List D → List D → Bool
  | [], [] => true
  | a :: as, b :: bs => D.same a b && D.sameL as bs
  | _, _ => false
end
mutual
theorem same_ok : ∀ {a b : D}, D.same a b = true → a = b
  | .non, b, h => by cases b <;> first | rfl | (simp [D.same] at h)
  | .bl a, b, h => by cases b <;> simp [D.same] at h; rw [h]
  | .int a, b, h => by cases b <;> simp [D.same] at h; rw [h]
  | .str a, b, h => by cases b <;> simp [D.same] at h; rw [h]
  | .tup a, b, h => by cases b <;> simp [D.same] at h; rw [sameL_ok h]
  | .lst a, b, h => by cases b <;> simp [D.same] at h; rw [sameL_ok h]
  | .dct a, b, h => by cases b <;> simp [D.same] at h
  | .obj _ _, b, h => by cases b <;> simp [D.same] at h
theorem sameL_ok : ∀ {a b : List D}, D.sameL a b = true → a = b
  | [], [], _ => rfl
  | a :: as, b :: bs, h => by
    simp [D.sameL] at h
    rw [same_ok h.1, sameL_ok h.2]
  | [], _ :: _, h => by simp [D.sameL] at h
  | _ :: _, [], h => by simp [D.sameL] at h
end
/-- a result that is a value -/
def R.isD : R Ret → D → Bool
  | .ok (.sh x) _, d => D.same x d
  | _, _ => false
theorem isD_ok {r : R Ret} {d : D} (h : r.isD d = true) : ∃ o, r = .ok (.sh d) o := by
  cases r with
  | ok a e =>
    cases a with
    | sh x => exact ⟨e, by rw [same_ok h]⟩
    | ow _ => cases h
  | ex _ _ _ => cases h
  | no => cases h
/-! ### == on plain data -/
theorem eqvAll_nil : ∀ l : List D, PyData.eqvAll (pys l) [] = l.isEmpty
  | [] => rfl
  | _ :: _ => rfl
def intsD (ns : List Int) : List D := ns.map .int
theorem eqvAll_ints : ∀ ns ms : List Int, PyData.eqvAll (pys (intsD ns)) (pys (intsD ms)) = decide (ns = ms)
  | [], [] => rfl
  | [], _ :: _ => rfl
  | _ :: _, [] => rfl
  | n :: ns, m :: ms => by
    show (PyData.eqv (.int n) (.int m) && PyData.eqvAll (pys (intsD ns)) (pys (intsD ms))) = _
    rw [eqvAll_ints ns ms]
    show ((n == m) && _) = _
    by_cases h : n = m
    · subst h; simp
    · simp [h]
theorem lay_ints : ∀ ns : List Int, PyData.canLayAll0 (pys (intsD ns)) = true
  | [] => rfl
  | n :: ns => by
    show (PyData.canLay0 (.int n) && PyData.canLayAll0 (pys (intsD ns))) = true
    rw [lay_ints ns]; rfl
theorem depth_ints : ∀ ns : List Int, PyData.depthAll (pys (intsD ns)) = 0
  | [] => rfl
  | n :: ns => by
    show max (PyData.depth (.int n)) (PyData.depthAll (pys (intsD ns))) = 0
    rw [depth_ints ns]; rfl
theorem ok_tupI (ns : List Int) : okD (.tup (intsD ns)) = true := by
  unfold okD SeqAt.shaped
  show (PyData.canLayAll0 (pys (intsD ns)) && decide (PyData.depthAll (pys (intsD ns)) + 1 ≤ 64)) = true
  rw [lay_ints, depth_ints]; rfl
theorem ok_lstI (ns : List Int) : okD (.lst (intsD ns)) = true := by
  unfold okD SeqAt.shaped
  show (PyData.canLayAll0 (pys (intsD ns)) && decide (PyData.depthAll (pys (intsD ns)) + 1 ≤ 64)) = true
  rw [lay_ints, depth_ints]; rfl
theorem deq_int (i j : Int) : deq (.int i) (.int j) = some (i == j) := rfl
theorem deq_bl (i j : Bool) : deq (.bl i) (.bl j) = some (i == j) := rfl
theorem deq_tupI (ns ms : List Int) : deq (.tup (intsD ns)) (.tup (intsD ms)) = some (decide (ns = ms)) := by
  unfold deq; rw [ok_tupI, ok_tupI]
  show some (PyData.eqvAll (pys (intsD ns)) (pys (intsD ms))) = _
  rw [eqvAll_ints]
theorem deq_lstI (ns ms : List Int) : deq (.lst (intsD ns)) (.lst (intsD ms)) = some (decide (ns = ms)) := by
  unfold deq; rw [ok_lstI, ok_lstI]
  show some (PyData.eqvAll (pys (intsD ns)) (pys (intsD ms))) = _
  rw [eqvAll_ints]
theorem deq_nil {l : List D} (h : okD (.lst l) = true) : deq (.lst l) (.lst []) = some l.isEmpty := by
  unfold deq; rw [h, show okD (.lst []) = true from rfl]
  show some (PyData.eqvAll (pys l) []) = _
  rw [eqvAll_nil]
theorem dIn_int (i : Int) (ns : List Int) : dIn (.int i) (intsD ns) = some (decide (i ∈ ns)) := by
  unfold dIn
  rw [show okD (.int i) = true from rfl, ok_lstI]
  show some ((intsD ns).any fun z => PyData.eqv z.py (.int i)) = _
  congr 1
  induction ns with
  | nil => rfl
  | cons n ns ih =>
    show ((n == i) || (intsD ns).any fun z => PyData.eqv z.py (.int i)) = _
    rw [ih]
    by_cases h : n = i
    · subst h; simp
    · have h' : ¬ i = n := fun z => h z.symm
      simp [h, h']
end DL
end

section
namespace DL
open PySem PySem.Spec L2
open PyProof.Rows hiding St

/-! ### isinstance, by kinds -/
theorem kit_same (a : String) : kitB a a = some true := by
  unfold kitB
  rw [if_pos (by simp)]
def tyNames : List String := ["NoneType", "bool", "int", "str", "tuple", "list", "dict"]
def tyTab (t T : String) : Option Bool := some (t == T || (t == "bool" && T == "int"))
theorem kit_tab : ∀ t ∈ tyNames, ∀ T ∈ ["bool", "int", "str", "tuple", "list", "dict"], kitB t T = tyTab t T := by decide +kernel
def D.plain : D → Bool
  | .obj _ _ => false
  | _ => true
def D.isInt : D → Bool
  | .int _ => true
  | .bl _ => true
  | _ => false
def D.isBl : D → Bool
  | .bl _ => true
  | _ => false
def D.isStr : D → Bool
  | .str _ => true
  | _ => false
def D.isTup : D → Bool
  | .tup _ => true
  | _ => false
def D.isLst : D → Bool
  | .lst _ => true
  | _ => false
theorem isi_int {d : D} (h : d.plain = true) : isiD "int" d = some (.sh (.bl d.isInt)) := by
  unfold isiD
  cases d <;> first | (cases h; done) | (simp only [D.ty, Option.bind_some]; rw [kit_tab _ (by decide) _ (by decide)]; rfl)
theorem isi_bool {d : D} (h : d.plain = true) : isiD "bool" d = some (.sh (.bl d.isBl)) := by
  unfold isiD
  cases d <;> first | (cases h; done) | (simp only [D.ty, Option.bind_some]; rw [kit_tab _ (by decide) _ (by decide)]; rfl)
theorem isi_str {d : D} (h : d.plain = true) : isiD "str" d = some (.sh (.bl d.isStr)) := by
  unfold isiD
  cases d <;> first | (cases h; done) | (simp only [D.ty, Option.bind_some]; rw [kit_tab _ (by decide) _ (by decide)]; rfl)
theorem isi_tup {d : D} (h : d.plain = true) : isiD "tuple" d = some (.sh (.bl d.isTup)) := by
  unfold isiD
  cases d <;> first | (cases h; done) | (simp only [D.ty, Option.bind_some]; rw [kit_tab _ (by decide) _ (by decide)]; rfl)
theorem isi_lst {d : D} (h : d.plain = true) : isiD "list" d = some (.sh (.bl d.isLst)) := by
  unfold isiD
  cases d <;> first | (cases h; done) | (simp only [D.ty, Option.bind_some]; rw [kit_tab _ (by decide) _ (by decide)]; rfl)

/-! ### sets of places as numbers -/
def elems (n m : Nat) : List Nat := (List.range n).filter fun p => m.testBit p
def natsD (ns : List Nat) : List D := ns.map fun p : Nat => .int (p : Int)
/-- the places below n that stand in m -/
def setD (n m : Nat) : D := .tup (natsD (elems n m))
theorem natsD_ints (ns : List Nat) : natsD ns = intsD (ns.map fun p : Nat => (p : Int)) := by simp [natsD, intsD]
theorem elems_succ (n m : Nat) : elems (n + 1) m = elems n m ++ (if m.testBit n then [n] else []) := by
  unfold elems
  rw [List.range_succ, List.filter_append]
  simp [List.filter_cons]
theorem elems_lt {n m p : Nat} (h : p ∈ elems n m) : p < n ∧ m.testBit p = true := by
  unfold elems at h
  simpa using h
theorem elems_mem {n m p : Nat} : p ∈ elems n m ↔ p < n ∧ m.testBit p = true := by
  unfold elems; simp
theorem elems_filter (n m : Nat) (f : Nat → Bool) (m' : Nat) (h : ∀ p < n, m'.testBit p = (m.testBit p && f p)) : (elems n m).filter f = elems n m' := by
  unfold elems
  rw [List.filter_filter]
  refine List.filter_congr fun p hp => ?_
  have := List.mem_range.mp hp
  rw [h p this]
  cases f p <;> cases m.testBit p <;> rfl
theorem elems_range (n m' : Nat) (f : Nat → Bool) (h : ∀ p < n, m'.testBit p = f p) : (List.range n).filter f = elems n m' := by
  unfold elems
  refine List.filter_congr fun p hp => ?_
  rw [h p (List.mem_range.mp hp)]
theorem testBit_big {m a p : Nat} (h : m < 2 ^ a) (hp : a ≤ p) : m.testBit p = false := Nat.testBit_lt_two_pow (Nat.lt_of_lt_of_le h (Nat.pow_le_pow_right (by omega) hp))
theorem elems_grow {m a : Nat} (h : m < 2 ^ a) : ∀ k : Nat, elems (a + k) m = elems a m
  | 0 => rfl
  | k + 1 => by
    rw [← Nat.add_assoc, elems_succ, elems_grow h k, testBit_big h (by omega)]
    simp
theorem elems_to {m a n : Nat} (h : m < 2 ^ a) (hn : a ≤ n) : elems n m = elems a m := by
  obtain ⟨k, rfl⟩ : ∃ k, n = a + k := ⟨n - a, by omega⟩
  exact elems_grow h k
theorem mask_sum : ∀ n m : Nat, ((elems n m).map fun p => 2 ^ p).sum = m % 2 ^ n
  | 0, m => by simp [elems, Nat.mod_one]
  | n + 1, m => by
    rw [elems_succ, List.map_append, List.sum_append, mask_sum n m, Nat.mod_pow_succ]
    congr 1
    rw [Nat.testBit_eq_decide_div_mod_eq]
    by_cases h : m / 2 ^ n % 2 = 1
    · simp [h]
    · have : m / 2 ^ n % 2 = 0 := by omega
      simp [this]
theorem sum_cast : ∀ l : List Nat, ((l.map fun p => ((2 ^ p : Nat) : Int)).sum) = (((l.map fun p => 2 ^ p).sum : Nat) : Int)
  | [] => rfl
  | p :: l => by
    rw [List.map_cons, List.sum_cons, sum_cast l, List.map_cons, List.sum_cons]
    simp
theorem elems_len (n m : Nat) : (elems n m).length ≤ n := by
  unfold elems
  exact Nat.le_trans (List.length_filter_le _ _) (by simp)
/-! ### the bits of ints -/
theorem bnot_nn (x : Nat) : (Builtin.bitNot (x : Int)) = -(x : Int) - 1 := rfl
theorem and_nat (a b : Nat) : Builtin.bitAnd (a : Int) (b : Int) = ((a &&& b : Nat) : Int) := by
  unfold Builtin.bitAnd
  rw [decide_eq_true (by omega : (0 : Int) ≤ (a : Int)), decide_eq_true (by omega : (0 : Int) ≤ (b : Int))]
  simp
theorem or_nat (a b : Nat) : Builtin.bitOr (a : Int) (b : Int) = ((a ||| b : Nat) : Int) := by
  unfold Builtin.bitOr Builtin.bitAnd
  rw [decide_eq_false (by unfold Builtin.bitNot; omega : ¬ (0 : Int) ≤ Builtin.bitNot (a : Int)), decide_eq_false (by unfold Builtin.bitNot; omega : ¬ (0 : Int) ≤ Builtin.bitNot (b : Int))]
  have h : ∀ x : Int, Builtin.bitNot (Builtin.bitNot x) = x := fun x => by unfold Builtin.bitNot; omega
  simp only [h]
  simp
theorem andnot_nat (a b : Nat) : Builtin.bitAnd (a : Int) (Builtin.bitNot (b : Int)) = ((a - (a &&& b) : Nat) : Int) := by
  unfold Builtin.bitAnd
  rw [decide_eq_true (by omega : (0 : Int) ≤ (a : Int)), decide_eq_false (by unfold Builtin.bitNot; omega : ¬ (0 : Int) ≤ Builtin.bitNot (b : Int))]
  have h : ∀ x : Int, Builtin.bitNot (Builtin.bitNot x) = x := fun x => by unfold Builtin.bitNot; omega
  simp only [h]
  have : a &&& b ≤ a := Nat.and_le_left
  simp
  omega
theorem mod2 (x : Nat) : x % 2 = if x.testBit 0 then 1 else 0 := by
  rw [Nat.testBit_zero]
  by_cases h : x % 2 = 1
  · simp [h]
  · have : x % 2 = 0 := by omega
    simp [this]
theorem xor_sub (a b : Nat) : (a ^^^ (a &&& b)) + (a &&& b) = a := by
  induction a using Nat.strongRecOn generalizing b with
  | _ a ih =>
    by_cases h0 : a = 0
    · subst h0; simp
    · have h1 := ih (a / 2) (by omega) (b / 2)
      have e1 : (a ^^^ (a &&& b)) / 2 = (a / 2) ^^^ ((a / 2) &&& (b / 2)) := by rw [Nat.xor_div_two, Nat.and_div_two]
      have e2 : (a &&& b) / 2 = (a / 2) &&& (b / 2) := Nat.and_div_two
      have e3 : (a &&& b) % 2 = (a % 2) * (b % 2) := by
        rw [mod2 (a &&& b), Nat.testBit_and, Nat.testBit_zero, Nat.testBit_zero]
        rcases Nat.mod_two_eq_zero_or_one a with h | h <;> rcases Nat.mod_two_eq_zero_or_one b with h' | h' <;> rw [h, h'] <;> rfl
      have e4 : (a ^^^ (a &&& b)) % 2 = (a % 2) * (1 - b % 2) := by
        rw [mod2 (a ^^^ (a &&& b)), Nat.testBit_xor, Nat.testBit_and, Nat.testBit_zero, Nat.testBit_zero]
        rcases Nat.mod_two_eq_zero_or_one a with h | h <;> rcases Nat.mod_two_eq_zero_or_one b with h' | h' <;> rw [h, h'] <;> rfl
      rw [← e1, ← e2] at h1
      have e5 : (a % 2) * (1 - b % 2) + (a % 2) * (b % 2) = a % 2 := by
        rcases Nat.mod_two_eq_zero_or_one a with h | h <;> rcases Nat.mod_two_eq_zero_or_one b with h' | h' <;> rw [h, h'] <;> rfl
      omega
theorem sub_bit (a b p : Nat) : (a - (a &&& b)).testBit p = (a.testBit p && !b.testBit p) := by
  have h : a - (a &&& b) = a ^^^ (a &&& b) := by have := xor_sub a b; omega
  rw [h, Nat.testBit_xor, Nat.testBit_and]
  cases a.testBit p <;> cases b.testBit p <;> rfl
theorem shr_bit (m p : Nat) : Builtin.bitAnd ((m : Int) / 2 ^ (p : Int).toNat) 1 = if m.testBit p then 1 else 0 := by
  have e : (m : Int) / 2 ^ (p : Int).toNat = ((m / 2 ^ p : Nat) : Int) := by simp
  rw [e, show (1 : Int) = ((1 : Nat) : Int) from rfl, and_nat, Nat.and_one_is_mod, Nat.testBit_eq_decide_div_mod_eq]
  by_cases h : m / 2 ^ p % 2 = 1
  · simp [h]
  · have : m / 2 ^ p % 2 = 0 := by omega
    simp [this]
theorem bits_bound (m : Nat) : m < 2 ^ Builtin.Int.intBits (m : Int) := by
  unfold Builtin.Int.intBits
  by_cases h : m = 0
  · subst h; simp
  · have : ((m : Int) == 0) = false := by simpa using h
    rw [this]
    simpa using Nat.lt_log2_self
theorem bits_le {m a : Nat} (h : m < 2 ^ a) : Builtin.Int.intBits (m : Int) ≤ a := by
  unfold Builtin.Int.intBits
  by_cases h0 : m = 0
  · subst h0; simp
  · have : ((m : Int) == 0) = false := by simpa using h0
    rw [this]
    have := (Nat.log2_lt h0).mpr h
    simp
    omega
theorem rng_mem {k : Nat} {d : D} (h : d ∈ rngL 0 k) : ∃ p : Nat, p < k ∧ d = .int (p : Int) := by
  unfold rngL at h
  obtain ⟨p, h1, h2⟩ := List.mem_map.mp h
  exact ⟨p, List.mem_range.mp h1, by rw [← h2]; simp⟩
theorem rng_nats (k : Nat) : rngL 0 k = natsD (List.range k) := by
  unfold rngL natsD
  simp
theorem fm_nats (l : List Nat) (F : D → Option D) (f : Nat → Bool) (h : ∀ p ∈ l, F (.int (p : Int)) = if f p then some (.int (p : Int)) else none) : (natsD l).filterMap F = natsD (l.filter f) := by
  unfold natsD
  induction l with
  | nil => rfl
  | cons p l ih =>
    rw [List.map_cons, List.filterMap_cons, h p List.mem_cons_self, List.filter_cons, ih fun q hq => h q (List.mem_cons_of_mem _ hq)]
    cases f p <;> rfl
theorem fm_map (l : List Nat) (F : D → Option D) (g : Nat → D) (h : ∀ p ∈ l, F (.int (p : Int)) = some (g p)) : (natsD l).filterMap F = l.map g := by
  unfold natsD
  induction l with
  | nil => rfl
  | cons p l ih => rw [List.map_cons, List.filterMap_cons, h p List.mem_cons_self, List.map_cons, ih fun q hq => h q (List.mem_cons_of_mem _ hq)]
theorem natsD_len (l : List Nat) : (natsD l).length = l.length := by simp [natsD]
theorem natsD_mem {l : List Nat} {d : D} (h : d ∈ natsD l) : ∃ p ∈ l, d = .int (p : Int) := by
  unfold natsD at h
  obtain ⟨p, h1, h2⟩ := List.mem_map.mp h
  exact ⟨p, h1, h2.symm⟩
theorem asInts_nats (l : List Nat) (g : Nat → Int) : asInts (l.map fun p => .int (g p)) = some (l.map g) := by
  have : (l.map fun p => D.int (g p)) = (l.map g).map D.int := by simp
  rw [this, asInts_map]
/-! ### operations at given numbers -/
theorem lt_t {i j : Int} (h : i < j) : fLt (.int i) (.int j) = some (.sh (.bl true)) := by show some (Ret.sh (.bl (decide (i < j)))) = _; rw [decide_eq_true h]
theorem lt_f {i j : Int} (h : ¬ i < j) : fLt (.int i) (.int j) = some (.sh (.bl false)) := by show some (Ret.sh (.bl (decide (i < j)))) = _; rw [decide_eq_false h]
theorem le_t {i j : Int} (h : i ≤ j) : fLe (.int i) (.int j) = some (.sh (.bl true)) := by show some (Ret.sh (.bl (decide (i ≤ j)))) = _; rw [decide_eq_true h]
theorem le_f {i j : Int} (h : ¬ i ≤ j) : fLe (.int i) (.int j) = some (.sh (.bl false)) := by show some (Ret.sh (.bl (decide (i ≤ j)))) = _; rw [decide_eq_false h]
theorem gt_t {i j : Int} (h : j < i) : fGt (.int i) (.int j) = some (.sh (.bl true)) := by show some (Ret.sh (.bl (decide (j < i)))) = _; rw [decide_eq_true h]
theorem gt_f {i j : Int} (h : ¬ j < i) : fGt (.int i) (.int j) = some (.sh (.bl false)) := by show some (Ret.sh (.bl (decide (j < i)))) = _; rw [decide_eq_false h]
theorem ge_t {i j : Int} (h : j ≤ i) : fGe (.int i) (.int j) = some (.sh (.bl true)) := by show some (Ret.sh (.bl (decide (j ≤ i)))) = _; rw [decide_eq_true h]
theorem ge_f {i j : Int} (h : ¬ j ≤ i) : fGe (.int i) (.int j) = some (.sh (.bl false)) := by show some (Ret.sh (.bl (decide (j ≤ i)))) = _; rw [decide_eq_false h]
theorem eq_b {x y : D} {k : Bool} (h : deq x y = some k) : fEq x y = some (.sh (.bl k)) := by unfold fEq; rw [h]; rfl
theorem ne_b {x y : D} {k : Bool} (h : deq x y = some k) : fNe x y = some (.sh (.bl (!k))) := by unfold fNe; rw [h]; rfl
theorem eq_i {i j : Int} : fEq (.int i) (.int j) = some (.sh (.bl (decide (i = j)))) := by rw [eq_b (deq_int i j)]; by_cases h : i = j <;> simp [h]
theorem fmod_ {i j : Int} (h : 0 < j) : fMod (.int i) (.int j) = some (.sh (.int (i % j))) := by show (if decide (0 < j) = true then _ else _) = _; rw [if_pos (decide_eq_true h)]
theorem fdiv_ {i j : Int} (h : 0 < j) (h' : j < 1073741824) : fDiv (.int i) (.int j) = some (.sh (.int (i / j))) := by
  show (if (decide (0 < j) && decide (j < 1073741824)) = true then _ else _) = _
  rw [if_pos (by rw [decide_eq_true h, decide_eq_true h']; rfl)]
theorem fpow_ {i j : Int} (h : 0 ≤ j) (h' : j ≤ 1000000) (h2 : i.natAbs < 2 ^ 64) : fPow (.int i) (.int j) = some (.sh (.int (i ^ j.toNat))) := by
  show (if (decide (0 ≤ j) && decide (j ≤ 1000000) && decide (i.natAbs < 2 ^ 64)) = true then _ else _) = _
  rw [if_pos (by rw [decide_eq_true h, decide_eq_true h', decide_eq_true h2]; rfl)]
theorem fshl_ {i j : Int} (h : 0 ≤ j) (h' : j ≤ 1000000) (h2 : i.natAbs < 2 ^ 64) : fShl (.int i) (.int j) = some (.sh (.int (i * 2 ^ j.toNat))) := by
  show (if (decide (0 ≤ j) && decide (j ≤ 1000000) && decide (i.natAbs < 2 ^ 64)) = true then _ else _) = _
  rw [if_pos (by rw [decide_eq_true h, decide_eq_true h', decide_eq_true h2]; rfl)]
theorem fshr_ {i j : Int} (h : 0 ≤ j) : fShr (.int i) (.int j) = some (.sh (.int (i / 2 ^ j.toNat))) := by
  show (if decide (0 ≤ j) = true then _ else _) = _
  rw [if_pos (decide_eq_true h)]
theorem fmul_l {i j : Int} (h : -(2 ^ 64) < i) (h' : i < 2 ^ 64) : fMul (.int i) (.int j) = some (.sh (.int (i * j))) := by
  show (if mulI i j = true then _ else _) = _
  rw [if_pos (by unfold mulI; rw [decide_eq_true h, decide_eq_true h']; rfl)]
theorem fmul_r {i j : Int} (h : -(2 ^ 64) < j) (h' : j < 2 ^ 64) : fMul (.int i) (.int j) = some (.sh (.int (i * j))) := by
  show (if mulI i j = true then _ else _) = _
  rw [if_pos (by unfold mulI; rw [decide_eq_true h, decide_eq_true h']; simp)]
theorem ev_rng1 {m : M (List Ar)} {j : Int} {e e1 : En} (h : aVals m e = .ok [.int j] e1) (hj : small62 j = true) : iRng1M m e = .ok (rngL 0 j.toNat) e1 := by
  unfold iRng1M; rw [ev_bnd h]; dsimp only; rw [if_pos hj]; rfl
theorem ev_rng2 {m : M (List Ar)} {i j : Int} {e e1 : En} (h : aVals m e = .ok [.int i, .int j] e1) (hi : small62 i = true) (hj : small62 j = true) : iRng2M m e = .ok (rngL i (j - i).toNat) e1 := by
  unfold iRng2M; rw [ev_bnd h]; dsimp only; rw [hi, hj]; rfl
theorem small_of {n : Nat} (h : n < 2 ^ 62) : small62 (n : Int) = true := by
  unfold small62
  rw [decide_eq_true (by omega : -(2 ^ 62) ≤ (n : Int)), decide_eq_true (by omega : (n : Int) < 2 ^ 62)]
  rfl
theorem rngL_len (lo : Int) (k : Nat) : (rngL lo k).length = k := by simp [rngL]
theorem ev_bits {m : M D} {i : Int} {e e1 : En} (h : m e = .ok (.int i) e1) : eBits m e = .ok (.int (Builtin.Int.intBits i : Nat)) e1 := by unfold eBits; rw [ev_bnd h]; rfl
theorem ev_zip {m : M (List Ar)} {x y : D} {l : List D} {e e1 : En} (h : aVals m e = .ok [x, y] e1) (hz : zipD [x, y] = some l) : iZipM m e = .ok l e1 := by unfold iZipM; rw [ev_bnd h, hz]; rfl
theorem ev_slice {m : M D} {ml mh : M (Option Int)} {lo hi : Option Int} {d : D} {r : Ret} {e e1 e2 e3 : En} (h : m e = .ok d e1) (hl : ml e1 = .ok lo e2) (hh : mh e2 = .ok hi e3) (hf : fSl d lo hi = some r) : rSl m ml mh e = .ok r e3 := by
  unfold rSl; rw [ev_bnd h, ev_bnd hl, ev_bnd hh, hf]; rfl
theorem ev_some {m : M D} {i : Int} {e e1 : En} (h : m e = .ok (.int i) e1) : oSome m e = .ok (some i) e1 := by unfold oSome; rw [ev_bnd h]; rfl
theorem ev_rev {m : M D} {d : D} {r : Ret} {e e1 : En} (h : m e = .ok d e1) (hf : fRev d = some r) : rRev m e = .ok r e1 := by unfold rRev; rw [ev_bnd h, hf]; rfl
end DL
end

section
namespace G
open DL PySem PySem.Spec L2
open PyProof.Rows hiding St
set_option maxHeartbeats 0
def topS (i : Nat) : Stmt := PySem.Challenge.pw_orderbench_k00_sets_and_masks.main.body.getD i (.Pass ⟨0, 0, 0, 0⟩)

/-- what the module's head says -/
structure Tab (K : PySem.W.Frag) (mg : MG) : Prop where
  bs : Bs mg
  f_is_integer : FD K mg "is_integer" (topS 1)
  f_is_between : FD K mg "is_between" (topS 2)
  f_is_rising : FD K mg "is_rising" (topS 3)
  f_is_subset : FD K mg "is_subset" (topS 5)
  f_mask_of : FD K mg "mask_of" (topS 6)
  f_points_in : FD K mg "points_in" (topS 8)
  f_subset_of : FD K mg "subset_of" (topS 7)
  f_joined : FD K mg "joined" (topS 9)
  f_shared : FD K mg "shared" (topS 10)
  f_minus : FD K mg "minus" (topS 11)
  f__law_cell : FD K mg "_law_cell" (topS 13)
  f__law_box : FD K mg "_law_box" (topS 14)
  f__law_take : FD K mg "_law_take" (topS 15)
  f__law_same : FD K mg "_law_same" (topS 16)
  f__law_odd : FD K mg "_law_odd" (topS 17)
  f__law_is_int : FD K mg "_law_is_int" (topS 18)
  f__law_is_set : FD K mg "_law_is_set" (topS 19)
  f__law_drawn_set : FD K mg "_law_drawn_set" (topS 20)
  f__law_partner : FD K mg "_law_partner" (topS 21)
  f__law_near : FD K mg "_law_near" (topS 22)
  f__law_pair_right : FD K mg "_law_pair_right" (topS 23)
  f_law : FD K mg "law" (topS 24)
variable {P : Program} {w : World} {K : PySem.W.Frag} {mg : MG} {base : Heap}

/-! is_integer: names value=0; own:  -/
def b_is_integer : M Fl :=
  (sRet (mR (eAnd (mD (rOne (eVar 0) (isiD "int"))) (eNot (mD (rOne (eVar 0) (isiD "bool")))))))
def s_is_integer : FS := sFun 1 1 b_is_integer
theorem df_is_integer (T : Tab K mg) : DF P w K mg base 1 "is_integer" (topS 1) ["value"] s_is_integer := df_of (N := ["value"]) T.f_is_integer (by decide +kernel) rfl (fun _ _ _ _ _ _ us h => match us, h with | [u0], _ => rfl) (fun W =>
  (dss_one (ds_ret (dr_e (de_and (de_r (c_isi_int T.bs rfl rfl (de_var (vk rfl)) rfl)) (de_one (de_not (de_r (c_isi_bool T.bs rfl rfl (de_var (vk rfl)) rfl)))))))))
/-! is_between: names value=0 least=1 most=2; own:  -/
def b_is_between : M Fl :=
  (sRet (mR (eAnd (mD (rCall s_is_integer (aCons (aD (eVar 0)) aNil))) (mD (rChain fLe fLe (eVar 1) (eVar 0) (eVar 2))))))
def s_is_between : FS := sFun 3 3 b_is_between
theorem df_is_between (T : Tab K mg) : DF P w K mg base 2 "is_between" (topS 2) ["value", "least", "most"] s_is_between := df_of (N := ["value", "least", "most"]) T.f_is_between (by decide +kernel) rfl (fun _ _ _ _ _ _ us h => match us, h with | [u0, u1, u2], _ => rfl) (fun W =>
  (dss_one (ds_ret (dr_e (de_and (de_r (c_call (df_is_integer T) rfl rfl (dp_cons (do_e (de_var (vk rfl)) rfl) dp_nil))) (de_one (de_r (dr_chain o_le o_le (de_var (vk rfl)) (de_var (vk rfl)) (de_var (vk rfl)) rfl))))))))
/-! is_rising: names items=0 one=1 other=2; own:  -/
def b_is_rising : M Fl :=
  (sRet (rFn (f1 gAll) (aCons (aD (mD (rComp (iZipM (aCons (aD (eVar 0)) (aCons (aD (mD (rSl (eVar 0) (oSome (eC (.int 1))) (M.ret none)))) aNil))) (gSeqM 2 (gConsM (gSet 1) (gConsM (gSet 2) gNilM))) (M.ret true) (mD (rBin fLt (eVar 1) (eVar 2))) [1, 2]))) aNil)))
def s_is_rising : FS := sFun 3 1 b_is_rising
theorem df_is_rising (T : Tab K mg) : DF P w K mg base 1 "is_rising" (topS 3) ["items"] s_is_rising := df_of (N := ["items", "one", "other"]) T.f_is_rising (by decide +kernel) rfl (fun _ _ _ _ _ _ us h => match us, h with | [u0], _ => rfl) (fun W =>
  (dss_one (ds_ret (c_all T.bs rfl (dp_cons (do_e (de_r (dr_comp (c_zip T.bs rfl (dp_cons (do_e (de_var (vk rfl)) rfl) (dp_cons (do_e (de_r (dr_slice (de_var (vk rfl)) (dpo_some de_int) dpo_none)) rfl) dp_nil))) (blkOk_by (own := [("one", 1), ("other", 2)]) (by dsimp only; decide +kernel)) (dg_seq (dgs_cons rfl (dg_name (sk rfl)) (dgs_cons rfl (dg_name (sk rfl)) dgs_nil))) (by decide) dts_nil (de_r (dr_cmp o_lt (de_var (vk rfl)) (de_var (vk rfl)) rfl)) (fun _ _ => rfl))) rfl) dp_nil)))))
/-! is_subset: names size=0 value=1 point=2; own:  -/
def b_is_subset : M Fl :=
  (sSeq (sIf (tOrM (tNotM (tTru (mD (rOne (eVar 1) (isiD "tuple"))))) (tNotM (tTru (mD (rFn (f1 gAll) (aCons (aD (mD (rComp (iSeq (eVar 1)) (gSet 2) (M.ret true) (mD (rCall s_is_between (aCons (aD (eVar 2)) (aCons (aD (eC (.int 0))) (aCons (aD (mD (rBin fSub (eVar 0) (eC (.int 1))))) aNil))))) [2]))) aNil)))))) (sRet (mR (eC (.bl false)))) sNil)
  (sRet (rCall s_is_rising (aCons (aD (eVar 1)) aNil))))
def s_is_subset : FS := sFun 3 2 b_is_subset
theorem df_is_subset (T : Tab K mg) : DF P w K mg base 3 "is_subset" (topS 5) ["size", "value"] s_is_subset := df_of (N := ["size", "value", "point"]) T.f_is_subset (by decide +kernel) rfl (fun _ _ _ _ _ _ us h => match us, h with | [u0, u1], _ => rfl) (fun W =>
  (dss_cons (ds_if (dt_w (dw_or (dt_not (dt_val (de_r (c_isi_tuple T.bs rfl rfl (de_var (vk rfl)) rfl)) (fun _ _ => rfl))) (dw_or1 (dt_not (dt_val (de_r (c_all T.bs rfl (dp_cons (do_e (de_r (dr_comp (di_seq (de_var (vk rfl))) (blkOk_by (own := [("point", 2)]) (by dsimp only; decide +kernel)) (dg_name (sk rfl)) (by decide) dts_nil (de_r (c_call (df_is_between T) rfl rfl (dp_cons (do_e (de_var (vk rfl)) rfl) (dp_cons (do_e de_int rfl) (dp_cons (do_e (de_r (dr_bin o_sub (de_var (vk rfl)) de_int)) rfl) dp_nil))))) (fun _ _ => rfl))) rfl) dp_nil))) (fun _ _ => rfl)))))) (dss_one (ds_ret (dr_e de_bl))) dss_nil)
  (dss_one (ds_ret (c_call (df_is_rising T) rfl rfl (dp_cons (do_e (de_var (vk rfl)) rfl) dp_nil))))))
/-! mask_of: names subset=0 point=1; own:  -/
def b_mask_of : M Fl :=
  (sRet (rFn (f1 gSum) (aCons (aD (mD (rComp (iSeq (eVar 0)) (gSet 1) (M.ret true) (mD (rBin fShl (eC (.int 1)) (eVar 1))) [1]))) aNil)))
def s_mask_of : FS := sFun 2 1 b_mask_of
theorem df_mask_of (T : Tab K mg) : DF P w K mg base 1 "mask_of" (topS 6) ["subset"] s_mask_of := df_of (N := ["subset", "point"]) T.f_mask_of (by decide +kernel) rfl (fun _ _ _ _ _ _ us h => match us, h with | [u0], _ => rfl) (fun W =>
  (dss_one (ds_ret (c_sum T.bs rfl (dp_cons (do_e (de_r (dr_comp (di_seq (de_var (vk rfl))) (blkOk_by (own := [("point", 1)]) (by dsimp only; decide +kernel)) (dg_name (sk rfl)) (by decide) dts_nil (de_r (dr_bin o_shl de_int (de_var (vk rfl)))) (fun _ _ => rfl))) rfl) dp_nil)))))
/-! points_in: names mask=0 point=1; own:  -/
def b_points_in : M Fl :=
  (sRet (rComp (iRng1M (aCons (aD (eBits (eVar 0))) aNil)) (gSet 1) (tCmp fEq (mD (rBin fAnd (mD (rBin fShr (eVar 0) (eVar 1))) (eC (.int 1)))) (eC (.int 1))) (eVar 1) [1]))
def s_points_in : FS := sFun 2 1 b_points_in
theorem df_points_in (T : Tab K mg) : DF P w K mg base 1 "points_in" (topS 8) ["mask"] s_points_in := df_of (N := ["mask", "point"]) T.f_points_in (by decide +kernel) rfl (fun _ _ _ _ _ _ us h => match us, h with | [u0], _ => rfl) (fun W =>
  (dss_one (ds_ret (dr_comp (c_rng1 T.bs rfl (dp_cons (do_e (de_bits (de_var (vk rfl)) (fun _ => rfl) rfl) rfl) dp_nil)) (blkOk_by (own := [("point", 1)]) (by dsimp only; decide +kernel)) (dg_name (sk rfl)) (by decide) (dts_one (dt_cmp o_eq (de_r (dr_bin o_and (de_r (dr_bin o_shr (de_var (vk rfl)) (de_var (vk rfl)))) de_int)) de_int rfl)) (de_var (vk rfl)) (fun _ _ => rfl)))))
/-! subset_of: names mask=0; own:  -/
def b_subset_of : M Fl :=
  (sRet (rFn (f1 gTuple) (aCons (aD (mD (rCall s_points_in (aCons (aD (eVar 0)) aNil)))) aNil)))
def s_subset_of : FS := sFun 1 1 b_subset_of
theorem df_subset_of (T : Tab K mg) : DF P w K mg base 2 "subset_of" (topS 7) ["mask"] s_subset_of := df_of (N := ["mask"]) T.f_subset_of (by decide +kernel) rfl (fun _ _ _ _ _ _ us h => match us, h with | [u0], _ => rfl) (fun W =>
  (dss_one (ds_ret (c_tuple T.bs rfl (dp_cons (do_e (de_r (c_call (df_points_in T) rfl rfl (dp_cons (do_e (de_var (vk rfl)) rfl) dp_nil))) rfl) dp_nil)))))
/-! joined: names one=0 other=1; own:  -/
def b_joined : M Fl :=
  (sRet (rCall s_subset_of (aCons (aD (mD (rBin fOr (mD (rCall s_mask_of (aCons (aD (eVar 0)) aNil))) (mD (rCall s_mask_of (aCons (aD (eVar 1)) aNil)))))) aNil)))
def s_joined : FS := sFun 2 2 b_joined
theorem df_joined (T : Tab K mg) : DF P w K mg base 3 "joined" (topS 9) ["one", "other"] s_joined := df_of (N := ["one", "other"]) T.f_joined (by decide +kernel) rfl (fun _ _ _ _ _ _ us h => match us, h with | [u0, u1], _ => rfl) (fun W =>
  (dss_one (ds_ret (c_call (df_subset_of T) rfl rfl (dp_cons (do_e (de_r (dr_bin o_or (de_r (c_call (df_mask_of T) rfl rfl (dp_cons (do_e (de_var (vk rfl)) rfl) dp_nil))) (de_r (c_call (df_mask_of T) rfl rfl (dp_cons (do_e (de_var (vk rfl)) rfl) dp_nil))))) rfl) dp_nil)))))
/-! shared: names one=0 other=1; own:  -/
def b_shared : M Fl :=
  (sRet (rCall s_subset_of (aCons (aD (mD (rBin fAnd (mD (rCall s_mask_of (aCons (aD (eVar 0)) aNil))) (mD (rCall s_mask_of (aCons (aD (eVar 1)) aNil)))))) aNil)))
def s_shared : FS := sFun 2 2 b_shared
theorem df_shared (T : Tab K mg) : DF P w K mg base 3 "shared" (topS 10) ["one", "other"] s_shared := df_of (N := ["one", "other"]) T.f_shared (by decide +kernel) rfl (fun _ _ _ _ _ _ us h => match us, h with | [u0, u1], _ => rfl) (fun W =>
  (dss_one (ds_ret (c_call (df_subset_of T) rfl rfl (dp_cons (do_e (de_r (dr_bin o_and (de_r (c_call (df_mask_of T) rfl rfl (dp_cons (do_e (de_var (vk rfl)) rfl) dp_nil))) (de_r (c_call (df_mask_of T) rfl rfl (dp_cons (do_e (de_var (vk rfl)) rfl) dp_nil))))) rfl) dp_nil)))))
/-! minus: names one=0 other=1; own:  -/
def b_minus : M Fl :=
  (sRet (rCall s_subset_of (aCons (aD (mD (rBin fAnd (mD (rCall s_mask_of (aCons (aD (eVar 0)) aNil))) (eUn PySem.Builtin.bitNot (mD (rCall s_mask_of (aCons (aD (eVar 1)) aNil))))))) aNil)))
def s_minus : FS := sFun 2 2 b_minus
theorem df_minus (T : Tab K mg) : DF P w K mg base 3 "minus" (topS 11) ["one", "other"] s_minus := df_of (N := ["one", "other"]) T.f_minus (by decide +kernel) rfl (fun _ _ _ _ _ _ us h => match us, h with | [u0, u1], _ => rfl) (fun W =>
  (dss_one (ds_ret (c_call (df_subset_of T) rfl rfl (dp_cons (do_e (de_r (dr_bin o_and (de_r (c_call (df_mask_of T) rfl rfl (dp_cons (do_e (de_var (vk rfl)) rfl) dp_nil))) (de_inv (de_r (c_call (df_mask_of T) rfl rfl (dp_cons (do_e (de_var (vk rfl)) rfl) dp_nil)))))) rfl) dp_nil)))))
/-! _law_cell: names script=0 k=1; own:  -/
def b__law_cell : M Fl :=
  (sRet (rIf (tCmp fLt (eVar 1) (mD (rFn (f1 gLen) (aCons (aD (eVar 0)) aNil)))) (mR (eIxV 0 (eVar 1))) (rBin fAdd (mD (rBin fMul (eC (.int 6007)) (eVar 1))) (mD (rBin fMod (mD (rFn (f1 gInt) (aCons (aD (mD (rFn (f1 gSum) (aCons (aD (mD (rSl (eVar 0) (M.ret none) (oSome (eC (.int 1)))))) aNil)))) aNil))) (eC (.int 1000033)))))))
def s__law_cell : FS := sFun 2 2 b__law_cell
theorem df__law_cell (T : Tab K mg) : DF P w K mg base 1 "_law_cell" (topS 13) ["script", "k"] s__law_cell := df_of (N := ["script", "k"]) T.f__law_cell (by decide +kernel) rfl (fun _ _ _ _ _ _ us h => match us, h with | [u0, u1], _ => rfl) (fun W =>
  (dss_one (ds_ret (dr_if (dt_cmp o_lt (de_var (vk rfl)) (de_r (c_len T.bs rfl (dp_cons (do_e (de_var (vk rfl)) rfl) dp_nil))) rfl) (dr_e (de_ixV (vk rfl) (de_var (vk rfl)) (fun _ _ => rfl))) (dr_bin o_add (de_r (dr_bin o_mul de_int (de_var (vk rfl)))) (de_r (dr_bin o_mod (de_r (c_int T.bs rfl (dp_cons (do_e (de_r (c_sum T.bs rfl (dp_cons (do_e (de_r (dr_slice (de_var (vk rfl)) dpo_none (dpo_some de_int))) rfl) dp_nil))) rfl) dp_nil))) de_int)))))))
/-! _law_box: names great=0; own:  -/
def b__law_box : M Fl :=
  (sRet (rLst (aCons (aD (mD (rFn (f1 gAbs) (aCons (aD (eVar 0)) aNil)))) (aCons (aD (mD (rBin fGe (mD (rFn (f1 gAbs) (aCons (aD (eVar 0)) aNil))) (mD (rBin fPow (eC (.int 10)) (eC (.int 18))))))) (aCons (aD (mD (rBin fMod (mD (rFn (f1 gInt) (aCons (aD (mD (rFn (f1 gAbs) (aCons (aD (eVar 0)) aNil)))) aNil))) (eC (.int 2147483629))))) (aCons (aD (eC (.int 0))) aNil))))))
def s__law_box : FS := sFun 1 1 b__law_box
theorem df__law_box (T : Tab K mg) : DF P w K mg base 1 "_law_box" (topS 14) ["great"] s__law_box := df_of (N := ["great"]) T.f__law_box (by decide +kernel) rfl (fun _ _ _ _ _ _ us h => match us, h with | [u0], _ => rfl) (fun W =>
  (dss_one (ds_ret (dr_lst (dp_cons (do_e (de_r (c_abs T.bs rfl (dp_cons (do_e (de_var (vk rfl)) rfl) dp_nil))) rfl) (dp_cons (do_e (de_r (dr_cmp o_ge (de_r (c_abs T.bs rfl (dp_cons (do_e (de_var (vk rfl)) rfl) dp_nil))) (de_r (dr_bin o_pow de_int de_int)) rfl)) rfl) (dp_cons (do_e (de_r (dr_bin o_mod (de_r (c_int T.bs rfl (dp_cons (do_e (de_r (c_abs T.bs rfl (dp_cons (do_e (de_var (vk rfl)) rfl) dp_nil))) rfl) dp_nil))) de_int)) rfl) (dp_cons (do_e de_int rfl) dp_nil))))))))
/-! _law_take: names box=0 many=1 digit=2 mixed=3; own: box -/
def b__law_take : M Fl :=
  (sSeq (sIf (tAndM (tTru (eIxV 0 (eC (.int 1)))) (tCmp fGt (eIxV 0 (eC (.int 0))) (eC (.int 0)))) (sSeq (sAsg (mD (rBin fMod (mD (rFn (f1 gInt) (aCons (aD (eIxV 0 (eC (.int 0)))) aNil))) (eVar 1))) (gSet 2))
  (sSeq (sAsg (mD (rBin fDiv (eIxV 0 (eC (.int 0))) (eVar 1))) (gIx 0 (eC (.int 0))))
  (sRet (mR (eVar 2))))) sNil)
  (sSeq (sAsg (mD (rBin fAdd (eIxV 0 (eC (.int 3))) (eC (.int 1)))) (gIx 0 (eC (.int 3))))
  (sSeq (sAsg (mD (rBin fMod (mD (rFn (f1 gInt) (aCons (aD (mD (rBin fPow (mD (rBin fAdd (mD (rBin fAdd (eIxV 0 (eC (.int 2))) (mD (rBin fMul (eC (.int 15485863)) (eIxV 0 (eC (.int 3))))))) (eC (.int 179424673)))) (eC (.int 5))))) aNil))) (eC (.int 2147483647)))) (gSet 3))
  (sRet (rBin fMod (mD (rFn (f1 gInt) (aCons (aD (mD (rBin fDiv (mD (rBin fMod (mD (rFn (f1 gInt) (aCons (aD (mD (rBin fPow (mD (rBin fAdd (mD (rBin fMul (eVar 3) (eC (.int 48271)))) (mD (rBin fMul (eC (.int 104729)) (eIxV 0 (eC (.int 3))))))) (eC (.int 3))))) aNil))) (eC (.int 2147483587)))) (eC (.int 64))))) aNil))) (eVar 1))))))
def s__law_take : FS := sFun 4 2 b__law_take
theorem df__law_take (T : Tab K mg) : DF P w K mg base 1 "_law_take" (topS 15) ["box", "many"] s__law_take := df_of (N := ["box", "many", "digit", "mixed"]) T.f__law_take (by decide +kernel) rfl (fun _ _ _ _ _ _ us h => match us, h with | [u0, u1], _ => rfl) (fun W =>
  (dss_cons (ds_if (dt_w (dw_and (dt_val (de_ixV (vk rfl) de_int (fun _ _ => rfl)) (fun _ _ => rfl)) (dw_and1 (dt_cmp o_gt (de_ixV (vk rfl) de_int (fun _ _ => rfl)) de_int rfl)))) (dss_cons (ds_set (sk rfl) (de_r (dr_bin o_mod (de_r (c_int T.bs rfl (dp_cons (do_e (de_ixV (vk rfl) de_int (fun _ _ => rfl)) rfl) dp_nil))) (de_var (vk rfl)))) (fun _ _ => rfl))
  (dss_cons (ds_asg (dg_ix (vk rfl) de_int (fun _ _ => rfl) eC_nx) (gIx_ne eC_nx) (de_r (dr_bin o_div (de_ixV (vk rfl) de_int (fun _ _ => rfl)) (de_var (vk rfl)))) (fun _ => rfl) (fun _ _ => rfl) rfl)
  (dss_one (ds_ret (dr_e (de_var (vk rfl))))))) dss_nil)
  (dss_cons (ds_asg (dg_ix (vk rfl) de_int (fun _ _ => rfl) eC_nx) (gIx_ne eC_nx) (de_r (dr_bin o_add (de_ixV (vk rfl) de_int (fun _ _ => rfl)) de_int)) (fun _ => rfl) (fun _ _ => rfl) rfl)
  (dss_cons (ds_set (sk rfl) (de_r (dr_bin o_mod (de_r (c_int T.bs rfl (dp_cons (do_e (de_r (dr_bin o_pow (de_r (dr_bin o_add (de_r (dr_bin o_add (de_ixV (vk rfl) de_int (fun _ _ => rfl)) (de_r (dr_bin o_mul de_int (de_ixV (vk rfl) de_int (fun _ _ => rfl)))))) de_int)) de_int)) rfl) dp_nil))) de_int)) (fun _ _ => rfl))
  (dss_one (ds_ret (dr_bin o_mod (de_r (c_int T.bs rfl (dp_cons (do_e (de_r (dr_bin o_div (de_r (dr_bin o_mod (de_r (c_int T.bs rfl (dp_cons (do_e (de_r (dr_bin o_pow (de_r (dr_bin o_add (de_r (dr_bin o_mul (de_var (vk rfl)) de_int)) (de_r (dr_bin o_mul de_int (de_ixV (vk rfl) de_int (fun _ _ => rfl)))))) de_int)) rfl) dp_nil))) de_int)) de_int)) rfl) dp_nil))) (de_var (vk rfl)))))))))
/-! _law_same: names told=0 due=1 k=2; own:  -/
def b__law_same (rec : FS) : M Fl :=
  (sSeq (sIf (tOrM (tCmp fIs (eVar 1) (eC .non)) (tTru (mD (rOne (eVar 1) (isiD "bool"))))) (sRet (rIf (tCmp fIs (eVar 1) (eC .non)) (rBin fIs (eVar 0) (eC .non)) (mR (eAnd (mD (rOne (eVar 0) (isiD "bool"))) (mD (rBin fEq (mD (rBin fIs (eVar 0) (eC (.bl true)))) (mD (rBin fIs (eVar 1) (eC (.bl true)))))))))) sNil)
  (sSeq (sIf (tTru (mD (rOne (eVar 1) (isiD "int")))) (sRet (mR (eAnd (mD (rOne (eVar 0) (isiD "int"))) (eAnd (eNot (mD (rOne (eVar 0) (isiD "bool")))) (mD (rBin fEq (mD (rBin fSub (mD (rFn (f1 gInt) (aCons (aD (eVar 0)) aNil))) (eVar 1))) (eC (.int 0)))))))) sNil)
  (sSeq (sIf (tTru (mD (rOne (eVar 1) (isiD "str")))) (sRet (mR (eAnd (mD (rOne (eVar 0) (isiD "str"))) (eAnd (mD (rBin fEq (mD (rFn (f1 gLen) (aCons (aD (eVar 0)) aNil))) (mD (rFn (f1 gLen) (aCons (aD (eVar 1)) aNil))))) (mD (rBin fEq (mD (rComp (iRng1M (aCons (aD (mD (rFn (f1 gLen) (aCons (aD (eVar 1)) aNil)))) aNil)) (gSet 2) (tCmp fNe (mD (rSl (eVar 0) (oSome (eVar 2)) (oSome (mD (rBin fAdd (eVar 2) (eC (.int 1))))))) (eIxV 1 (eVar 2))) (eVar 2) [2])) (mD (rLst aNil)))))))) sNil)
  (sSeq (sIf (tOrM (tCmp fNe (mD (rOne (eVar 0) (isiD "list"))) (mD (rOne (eVar 1) (isiD "list")))) (tCmp fNe (mD (rOne (eVar 0) (isiD "tuple"))) (mD (rOne (eVar 1) (isiD "tuple"))))) (sRet (mR (eC (.bl false)))) sNil)
  (sRet (mR (eAnd (mD (rBin fEq (mD (rFn (f1 gLen) (aCons (aD (eVar 0)) aNil))) (mD (rFn (f1 gLen) (aCons (aD (eVar 1)) aNil))))) (mD (rBin fEq (mD (rComp (iRng1M (aCons (aD (mD (rFn (f1 gLen) (aCons (aD (eVar 1)) aNil)))) aNil)) (gSet 2) (tNotM (tTru (mD (rCall rec (aCons (aD (eIxV 0 (eVar 2))) (aCons (aD (eIxV 1 (eVar 2))) aNil)))))) (eVar 2) [2])) (mD (rLst aNil)))))))))))
def s__law_same_f : Nat → FS
  | 0 => sFun 3 2 sNever
  | n + 1 => sFun 3 2 (b__law_same (s__law_same_f n))
def s__law_same : FS := s__law_same_f 12
theorem df__law_same_f (T : Tab K mg) : ∀ n : Nat, DF P w K mg base (0 + n + 1) "_law_same" (topS 16) ["told", "due"] (s__law_same_f n)
  | 0 => df_of (N := ["told", "due", "k"]) T.f__law_same (by decide +kernel) rfl (fun _ _ _ _ _ _ us h => match us, h with | [u0, u1], _ => rfl) (fun W => dss_no)
  | n + 1 => by
    have ih := df__law_same_f T n
    exact df_of (N := ["told", "due", "k"]) T.f__law_same (by decide +kernel) rfl (fun _ _ _ _ _ _ us h => match us, h with | [u0, u1], _ => rfl) (fun W =>
  (dss_cons (ds_if (dt_w (dw_or (dt_cmp o_is (de_var (vk rfl)) de_non rfl) (dw_or1 (dt_val (de_r (c_isi_bool T.bs rfl rfl (de_var (vk rfl)) rfl)) (fun _ _ => rfl))))) (dss_one (ds_ret (dr_if (dt_cmp o_is (de_var (vk rfl)) de_non rfl) (dr_cmp o_is (de_var (vk rfl)) de_non rfl) (dr_e (de_and (de_r (c_isi_bool T.bs rfl rfl (de_var (vk rfl)) rfl)) (de_one (de_r (dr_cmp o_eq (de_r (dr_cmp o_is (de_var (vk rfl)) de_bl rfl)) (de_r (dr_cmp o_is (de_var (vk rfl)) de_bl rfl)) rfl)))))))) dss_nil)
  (dss_cons (ds_if (dt_val (de_r (c_isi_int T.bs rfl rfl (de_var (vk rfl)) rfl)) (fun _ _ => rfl)) (dss_one (ds_ret (dr_e (de_and (de_r (c_isi_int T.bs rfl rfl (de_var (vk rfl)) rfl)) (de_and (de_not (de_r (c_isi_bool T.bs rfl rfl (de_var (vk rfl)) rfl))) (de_one (de_r (dr_cmp o_eq (de_r (dr_bin o_sub (de_r (c_int T.bs rfl (dp_cons (do_e (de_var (vk rfl)) rfl) dp_nil))) (de_var (vk rfl)))) de_int rfl)))))))) dss_nil)
  (dss_cons (ds_if (dt_val (de_r (c_isi_str T.bs rfl rfl (de_var (vk rfl)) rfl)) (fun _ _ => rfl)) (dss_one (ds_ret (dr_e (de_and (de_r (c_isi_str T.bs rfl rfl (de_var (vk rfl)) rfl)) (de_and (de_r (dr_cmp o_eq (de_r (c_len T.bs rfl (dp_cons (do_e (de_var (vk rfl)) rfl) dp_nil))) (de_r (c_len T.bs rfl (dp_cons (do_e (de_var (vk rfl)) rfl) dp_nil))) rfl)) (de_one (de_r (dr_cmp o_eq (de_r (dr_comp (c_rng1 T.bs rfl (dp_cons (do_e (de_r (c_len T.bs rfl (dp_cons (do_e (de_var (vk rfl)) rfl) dp_nil))) rfl) dp_nil)) (blkOk_by (own := [("k", 2)]) (by dsimp only; decide +kernel)) (dg_name (sk rfl)) (by decide) (dts_one (dt_cmp o_ne (de_r (dr_slice (de_var (vk rfl)) (dpo_some (de_var (vk rfl))) (dpo_some (de_r (dr_bin o_add (de_var (vk rfl)) de_int))))) (de_ixV (vk rfl) (de_var (vk rfl)) (fun _ _ => rfl)) rfl)) (de_var (vk rfl)) (fun _ _ => rfl))) (de_r (dr_lst dp_nil)) rfl)))))))) dss_nil)
  (dss_cons (ds_if (dt_w (dw_or (dt_cmp o_ne (de_r (c_isi_list T.bs rfl rfl (de_var (vk rfl)) rfl)) (de_r (c_isi_list T.bs rfl rfl (de_var (vk rfl)) rfl)) rfl) (dw_or1 (dt_cmp o_ne (de_r (c_isi_tuple T.bs rfl rfl (de_var (vk rfl)) rfl)) (de_r (c_isi_tuple T.bs rfl rfl (de_var (vk rfl)) rfl)) rfl)))) (dss_one (ds_ret (dr_e de_bl))) dss_nil)
  (dss_one (ds_ret (dr_e (de_and (de_r (dr_cmp o_eq (de_r (c_len T.bs rfl (dp_cons (do_e (de_var (vk rfl)) rfl) dp_nil))) (de_r (c_len T.bs rfl (dp_cons (do_e (de_var (vk rfl)) rfl) dp_nil))) rfl)) (de_one (de_r (dr_cmp o_eq (de_r (dr_comp (c_rng1 T.bs rfl (dp_cons (do_e (de_r (c_len T.bs rfl (dp_cons (do_e (de_var (vk rfl)) rfl) dp_nil))) rfl) dp_nil)) (blkOk_by (own := [("k", 2)]) (by dsimp only; decide +kernel)) (dg_name (sk rfl)) (by decide) (dts_one (dt_not (dt_val (de_r (c_call ih (ble_self _) rfl (dp_cons (do_e (de_ixV (vk rfl) (de_var (vk rfl)) (fun _ _ => rfl)) rfl) (dp_cons (do_e (de_ixV (vk rfl) (de_var (vk rfl)) (fun _ _ => rfl)) rfl) dp_nil)))) (fun _ _ => rfl)))) (de_var (vk rfl)) (fun _ _ => rfl))) (de_r (dr_lst dp_nil)) rfl))))))))))))
theorem df__law_same (T : Tab K mg) : DF P w K mg base 13 "_law_same" (topS 16) ["told", "due"] s__law_same := df__law_same_f T 12
/-! _law_odd: names box=0 some=1; own: box -/
def b__law_odd : M Fl :=
  (sSeq (sAsg (mD (rLst (aCons (aD (eC .non)) (aCons (aD (eC (.bl true))) (aCons (aD (eC (.bl false))) (aCons (aD (eC (.int 0))) (aCons (aD (eC (.int 1))) (aCons (aD (eUn (fun i => -i) (eC (.int 1)))) (aCons (aD (eC (.int 9))) (aCons (aD (eC (.int 10))) (aCons (aD (mD (rBin fPow (eC (.int 10)) (eC (.int 29))))) (aCons (aD (eC (.str ""))) (aCons (aD (eC (.str "0"))) (aCons (aD (mD (rLst aNil))) (aCons (aD (eTup aNil)) (aCons (aD (mD (rLst (aCons (aD (eC (.int 0))) aNil)))) (aCons (aD (eTup (aCons (aD (eC (.int 0))) aNil))) (aCons (aD (eTup (aCons (aD (eC (.int 1))) (aCons (aD (eC (.int 0))) aNil)))) (aCons (aD (eTup (aCons (aD (eC (.int 0))) (aCons (aD (eC (.int 1))) aNil)))) (aCons (aD (eTup (aCons (aD (eC (.int 0))) (aCons (aD (eC (.int 0))) aNil)))) (aCons (aD (eTup (aCons (aD (eUn (fun i => -i) (eC (.int 1)))) aNil))) (aCons (aD (eTup (aCons (aD (eC (.int 9))) aNil))) (aCons (aD (eTup (aCons (aD (eC (.bl true))) aNil))) (aCons (aD (eTup (aCons (aD (eC (.str "0"))) aNil))) (aCons (aD (eTup (aCons (aD (eC .non)) aNil))) (aCons (aD (eC (.dct []))) (aCons (aD (eC (.dct [(.inr "a", .int 1)]))) aNil))))))))))))))))))))))))))) (gSet 1))
  (sSeq (sAsg (mD (rBin fAdd (eVar 1) (mD (rLst (aCons (aD (mD (rLst (aCons (aD (eC (.int 0))) (aCons (aD (eC (.int 1))) aNil))))) (aCons (aD (eTup (aCons (aD (eTup (aCons (aD (eC (.int 0))) (aCons (aD (eC (.int 1))) aNil)))) aNil))) (aCons (aD (eTup (aCons (aD (mD (rLst (aCons (aD (eC (.int 0))) (aCons (aD (eC (.int 1))) aNil))))) aNil))) (aCons (aD (eTup (aCons (aD (eTup (aCons (aD (eC (.int 0))) (aCons (aD (eC (.int 1))) aNil)))) (aCons (aD (eTup (aCons (aD (eC (.int 1))) (aCons (aD (eC (.int 0))) aNil)))) aNil)))) (aCons (aD (eTup (aCons (aD (eTup (aCons (aD (eC (.int 0))) aNil))) aNil))) (aCons (aD (eTup (aCons (aD (eTup (aCons (aD (eC (.int 0))) (aCons (aD (eC (.int 1))) (aCons (aD (eC (.int 2))) aNil))))) aNil))) (aCons (aD (eTup (aCons (aD (eC (.int 2))) (aCons (aD (eC (.int 5))) (aCons (aD (eC (.int 8))) aNil))))) (aCons (aD (eTup (aCons (aD (eC (.int 0))) (aCons (aD (eC (.int 2))) (aCons (aD (eC (.int 1))) aNil))))) (aCons (aD (eC (.str "01"))) (aCons (aD (eTup (aCons (aD (eTup (aCons (aD (eC (.int 0))) (aCons (aD (eC (.int 1))) aNil)))) (aCons (aD (eTup (aCons (aD (eC (.int 0))) (aCons (aD (eC (.int 1))) aNil)))) aNil)))) aNil)))))))))))))) (gSet 1))
  (sRet (mR (eIxV 1 (mD (rCall s__law_take (aCons (eAt 0) (aCons (aD (mD (rFn (f1 gLen) (aCons (aD (eVar 1)) aNil)))) aNil)))))))))
def s__law_odd : FS := sFun 2 1 b__law_odd
theorem df__law_odd (T : Tab K mg) : DF P w K mg base 2 "_law_odd" (topS 17) ["box"] s__law_odd := df_of (N := ["box", "some"]) T.f__law_odd (by decide +kernel) rfl (fun _ _ _ _ _ _ us h => match us, h with | [u0], _ => rfl) (fun W =>
  (dss_cons (ds_set (sk rfl) (de_r (dr_lst (dp_cons (do_e de_non rfl) (dp_cons (do_e de_bl rfl) (dp_cons (do_e de_bl rfl) (dp_cons (do_e de_int rfl) (dp_cons (do_e de_int rfl) (dp_cons (do_e (de_neg de_int) rfl) (dp_cons (do_e de_int rfl) (dp_cons (do_e de_int rfl) (dp_cons (do_e (de_r (dr_bin o_pow de_int de_int)) rfl) (dp_cons (do_e de_str rfl) (dp_cons (do_e de_str rfl) (dp_cons (do_e (de_r (dr_lst dp_nil)) rfl) (dp_cons (do_e (de_tup dp_nil) rfl) (dp_cons (do_e (de_r (dr_lst (dp_cons (do_e de_int rfl) dp_nil))) rfl) (dp_cons (do_e (de_tup (dp_cons (do_e de_int rfl) dp_nil)) rfl) (dp_cons (do_e (de_tup (dp_cons (do_e de_int rfl) (dp_cons (do_e de_int rfl) dp_nil))) rfl) (dp_cons (do_e (de_tup (dp_cons (do_e de_int rfl) (dp_cons (do_e de_int rfl) dp_nil))) rfl) (dp_cons (do_e (de_tup (dp_cons (do_e de_int rfl) (dp_cons (do_e de_int rfl) dp_nil))) rfl) (dp_cons (do_e (de_tup (dp_cons (do_e (de_neg de_int) rfl) dp_nil)) rfl) (dp_cons (do_e (de_tup (dp_cons (do_e de_int rfl) dp_nil)) rfl) (dp_cons (do_e (de_tup (dp_cons (do_e de_bl rfl) dp_nil)) rfl) (dp_cons (do_e (de_tup (dp_cons (do_e de_str rfl) dp_nil)) rfl) (dp_cons (do_e (de_tup (dp_cons (do_e de_non rfl) dp_nil)) rfl) (dp_cons (do_e de_dict0 rfl) (dp_cons (do_e de_dict1 rfl) dp_nil))))))))))))))))))))))))))) (fun _ _ => rfl))
  (dss_cons (ds_set (sk rfl) (de_r (dr_bin o_add (de_var (vk rfl)) (de_r (dr_lst (dp_cons (do_e (de_r (dr_lst (dp_cons (do_e de_int rfl) (dp_cons (do_e de_int rfl) dp_nil)))) rfl) (dp_cons (do_e (de_tup (dp_cons (do_e (de_tup (dp_cons (do_e de_int rfl) (dp_cons (do_e de_int rfl) dp_nil))) rfl) dp_nil)) rfl) (dp_cons (do_e (de_tup (dp_cons (do_e (de_r (dr_lst (dp_cons (do_e de_int rfl) (dp_cons (do_e de_int rfl) dp_nil)))) rfl) dp_nil)) rfl) (dp_cons (do_e (de_tup (dp_cons (do_e (de_tup (dp_cons (do_e de_int rfl) (dp_cons (do_e de_int rfl) dp_nil))) rfl) (dp_cons (do_e (de_tup (dp_cons (do_e de_int rfl) (dp_cons (do_e de_int rfl) dp_nil))) rfl) dp_nil))) rfl) (dp_cons (do_e (de_tup (dp_cons (do_e (de_tup (dp_cons (do_e de_int rfl) dp_nil)) rfl) dp_nil)) rfl) (dp_cons (do_e (de_tup (dp_cons (do_e (de_tup (dp_cons (do_e de_int rfl) (dp_cons (do_e de_int rfl) (dp_cons (do_e de_int rfl) dp_nil)))) rfl) dp_nil)) rfl) (dp_cons (do_e (de_tup (dp_cons (do_e de_int rfl) (dp_cons (do_e de_int rfl) (dp_cons (do_e de_int rfl) dp_nil)))) rfl) (dp_cons (do_e (de_tup (dp_cons (do_e de_int rfl) (dp_cons (do_e de_int rfl) (dp_cons (do_e de_int rfl) dp_nil)))) rfl) (dp_cons (do_e de_str rfl) (dp_cons (do_e (de_tup (dp_cons (do_e (de_tup (dp_cons (do_e de_int rfl) (dp_cons (do_e de_int rfl) dp_nil))) rfl) (dp_cons (do_e (de_tup (dp_cons (do_e de_int rfl) (dp_cons (do_e de_int rfl) dp_nil))) rfl) dp_nil))) rfl) dp_nil)))))))))))))) (fun _ _ => rfl))
  (dss_one (ds_ret (dr_e (de_ixV (vk rfl) (de_r (c_call (df__law_take T) rfl rfl (dp_cons (do_at (vk rfl)) (dp_cons (do_e (de_r (c_len T.bs rfl (dp_cons (do_e (de_var (vk rfl)) rfl) dp_nil))) rfl) dp_nil)))) (fun _ _ => rfl))))))))
/-! _law_is_int: names value=0 least=1 most=2; own:  -/
def b__law_is_int : M Fl :=
  (sRet (mR (eAnd (mD (rOne (eVar 0) (isiD "int"))) (eAnd (eNot (mD (rOne (eVar 0) (isiD "bool")))) (mD (rChain fLe fLe (eVar 1) (eVar 0) (eVar 2)))))))
def s__law_is_int : FS := sFun 3 3 b__law_is_int
theorem df__law_is_int (T : Tab K mg) : DF P w K mg base 1 "_law_is_int" (topS 18) ["value", "least", "most"] s__law_is_int := df_of (N := ["value", "least", "most"]) T.f__law_is_int (by decide +kernel) rfl (fun _ _ _ _ _ _ us h => match us, h with | [u0, u1, u2], _ => rfl) (fun W =>
  (dss_one (ds_ret (dr_e (de_and (de_r (c_isi_int T.bs rfl rfl (de_var (vk rfl)) rfl)) (de_and (de_not (de_r (c_isi_bool T.bs rfl rfl (de_var (vk rfl)) rfl))) (de_one (de_r (dr_chain o_le o_le (de_var (vk rfl)) (de_var (vk rfl)) (de_var (vk rfl)) rfl)))))))))
/-! _law_is_set: names size=0 value=1 p=2 at=3; own:  -/
def b__law_is_set : M Fl :=
  (sSeq (sIf (tOrM (tNotM (tTru (mD (rOne (eVar 1) (isiD "tuple"))))) (tCmp fNe (mD (rComp (iSeq (eVar 1)) (gSet 2) (tNotM (tTru (mD (rCall s__law_is_int (aCons (aD (eVar 2)) (aCons (aD (eC (.int 0))) (aCons (aD (mD (rBin fSub (eVar 0) (eC (.int 1))))) aNil))))))) (eVar 2) [2])) (mD (rLst aNil)))) (sRet (mR (eC (.bl false)))) sNil)
  (sRet (rBin fEq (mD (rComp (iRng2M (aCons (aD (eC (.int 1))) (aCons (aD (mD (rFn (f1 gLen) (aCons (aD (eVar 1)) aNil)))) aNil))) (gSet 3) (tCmp fGe (eIxV 1 (mD (rBin fSub (eVar 3) (eC (.int 1))))) (eIxV 1 (eVar 3))) (eVar 3) [3])) (mD (rLst aNil)))))
def s__law_is_set : FS := sFun 4 2 b__law_is_set
theorem df__law_is_set (T : Tab K mg) : DF P w K mg base 2 "_law_is_set" (topS 19) ["size", "value"] s__law_is_set := df_of (N := ["size", "value", "p", "at"]) T.f__law_is_set (by decide +kernel) rfl (fun _ _ _ _ _ _ us h => match us, h with | [u0, u1], _ => rfl) (fun W =>
  (dss_cons (ds_if (dt_w (dw_or (dt_not (dt_val (de_r (c_isi_tuple T.bs rfl rfl (de_var (vk rfl)) rfl)) (fun _ _ => rfl))) (dw_or1 (dt_cmp o_ne (de_r (dr_comp (di_seq (de_var (vk rfl))) (blkOk_by (own := [("p", 2)]) (by dsimp only; decide +kernel)) (dg_name (sk rfl)) (by decide) (dts_one (dt_not (dt_val (de_r (c_call (df__law_is_int T) rfl rfl (dp_cons (do_e (de_var (vk rfl)) rfl) (dp_cons (do_e de_int rfl) (dp_cons (do_e (de_r (dr_bin o_sub (de_var (vk rfl)) de_int)) rfl) dp_nil))))) (fun _ _ => rfl)))) (de_var (vk rfl)) (fun _ _ => rfl))) (de_r (dr_lst dp_nil)) rfl)))) (dss_one (ds_ret (dr_e de_bl))) dss_nil)
  (dss_one (ds_ret (dr_cmp o_eq (de_r (dr_comp (c_rng2 T.bs rfl (dp_cons (do_e de_int rfl) (dp_cons (do_e (de_r (c_len T.bs rfl (dp_cons (do_e (de_var (vk rfl)) rfl) dp_nil))) rfl) dp_nil))) (blkOk_by (own := [("at", 3)]) (by dsimp only; decide +kernel)) (dg_name (sk rfl)) (by decide) (dts_one (dt_cmp o_ge (de_ixV (vk rfl) (de_r (dr_bin o_sub (de_var (vk rfl)) de_int)) (fun _ _ => rfl)) (de_ixV (vk rfl) (de_var (vk rfl)) (fun _ _ => rfl)) rfl)) (de_var (vk rfl)) (fun _ _ => rfl))) (de_r (dr_lst dp_nil)) rfl)))))
/-! _law_drawn_set: names box=0 p=1; own: box -/
def b__law_drawn_set : M Fl :=
  (sRet (rFn (f1 gTuple) (aCons (aD (mD (rComp (iRng1M (aCons (aD (eC (.int 9))) aNil)) (gSet 1) (tCmp fEq (mD (rCall s__law_take (aCons (eAt 0) (aCons (aD (eC (.int 2))) aNil)))) (eC (.int 0))) (eVar 1) [1]))) aNil)))
def s__law_drawn_set : FS := sFun 2 1 b__law_drawn_set
theorem df__law_drawn_set (T : Tab K mg) : DF P w K mg base 2 "_law_drawn_set" (topS 20) ["box"] s__law_drawn_set := df_of (N := ["box", "p"]) T.f__law_drawn_set (by decide +kernel) rfl (fun _ _ _ _ _ _ us h => match us, h with | [u0], _ => rfl) (fun W =>
  (dss_one (ds_ret (c_tuple T.bs rfl (dp_cons (do_e (de_r (dr_comp (c_rng1 T.bs rfl (dp_cons (do_e de_int rfl) dp_nil)) (blkOk_by (own := [("p", 1)]) (by dsimp only; decide +kernel)) (dg_name (sk rfl)) (by decide) (dts_one (dt_cmp o_eq (de_r (c_call (df__law_take T) rfl rfl (dp_cons (do_at (vk rfl)) (dp_cons (do_e de_int rfl) dp_nil)))) de_int rfl)) (de_var (vk rfl)) (fun _ _ => rfl))) rfl) dp_nil)))))
/-! _law_partner: names box=0 one=1 other=2 p=3; own: box -/
def b__law_partner : M Fl :=
  (sSeq (sAsg (mD (rCall s__law_drawn_set (aCons (eAt 0) aNil))) (gSet 2))
  (sRet (mR (eIx (mD (rLst (aCons (aD (eVar 2)) (aCons (aD (eVar 1)) (aCons (aD (mD (rFn (f1 gTuple) (aCons (aD (mD (rComp (iSeq (eVar 2)) (gSet 3) (tCmp fIn (eVar 3) (eVar 1)) (eVar 3) [3]))) aNil)))) (aCons (aD (mD (rFn (f1 gTuple) (aCons (aD (mD (rComp (iSeq (eVar 2)) (gSet 3) (tCmp fNotIn (eVar 3) (eVar 1)) (eVar 3) [3]))) aNil)))) (aCons (aD (eTup aNil)) aNil))))))) (mD (rCall s__law_take (aCons (eAt 0) (aCons (aD (eC (.int 5))) aNil))))))))
def s__law_partner : FS := sFun 4 2 b__law_partner
theorem df__law_partner (T : Tab K mg) : DF P w K mg base 3 "_law_partner" (topS 21) ["box", "one"] s__law_partner := df_of (N := ["box", "one", "other", "p"]) T.f__law_partner (by decide +kernel) rfl (fun _ _ _ _ _ _ us h => match us, h with | [u0, u1], _ => rfl) (fun W =>
  (dss_cons (ds_set (sk rfl) (de_r (c_call (df__law_drawn_set T) rfl rfl (dp_cons (do_at (vk rfl)) dp_nil))) (fun _ _ => rfl))
  (dss_one (ds_ret (dr_e (de_ix (de_r (dr_lst (dp_cons (do_e (de_var (vk rfl)) rfl) (dp_cons (do_e (de_var (vk rfl)) rfl) (dp_cons (do_e (de_r (c_tuple T.bs rfl (dp_cons (do_e (de_r (dr_comp (di_seq (de_var (vk rfl))) (blkOk_by (own := [("p", 3)]) (by dsimp only; decide +kernel)) (dg_name (sk rfl)) (by decide) (dts_one (dt_cmp o_in (de_var (vk rfl)) (de_var (vk rfl)) rfl)) (de_var (vk rfl)) (fun _ _ => rfl))) rfl) dp_nil))) rfl) (dp_cons (do_e (de_r (c_tuple T.bs rfl (dp_cons (do_e (de_r (dr_comp (di_seq (de_var (vk rfl))) (blkOk_by (own := [("p", 3)]) (by dsimp only; decide +kernel)) (dg_name (sk rfl)) (by decide) (dts_one (dt_cmp o_notin (de_var (vk rfl)) (de_var (vk rfl)) rfl)) (de_var (vk rfl)) (fun _ _ => rfl))) rfl) dp_nil))) rfl) (dp_cons (do_e (de_tup dp_nil) rfl) dp_nil))))))) (de_r (c_call (df__law_take T) rfl rfl (dp_cons (do_at (vk rfl)) (dp_cons (do_e de_int rfl) dp_nil)))) (fun _ _ => rfl)))))))
/-! _law_near: names box=0 size=1 subset=2 some=3; own: box -/
def b__law_near : M Fl :=
  (sSeq (sAsg (mD (rLst (aCons (aD (mD (rFn (f1 gList) (aCons (aD (eVar 2)) aNil)))) (aCons (aD (mD (rBin fAdd (eVar 2) (mD (rSl (eVar 2) (oSome (eUn (fun i => -i) (eC (.int 1)))) (M.ret none)))))) (aCons (aD (mD (rRev (eVar 2)))) (aCons (aD (mD (rBin fAdd (eVar 2) (eTup (aCons (aD (eVar 1)) aNil))))) (aCons (aD (mD (rBin fAdd (eTup (aCons (aD (eUn (fun i => -i) (eC (.int 1)))) aNil)) (eVar 2)))) (aCons (aD (mD (rBin fAdd (eVar 2) (eTup (aCons (aD (eC (.bl true))) aNil))))) (aCons (aD (mD (rBin fAdd (eVar 2) (eTup (aCons (aD (eC .non)) aNil))))) (aCons (aD (mD (rSl (eVar 2) (oSome (eC (.int 1))) (M.ret none)))) (aCons (aD (eVar 2)) aNil))))))))))) (gSet 3))
  (sRet (mR (eIxV 3 (mD (rCall s__law_take (aCons (eAt 0) (aCons (aD (mD (rFn (f1 gLen) (aCons (aD (eVar 3)) aNil)))) aNil))))))))
def s__law_near : FS := sFun 4 3 b__law_near
theorem df__law_near (T : Tab K mg) : DF P w K mg base 2 "_law_near" (topS 22) ["box", "size", "subset"] s__law_near := df_of (N := ["box", "size", "subset", "some"]) T.f__law_near (by decide +kernel) rfl (fun _ _ _ _ _ _ us h => match us, h with | [u0, u1, u2], _ => rfl) (fun W =>
  (dss_cons (ds_set (sk rfl) (de_r (dr_lst (dp_cons (do_e (de_r (c_list T.bs rfl (dp_cons (do_e (de_var (vk rfl)) rfl) dp_nil))) rfl) (dp_cons (do_e (de_r (dr_bin o_add (de_var (vk rfl)) (de_r (dr_slice (de_var (vk rfl)) (dpo_some (de_neg de_int)) dpo_none)))) rfl) (dp_cons (do_e (de_r (dr_rev (de_var (vk rfl)))) rfl) (dp_cons (do_e (de_r (dr_bin o_add (de_var (vk rfl)) (de_tup (dp_cons (do_e (de_var (vk rfl)) rfl) dp_nil)))) rfl) (dp_cons (do_e (de_r (dr_bin o_add (de_tup (dp_cons (do_e (de_neg de_int) rfl) dp_nil)) (de_var (vk rfl)))) rfl) (dp_cons (do_e (de_r (dr_bin o_add (de_var (vk rfl)) (de_tup (dp_cons (do_e de_bl rfl) dp_nil)))) rfl) (dp_cons (do_e (de_r (dr_bin o_add (de_var (vk rfl)) (de_tup (dp_cons (do_e de_non rfl) dp_nil)))) rfl) (dp_cons (do_e (de_r (dr_slice (de_var (vk rfl)) (dpo_some de_int) dpo_none)) rfl) (dp_cons (do_e (de_var (vk rfl)) rfl) dp_nil))))))))))) (fun _ _ => rfl))
  (dss_one (ds_ret (dr_e (de_ixV (vk rfl) (de_r (c_call (df__law_take T) rfl rfl (dp_cons (do_at (vk rfl)) (dp_cons (do_e (de_r (c_len T.bs rfl (dp_cons (do_e (de_var (vk rfl)) rfl) dp_nil))) rfl) dp_nil)))) (fun _ _ => rfl)))))))
/-! _law_pair_right: names one=0 other=1 first=2 second=3 due=4 p=5; own:  -/
def b__law_pair_right : M Fl :=
  (sSeq (sAsg (eTup (aCons (aD (mD (rComp (iRng1M (aCons (aD (eC (.int 9))) aNil)) (gSet 5) (M.ret true) (mD (rBin fIn (eVar 5) (eVar 0))) [5]))) (aCons (aD (mD (rComp (iRng1M (aCons (aD (eC (.int 9))) aNil)) (gSet 5) (M.ret true) (mD (rBin fIn (eVar 5) (eVar 1))) [5]))) aNil))) (gSeqM 2 (gConsM (gSet 2) (gConsM (gSet 3) gNilM))))
  (sSeq (sAsg (mD (rLst (aCons (aD (mD (rFn (f1 gTuple) (aCons (aD (mD (rComp (iRng1M (aCons (aD (eC (.int 9))) aNil)) (gSet 5) (tOrM (tTru (eIxV 2 (eVar 5))) (tTru (eIxV 3 (eVar 5)))) (eVar 5) [5]))) aNil)))) (aCons (aD (mD (rFn (f1 gTuple) (aCons (aD (mD (rComp (iRng1M (aCons (aD (eC (.int 9))) aNil)) (gSet 5) (tAndM (tTru (eIxV 2 (eVar 5))) (tTru (eIxV 3 (eVar 5)))) (eVar 5) [5]))) aNil)))) aNil)))) (gSet 4))
  (sSeq (sAsg (mD (rBin fAdd (eVar 4) (mD (rLst (aCons (aD (mD (rFn (f1 gTuple) (aCons (aD (mD (rComp (iRng1M (aCons (aD (eC (.int 9))) aNil)) (gSet 5) (tAndM (tTru (eIxV 2 (eVar 5))) (tNotM (tTru (eIxV 3 (eVar 5))))) (eVar 5) [5]))) aNil)))) (aCons (aD (mD (rFn (f1 gTuple) (aCons (aD (mD (rComp (iRng1M (aCons (aD (eC (.int 9))) aNil)) (gSet 5) (tAndM (tTru (eIxV 3 (eVar 5))) (tNotM (tTru (eIxV 2 (eVar 5))))) (eVar 5) [5]))) aNil)))) aNil)))))) (gSet 4))
  (sSeq (sIf (tNotM (tTru (mD (rCall s__law_same (aCons (aD (mD (rLst (aCons (aD (mD (rCall s_joined (aCons (aD (eVar 0)) (aCons (aD (eVar 1)) aNil))))) (aCons (aD (mD (rCall s_shared (aCons (aD (eVar 0)) (aCons (aD (eVar 1)) aNil))))) (aCons (aD (mD (rCall s_minus (aCons (aD (eVar 0)) (aCons (aD (eVar 1)) aNil))))) (aCons (aD (mD (rCall s_minus (aCons (aD (eVar 1)) (aCons (aD (eVar 0)) aNil))))) aNil))))))) (aCons (aD (eVar 4)) aNil)))))) (sRet (mR (eC (.bl false)))) sNil)
  (sRet (rCall s__law_same (aCons (aD (mD (rLst (aCons (aD (mD (rCallK s_joined 0 2 [1, 0] aNil (aCons (aD (eVar 1)) (aCons (aD (eVar 0)) aNil))))) (aCons (aD (mD (rCallK s_shared 0 2 [1, 0] aNil (aCons (aD (eVar 0)) (aCons (aD (eVar 1)) aNil))))) (aCons (aD (mD (rCallK s_minus 0 2 [1, 0] aNil (aCons (aD (eVar 0)) (aCons (aD (eVar 1)) aNil))))) aNil)))))) (aCons (aD (mD (rLst (aCons (aD (eIxV 4 (eC (.int 0)))) (aCons (aD (eIxV 4 (eC (.int 1)))) (aCons (aD (eIxV 4 (eC (.int 3)))) aNil)))))) aNil))))))))
def s__law_pair_right : FS := sFun 6 2 b__law_pair_right
theorem df__law_pair_right (T : Tab K mg) : DF P w K mg base 14 "_law_pair_right" (topS 23) ["one", "other"] s__law_pair_right := df_of (N := ["one", "other", "first", "second", "due", "p"]) T.f__law_pair_right (by decide +kernel) rfl (fun _ _ _ _ _ _ us h => match us, h with | [u0, u1], _ => rfl) (fun W =>
  (dss_cons (ds_asg (dg_seq (dgs_cons rfl (dg_name (sk rfl)) (dgs_cons rfl (dg_name (sk rfl)) dgs_nil))) (gSeq_ne (gCons_ne gSet_ne (gCons_ne gSet_ne gNil_ne))) (de_tup (dp_cons (do_e (de_r (dr_comp (c_rng1 T.bs rfl (dp_cons (do_e de_int rfl) dp_nil)) (blkOk_by (own := [("p", 5)]) (by dsimp only; decide +kernel)) (dg_name (sk rfl)) (by decide) dts_nil (de_r (dr_cmp o_in (de_var (vk rfl)) (de_var (vk rfl)) rfl)) (fun _ _ => rfl))) rfl) (dp_cons (do_e (de_r (dr_comp (c_rng1 T.bs rfl (dp_cons (do_e de_int rfl) dp_nil)) (blkOk_by (own := [("p", 5)]) (by dsimp only; decide +kernel)) (dg_name (sk rfl)) (by decide) dts_nil (de_r (dr_cmp o_in (de_var (vk rfl)) (de_var (vk rfl)) rfl)) (fun _ _ => rfl))) rfl) dp_nil))) (fun _ => rfl) (by intro env h; cases env; cases h; rfl) rfl)
  (dss_cons (ds_set (sk rfl) (de_r (dr_lst (dp_cons (do_e (de_r (c_tuple T.bs rfl (dp_cons (do_e (de_r (dr_comp (c_rng1 T.bs rfl (dp_cons (do_e de_int rfl) dp_nil)) (blkOk_by (own := [("p", 5)]) (by dsimp only; decide +kernel)) (dg_name (sk rfl)) (by decide) (dts_one (dt_w (dw_or (dt_val (de_ixV (vk rfl) (de_var (vk rfl)) (fun _ _ => rfl)) (fun _ _ => rfl)) (dw_or1 (dt_val (de_ixV (vk rfl) (de_var (vk rfl)) (fun _ _ => rfl)) (fun _ _ => rfl)))))) (de_var (vk rfl)) (fun _ _ => rfl))) rfl) dp_nil))) rfl) (dp_cons (do_e (de_r (c_tuple T.bs rfl (dp_cons (do_e (de_r (dr_comp (c_rng1 T.bs rfl (dp_cons (do_e de_int rfl) dp_nil)) (blkOk_by (own := [("p", 5)]) (by dsimp only; decide +kernel)) (dg_name (sk rfl)) (by decide) (dts_one (dt_w (dw_and (dt_val (de_ixV (vk rfl) (de_var (vk rfl)) (fun _ _ => rfl)) (fun _ _ => rfl)) (dw_and1 (dt_val (de_ixV (vk rfl) (de_var (vk rfl)) (fun _ _ => rfl)) (fun _ _ => rfl)))))) (de_var (vk rfl)) (fun _ _ => rfl))) rfl) dp_nil))) rfl) dp_nil)))) (fun _ _ => rfl))
  (dss_cons (ds_set (sk rfl) (de_r (dr_bin o_add (de_var (vk rfl)) (de_r (dr_lst (dp_cons (do_e (de_r (c_tuple T.bs rfl (dp_cons (do_e (de_r (dr_comp (c_rng1 T.bs rfl (dp_cons (do_e de_int rfl) dp_nil)) (blkOk_by (own := [("p", 5)]) (by dsimp only; decide +kernel)) (dg_name (sk rfl)) (by decide) (dts_one (dt_w (dw_and (dt_val (de_ixV (vk rfl) (de_var (vk rfl)) (fun _ _ => rfl)) (fun _ _ => rfl)) (dw_and1 (dt_not (dt_val (de_ixV (vk rfl) (de_var (vk rfl)) (fun _ _ => rfl)) (fun _ _ => rfl))))))) (de_var (vk rfl)) (fun _ _ => rfl))) rfl) dp_nil))) rfl) (dp_cons (do_e (de_r (c_tuple T.bs rfl (dp_cons (do_e (de_r (dr_comp (c_rng1 T.bs rfl (dp_cons (do_e de_int rfl) dp_nil)) (blkOk_by (own := [("p", 5)]) (by dsimp only; decide +kernel)) (dg_name (sk rfl)) (by decide) (dts_one (dt_w (dw_and (dt_val (de_ixV (vk rfl) (de_var (vk rfl)) (fun _ _ => rfl)) (fun _ _ => rfl)) (dw_and1 (dt_not (dt_val (de_ixV (vk rfl) (de_var (vk rfl)) (fun _ _ => rfl)) (fun _ _ => rfl))))))) (de_var (vk rfl)) (fun _ _ => rfl))) rfl) dp_nil))) rfl) dp_nil)))))) (fun _ _ => rfl))
  (dss_cons (ds_if (dt_not (dt_val (de_r (c_call (df__law_same T) rfl rfl (dp_cons (do_e (de_r (dr_lst (dp_cons (do_e (de_r (c_call (df_joined T) rfl rfl (dp_cons (do_e (de_var (vk rfl)) rfl) (dp_cons (do_e (de_var (vk rfl)) rfl) dp_nil)))) rfl) (dp_cons (do_e (de_r (c_call (df_shared T) rfl rfl (dp_cons (do_e (de_var (vk rfl)) rfl) (dp_cons (do_e (de_var (vk rfl)) rfl) dp_nil)))) rfl) (dp_cons (do_e (de_r (c_call (df_minus T) rfl rfl (dp_cons (do_e (de_var (vk rfl)) rfl) (dp_cons (do_e (de_var (vk rfl)) rfl) dp_nil)))) rfl) (dp_cons (do_e (de_r (c_call (df_minus T) rfl rfl (dp_cons (do_e (de_var (vk rfl)) rfl) (dp_cons (do_e (de_var (vk rfl)) rfl) dp_nil)))) rfl) dp_nil)))))) rfl) (dp_cons (do_e (de_var (vk rfl)) rfl) dp_nil)))) (fun _ _ => rfl))) (dss_one (ds_ret (dr_e de_bl))) dss_nil)
  (dss_one (ds_ret (c_call (df__law_same T) rfl rfl (dp_cons (do_e (de_r (dr_lst (dp_cons (do_e (de_r (c_callK0 (df_joined T) rfl rfl (dk_cons (do_e (de_var (vk rfl)) rfl) (dk_cons (do_e (de_var (vk rfl)) rfl) dk_nil)) (show KwOk "joined" (topS 9) ["one", "other"] ["other", "one"] 0 [1, 0] from ⟨rfl, fun _ _ _ _ _ _ us ws h1 h2 => match us, ws, h1, h2 with | [], [w0, w1], _, _ => rfl⟩) (fun _ => rfl) (fun _ => rfl) (fun _ => rfl))) rfl) (dp_cons (do_e (de_r (c_callK0 (df_shared T) rfl rfl (dk_cons (do_e (de_var (vk rfl)) rfl) (dk_cons (do_e (de_var (vk rfl)) rfl) dk_nil)) (show KwOk "shared" (topS 10) ["one", "other"] ["other", "one"] 0 [1, 0] from ⟨rfl, fun _ _ _ _ _ _ us ws h1 h2 => match us, ws, h1, h2 with | [], [w0, w1], _, _ => rfl⟩) (fun _ => rfl) (fun _ => rfl) (fun _ => rfl))) rfl) (dp_cons (do_e (de_r (c_callK0 (df_minus T) rfl rfl (dk_cons (do_e (de_var (vk rfl)) rfl) (dk_cons (do_e (de_var (vk rfl)) rfl) dk_nil)) (show KwOk "minus" (topS 11) ["one", "other"] ["other", "one"] 0 [1, 0] from ⟨rfl, fun _ _ _ _ _ _ us ws h1 h2 => match us, ws, h1, h2 with | [], [w0, w1], _, _ => rfl⟩) (fun _ => rfl) (fun _ => rfl) (fun _ => rfl))) rfl) dp_nil))))) rfl) (dp_cons (do_e (de_r (dr_lst (dp_cons (do_e (de_ixV (vk rfl) de_int (fun _ _ => rfl)) rfl) (dp_cons (do_e (de_ixV (vk rfl) de_int (fun _ _ => rfl)) rfl) (dp_cons (do_e (de_ixV (vk rfl) de_int (fun _ _ => rfl)) rfl) dp_nil))))) rfl) dp_nil))))))))))
/-! law: names script=0 k=1 box=2 turn=3 one=4 other=5 number=6 p=7 mask=8 size=9 inside=10 value=11 due=12; own: box -/
def b_law : M Fl :=
  (sSeq (sFor (iRng1M (aCons (aD (mD (rFn (fMax) (aCons (aD (eC (.int 2))) (aCons (aD (mD (rFn (fMin) (aCons (aD (eC (.int 6))) (aCons (aD (mD (rFn (f1 gLen) (aCons (aD (eVar 0)) aNil)))) aNil))))) aNil))))) aNil)) (gSet 1)
  (sSeq (sOwn (rCall s__law_box (aCons (aD (mD (rCall s__law_cell (aCons (aD (eVar 0)) (aCons (aD (eVar 1)) aNil))))) aNil)) 2)
  (sFor (iRng1M (aCons (aD (eC (.int 4))) aNil)) (gSet 3)
  (sSeq (sAsg (mD (rCall s__law_drawn_set (aCons (eAt 2) aNil))) (gSet 4))
  (sSeq (sAsg (mD (rCall s__law_partner (aCons (eAt 2) (aCons (aD (eVar 4)) aNil)))) (gSet 5))
  (sSeq (sAsg (eC (.int 0)) (gSet 6))
  (sSeq (sFor (iSeq (eVar 4)) (gSet 7)
  (sAsg (mD (rBin fAdd (eVar 6) (mD (rBin fShl (eC (.int 1)) (eVar 7))))) (gSet 6)))
  (sSeq (sIf (tNotM (tTru (mD (rCall s__law_same (aCons (aD (mD (rLst (aCons (aD (mD (rCall s_mask_of (aCons (aD (eVar 4)) aNil)))) (aCons (aD (mD (rCallK s_mask_of 0 1 [0] aNil (aCons (aD (eVar 4)) aNil)))) (aCons (aD (mD (rCall s_subset_of (aCons (aD (eVar 6)) aNil)))) (aCons (aD (mD (rCallK s_subset_of 0 1 [0] aNil (aCons (aD (eVar 6)) aNil)))) aNil))))))) (aCons (aD (mD (rLst (aCons (aD (eVar 6)) (aCons (aD (eVar 6)) (aCons (aD (eVar 4)) (aCons (aD (eVar 4)) aNil))))))) aNil)))))) (sRet (mR (eC (.bl false)))) sNil)
  (sSeq (sAsg (mD (rCall s__law_take (aCons (eAt 2) (aCons (aD (eC (.int 512))) aNil)))) (gSet 8))
  (sSeq (sIf (tNotM (tTru (mD (rCall s__law_same (aCons (aD (mD (rLst (aCons (aD (mD (rCall s_subset_of (aCons (aD (eVar 8)) aNil)))) (aCons (aD (mD (rCall s_mask_of (aCons (aD (mD (rCall s_subset_of (aCons (aD (eVar 8)) aNil)))) aNil)))) aNil))))) (aCons (aD (mD (rLst (aCons (aD (mD (rFn (f1 gTuple) (aCons (aD (mD (rComp (iRng1M (aCons (aD (eC (.int 9))) aNil)) (gSet 7) (tTru (mD (rBin fAnd (mD (rBin fShr (eVar 8) (eVar 7))) (eC (.int 1))))) (eVar 7) [7]))) aNil)))) (aCons (aD (eVar 8)) aNil))))) aNil)))))) (sRet (mR (eC (.bl false)))) sNil)
  (sSeq (sIf (tNotM (tTru (mD (rCall s__law_pair_right (aCons (aD (eVar 4)) (aCons (aD (eVar 5)) aNil)))))) (sRet (mR (eC (.bl false)))) sNil)
  (sSeq (sAsg (mD (rCall s__law_take (aCons (eAt 2) (aCons (aD (eC (.int 10))) aNil)))) (gSet 9))
  (sSeq (sAsg (mD (rFn (f1 gTuple) (aCons (aD (mD (rComp (iSeq (eVar 4)) (gSet 7) (tCmp fLt (eVar 7) (eVar 9)) (eVar 7) [7]))) aNil))) (gSet 10))
  (sFor (iSeq (mD (rLst (aCons (aD (eVar 10)) (aCons (aD (eVar 4)) (aCons (aD (mD (rCall s__law_near (aCons (eAt 2) (aCons (aD (eVar 9)) (aCons (aD (eVar 10)) aNil)))))) (aCons (aD (mD (rCall s__law_near (aCons (eAt 2) (aCons (aD (eVar 9)) (aCons (aD (eVar 10)) aNil)))))) (aCons (aD (mD (rCall s__law_odd (aCons (eAt 2) aNil)))) aNil)))))))) (gSet 11)
  (sSeq (sAsg (mD (rCall s__law_is_set (aCons (aD (eVar 9)) (aCons (aD (eVar 11)) aNil)))) (gSet 12))
  (sIf (tNotM (tTru (mD (rCall s__law_same (aCons (aD (mD (rLst (aCons (aD (mD (rCall s_is_subset (aCons (aD (eVar 9)) (aCons (aD (eVar 11)) aNil))))) (aCons (aD (mD (rCallK s_is_subset 0 2 [1, 0] aNil (aCons (aD (eVar 11)) (aCons (aD (eVar 9)) aNil))))) aNil))))) (aCons (aD (mD (rLst (aCons (aD (eVar 12)) (aCons (aD (eVar 12)) aNil))))) aNil)))))) (sRet (mR (eC (.bl false)))) sNil))))))))))))))))
  (sRet (mR (eC (.bl true)))))
def s_law : FS := sFun 13 1 b_law
theorem df_law (T : Tab K mg) : DF P w K mg base 15 "law" (topS 24) ["script"] s_law := df_of (N := ["script", "k", "box", "turn", "one", "other", "number", "p", "mask", "size", "inside", "value", "due"]) T.f_law (by decide +kernel) rfl (fun _ _ _ _ _ _ us h => match us, h with | [u0], _ => rfl) (fun W =>
  (dss_cons (ds_for (c_rng1 T.bs rfl (dp_cons (do_e (de_r (c_max T.bs rfl (dp_cons (do_e de_int rfl) (dp_cons (do_e (de_r (c_min T.bs rfl (dp_cons (do_e de_int rfl) (dp_cons (do_e (de_r (c_len T.bs rfl (dp_cons (do_e (de_var (vk rfl)) rfl) dp_nil))) rfl) dp_nil)))) rfl) dp_nil)))) rfl) dp_nil)) (dg_name (sk rfl)) gSet_ne (dss_cons (ds_own (sk rfl) (c_call (df__law_box T) rfl rfl (dp_cons (do_e (de_r (c_call (df__law_cell T) rfl rfl (dp_cons (do_e (de_var (vk rfl)) rfl) (dp_cons (do_e (de_var (vk rfl)) rfl) dp_nil)))) rfl) dp_nil)) (fun _ _ => rfl))
  (dss_one (ds_for (c_rng1 T.bs rfl (dp_cons (do_e de_int rfl) dp_nil)) (dg_name (sk rfl)) gSet_ne (dss_cons (ds_set (sk rfl) (de_r (c_call (df__law_drawn_set T) rfl rfl (dp_cons (do_at (vk rfl)) dp_nil))) (fun _ _ => rfl))
  (dss_cons (ds_set (sk rfl) (de_r (c_call (df__law_partner T) rfl rfl (dp_cons (do_at (vk rfl)) (dp_cons (do_e (de_var (vk rfl)) rfl) dp_nil)))) (fun _ _ => rfl))
  (dss_cons (ds_set (sk rfl) de_int (fun _ _ => rfl))
  (dss_cons (ds_for (di_seq (de_var (vk rfl))) (dg_name (sk rfl)) gSet_ne (dss_one (ds_set (sk rfl) (de_r (dr_bin o_add (de_var (vk rfl)) (de_r (dr_bin o_shl de_int (de_var (vk rfl)))))) (fun _ _ => rfl))) (fun _ _ => rfl))
  (dss_cons (ds_if (dt_not (dt_val (de_r (c_call (df__law_same T) rfl rfl (dp_cons (do_e (de_r (dr_lst (dp_cons (do_e (de_r (c_call (df_mask_of T) rfl rfl (dp_cons (do_e (de_var (vk rfl)) rfl) dp_nil))) rfl) (dp_cons (do_e (de_r (c_callK0 (df_mask_of T) rfl rfl (dk_cons (do_e (de_var (vk rfl)) rfl) dk_nil) (show KwOk "mask_of" (topS 6) ["subset"] ["subset"] 0 [0] from ⟨rfl, fun _ _ _ _ _ _ us ws h1 h2 => match us, ws, h1, h2 with | [], [w0], _, _ => rfl⟩) (fun _ => rfl) (fun _ => rfl) (fun _ => rfl))) rfl) (dp_cons (do_e (de_r (c_call (df_subset_of T) rfl rfl (dp_cons (do_e (de_var (vk rfl)) rfl) dp_nil))) rfl) (dp_cons (do_e (de_r (c_callK0 (df_subset_of T) rfl rfl (dk_cons (do_e (de_var (vk rfl)) rfl) dk_nil) (show KwOk "subset_of" (topS 7) ["mask"] ["mask"] 0 [0] from ⟨rfl, fun _ _ _ _ _ _ us ws h1 h2 => match us, ws, h1, h2 with | [], [w0], _, _ => rfl⟩) (fun _ => rfl) (fun _ => rfl) (fun _ => rfl))) rfl) dp_nil)))))) rfl) (dp_cons (do_e (de_r (dr_lst (dp_cons (do_e (de_var (vk rfl)) rfl) (dp_cons (do_e (de_var (vk rfl)) rfl) (dp_cons (do_e (de_var (vk rfl)) rfl) (dp_cons (do_e (de_var (vk rfl)) rfl) dp_nil)))))) rfl) dp_nil)))) (fun _ _ => rfl))) (dss_one (ds_ret (dr_e de_bl))) dss_nil)
  (dss_cons (ds_set (sk rfl) (de_r (c_call (df__law_take T) rfl rfl (dp_cons (do_at (vk rfl)) (dp_cons (do_e de_int rfl) dp_nil)))) (fun _ _ => rfl))
  (dss_cons (ds_if (dt_not (dt_val (de_r (c_call (df__law_same T) rfl rfl (dp_cons (do_e (de_r (dr_lst (dp_cons (do_e (de_r (c_call (df_subset_of T) rfl rfl (dp_cons (do_e (de_var (vk rfl)) rfl) dp_nil))) rfl) (dp_cons (do_e (de_r (c_call (df_mask_of T) rfl rfl (dp_cons (do_e (de_r (c_call (df_subset_of T) rfl rfl (dp_cons (do_e (de_var (vk rfl)) rfl) dp_nil))) rfl) dp_nil))) rfl) dp_nil)))) rfl) (dp_cons (do_e (de_r (dr_lst (dp_cons (do_e (de_r (c_tuple T.bs rfl (dp_cons (do_e (de_r (dr_comp (c_rng1 T.bs rfl (dp_cons (do_e de_int rfl) dp_nil)) (blkOk_by (own := [("p", 7)]) (by dsimp only; decide +kernel)) (dg_name (sk rfl)) (by decide) (dts_one (dt_val (de_r (dr_bin o_and (de_r (dr_bin o_shr (de_var (vk rfl)) (de_var (vk rfl)))) de_int)) (fun _ _ => rfl))) (de_var (vk rfl)) (fun _ _ => rfl))) rfl) dp_nil))) rfl) (dp_cons (do_e (de_var (vk rfl)) rfl) dp_nil)))) rfl) dp_nil)))) (fun _ _ => rfl))) (dss_one (ds_ret (dr_e de_bl))) dss_nil)
  (dss_cons (ds_if (dt_not (dt_val (de_r (c_call (df__law_pair_right T) rfl rfl (dp_cons (do_e (de_var (vk rfl)) rfl) (dp_cons (do_e (de_var (vk rfl)) rfl) dp_nil)))) (fun _ _ => rfl))) (dss_one (ds_ret (dr_e de_bl))) dss_nil)
  (dss_cons (ds_set (sk rfl) (de_r (c_call (df__law_take T) rfl rfl (dp_cons (do_at (vk rfl)) (dp_cons (do_e de_int rfl) dp_nil)))) (fun _ _ => rfl))
  (dss_cons (ds_set (sk rfl) (de_r (c_tuple T.bs rfl (dp_cons (do_e (de_r (dr_comp (di_seq (de_var (vk rfl))) (blkOk_by (own := [("p", 7)]) (by dsimp only; decide +kernel)) (dg_name (sk rfl)) (by decide) (dts_one (dt_cmp o_lt (de_var (vk rfl)) (de_var (vk rfl)) rfl)) (de_var (vk rfl)) (fun _ _ => rfl))) rfl) dp_nil))) (fun _ _ => rfl))
  (dss_one (ds_for (di_seq (de_r (dr_lst (dp_cons (do_e (de_var (vk rfl)) rfl) (dp_cons (do_e (de_var (vk rfl)) rfl) (dp_cons (do_e (de_r (c_call (df__law_near T) rfl rfl (dp_cons (do_at (vk rfl)) (dp_cons (do_e (de_var (vk rfl)) rfl) (dp_cons (do_e (de_var (vk rfl)) rfl) dp_nil))))) rfl) (dp_cons (do_e (de_r (c_call (df__law_near T) rfl rfl (dp_cons (do_at (vk rfl)) (dp_cons (do_e (de_var (vk rfl)) rfl) (dp_cons (do_e (de_var (vk rfl)) rfl) dp_nil))))) rfl) (dp_cons (do_e (de_r (c_call (df__law_odd T) rfl rfl (dp_cons (do_at (vk rfl)) dp_nil))) rfl) dp_nil)))))))) (dg_name (sk rfl)) gSet_ne (dss_cons (ds_set (sk rfl) (de_r (c_call (df__law_is_set T) rfl rfl (dp_cons (do_e (de_var (vk rfl)) rfl) (dp_cons (do_e (de_var (vk rfl)) rfl) dp_nil)))) (fun _ _ => rfl))
  (dss_one (ds_if (dt_not (dt_val (de_r (c_call (df__law_same T) rfl rfl (dp_cons (do_e (de_r (dr_lst (dp_cons (do_e (de_r (c_call (df_is_subset T) rfl rfl (dp_cons (do_e (de_var (vk rfl)) rfl) (dp_cons (do_e (de_var (vk rfl)) rfl) dp_nil)))) rfl) (dp_cons (do_e (de_r (c_callK0 (df_is_subset T) rfl rfl (dk_cons (do_e (de_var (vk rfl)) rfl) (dk_cons (do_e (de_var (vk rfl)) rfl) dk_nil)) (show KwOk "is_subset" (topS 5) ["size", "value"] ["value", "size"] 0 [1, 0] from ⟨rfl, fun _ _ _ _ _ _ us ws h1 h2 => match us, ws, h1, h2 with | [], [w0, w1], _, _ => rfl⟩) (fun _ => rfl) (fun _ => rfl) (fun _ => rfl))) rfl) dp_nil)))) rfl) (dp_cons (do_e (de_r (dr_lst (dp_cons (do_e (de_var (vk rfl)) rfl) (dp_cons (do_e (de_var (vk rfl)) rfl) dp_nil)))) rfl) dp_nil)))) (fun _ _ => rfl))) (dss_one (ds_ret (dr_e de_bl))) dss_nil))) (fun _ _ => rfl))))))))))))) (fun _ _ => rfl)))) (fun _ _ => rfl))
  (dss_one (ds_ret (dr_e de_bl)))))
end G
end

section
namespace G
open DL PySem PySem.Spec
open L2 (atI atI_nat)
set_option maxHeartbeats 0
/-! ### the box of draws -/
def boxL (x0 : Int) (b : Bool) (x2 x3 : Int) : List D := [.int x0, .bl b, .int x2, .int x3]
def BoxOk (c : Nat) (l : List D) : Prop := ∃ x0 b x2 x3, l = boxL x0 b x2 x3 ∧ 0 ≤ x0 ∧ 0 ≤ x2 ∧ x2 < 2147483629 ∧ 0 ≤ x3 ∧ x3 ≤ c
theorem BoxOk.mono {c c' : Nat} {l : List D} (h : BoxOk c l) (hc : c ≤ c') : BoxOk c' l := by
  obtain ⟨x0, b, x2, x3, e, h0, h2, h3, h4, h5⟩ := h
  exact ⟨x0, b, x2, x3, e, h0, h2, h3, h4, by omega⟩
theorem take_ev {c : Nat} {l : List D} {many : Int} (hb : BoxOk c l) (hc : c < 1000000000) (hm : 0 < many) (hm' : many < 1000000000) :
    ∃ r l', s__law_take [.io (.l l), .sh (.int many)] = .ok (.sh (.int r)) [.io (.l l'), .sh (.int many)] ∧ 0 ≤ r ∧ r < many ∧ BoxOk (c + 1) l' := by
  obtain ⟨x0, b, x2, x3, rfl, h0, h2, h2', h3, h3'⟩ := hb
  have two : tAndM (tTru (eIxV 0 (eC (.int 1)))) (tCmp fGt (eIxV 0 (eC (.int 0))) (eC (.int 0))) [.io (.l (boxL x0 b x2 x3)), .sh (.int many), .no, .no] = .ok false [.io (.l (boxL x0 b x2 x3)), .sh (.int many), .no, .no] →
      ∃ r l', s__law_take [.io (.l (boxL x0 b x2 x3)), .sh (.int many)] = .ok (.sh (.int r)) [.io (.l l'), .sh (.int many)] ∧ 0 ≤ r ∧ r < many ∧ BoxOk (c + 1) l' := fun hf => by
    have m1 : 0 ≤ (x2 + 15485863 * (x3 + 1) + 179424673) ^ 5 % 2147483647 := Int.emod_nonneg _ (by omega)
    have m2 : (x2 + 15485863 * (x3 + 1) + 179424673) ^ 5 % 2147483647 < 2147483647 := Int.emod_lt_of_pos _ (by omega)
    refine ⟨((((x2 + 15485863 * (x3 + 1) + 179424673) ^ 5 % 2147483647) * 48271 + 104729 * (x3 + 1)) ^ 3 % 2147483587 / 64) % many, boxL x0 b x2 (x3 + 1), ?_, Int.emod_nonneg _ (by omega), Int.emod_lt_of_pos _ hm, x0, b, x2, x3 + 1, rfl, h0, h2, h2', by omega, by omega⟩
    generalize hmx : (x2 + 15485863 * (x3 + 1) + 179424673) ^ 5 % 2147483647 = mx at m1 m2 ⊢
    refine ev_fun (e' := [.io (.l (boxL x0 b x2 (x3 + 1))), .sh (.int many), .no, .sh (.int mx)]) rfl ?_
    refine (ev_seq ((ev_if0 hf).trans rfl)).trans ?_
    refine (ev_seq (ev_asg (e2 := [.io (.l (boxL x0 b x2 (x3 + 1))), .sh (.int many), .no, .no]) (ev_mD (ev_bin (ev_ixV rfl rfl rfl rfl) rfl rfl)) rfl)).trans ?_
    refine (ev_seq (ev_asg (e2 := [.io (.l (boxL x0 b x2 (x3 + 1))), .sh (.int many), .no, .sh (.int mx)]) (ev_mD (ev_bin (x := .int ((x2 + 15485863 * (x3 + 1) + 179424673) ^ 5)) (ev_mD (ev_fn1 (x := .int ((x2 + 15485863 * (x3 + 1) + 179424673) ^ 5)) (ev_mD (ev_bin (x := .int (x2 + 15485863 * (x3 + 1) + 179424673)) (ev_mD (ev_bin (ev_mD (ev_bin (ev_ixV rfl rfl rfl rfl) (ev_mD (ev_bin rfl (ev_ixV rfl rfl rfl rfl) (fmul_l (by decide) (by decide)))) rfl)) rfl rfl)) rfl (fpow_ (by decide) (by decide) (by omega)))) rfl)) rfl (by rw [← hmx]; exact fmod_ (by decide)))) rfl)).trans ?_
    refine ev_ret (ev_bin (ev_mD (ev_fn1 (ev_mD (ev_bin (ev_mD (ev_bin (ev_mD (ev_fn1 (ev_mD (ev_bin (x := .int (mx * 48271 + 104729 * (x3 + 1))) (ev_mD (ev_bin (ev_mD (ev_bin rfl rfl (fmul_r (by decide) (by decide)))) (ev_mD (ev_bin rfl (ev_ixV rfl rfl rfl rfl) (fmul_l (by decide) (by decide)))) rfl)) rfl (fpow_ (by decide) (by decide) (by omega)))) rfl)) rfl (fmod_ (by decide)))) rfl (fdiv_ (by decide) (by decide)))) rfl)) rfl (fmod_ hm))
  cases b with
  | false => exact two (ev_and0 (ev_tru (ev_ixV rfl rfl rfl rfl) rfl))
  | true =>
    by_cases hx : 0 < x0
    · refine ⟨x0 % many, boxL (x0 / many) true x2 x3, ?_, Int.emod_nonneg _ (by omega), Int.emod_lt_of_pos _ hm, x0 / many, true, x2, x3, rfl, Int.ediv_nonneg h0 (by omega), h2, h2', h3, by omega⟩
      refine ev_fun (e' := [.io (.l (boxL (x0 / many) true x2 x3)), .sh (.int many), .sh (.int (x0 % many)), .no]) rfl ?_
      refine ev_seqR ?_
      refine (ev_if1 (ev_and1 (ev_tru (ev_ixV rfl rfl rfl rfl) rfl) (ev_cmp (ev_ixV rfl rfl rfl rfl) rfl (gt_t hx)))).trans ?_
      refine (ev_seq (e1 := [.io (.l (boxL x0 true x2 x3)), .sh (.int many), .sh (.int (x0 % many)), .no]) (by exact ev_asg (ev_mD (ev_bin (ev_mD (ev_fn1 (ev_ixV rfl rfl rfl rfl) rfl)) rfl (fmod_ hm))) rfl)).trans ?_
      refine (ev_seq (e1 := [.io (.l (boxL (x0 / many) true x2 x3)), .sh (.int many), .sh (.int (x0 % many)), .no]) (by exact ev_asg (ev_mD (ev_bin (ev_ixV rfl rfl rfl rfl) rfl (fdiv_ hm (by omega)))) rfl)).trans ?_
      rfl
    · exact two (ev_and1 (ev_tru (ev_ixV rfl rfl rfl rfl) rfl) (ev_cmp (ev_ixV rfl rfl rfl rfl) rfl (gt_f hx)))
/-! ### what the law calls the same -/
def okS : Nat → D → Bool
  | 0, _ => false
  | _ + 1, .non => true
  | _ + 1, .bl _ => true
  | _ + 1, .int _ => true
  | n + 1, .tup l => l.all (okS n) && decide (l.length ≤ LIM)
  | n + 1, .lst l => l.all (okS n) && decide (l.length ≤ LIM)
  | _ + 1, _ => false
theorem same_seq (n : Nat) (d : D) (l : List D) (hd : d = .tup l ∨ d = .lst l) (hl : l.length ≤ LIM) (ih : ∀ x ∈ l, ∃ o, s__law_same_f n [.sh x, .sh x] = .ok (.sh (.bl true)) o) :
    s__law_same_f (n + 1) [.sh d, .sh d] = .ok (.sh (.bl true)) [.sh d, .sh d] := by
  have hp : d.plain = true := by rcases hd with rfl | rfl <;> rfl
  have hi : d.isInt = false := by rcases hd with rfl | rfl <;> rfl
  have hb : d.isBl = false := by rcases hd with rfl | rfl <;> rfl
  have hs : d.isStr = false := by rcases hd with rfl | rfl <;> rfl
  have hn : fIs d .non = some (.sh (.bl false)) := by rcases hd with rfl | rfl <;> rfl
  have hg : gLen d = some (.sh (.int l.length)) := by rcases hd with rfl | rfl <;> rfl
  have hx : ∀ i : Int, fIx d (.int i) = atI l i := by rcases hd with rfl | rfl <;> exact fun _ => rfl
  refine ev_fun (e' := [.sh d, .sh d, .no]) rfl ?_
  refine ev_seq' (e1 := [.sh d, .sh d, .no]) (ev_if0' (ev_or0 (ev_cmp rfl rfl hn) (ev_tru (ev_mD (ev_one rfl (isi_bool hp))) (by rw [hb]; rfl))) rfl) ?_
  refine ev_seq' (e1 := [.sh d, .sh d, .no]) (ev_if0' (ev_tru (ev_mD (ev_one rfl (isi_int hp))) (by rw [hi]; rfl)) rfl) ?_
  refine ev_seq' (e1 := [.sh d, .sh d, .no]) (ev_if0' (ev_tru (ev_mD (ev_one rfl (isi_str hp))) (by rw [hs]; rfl)) rfl) ?_
  have hne : ∀ k : Bool, fNe (.bl k) (.bl k) = some (.sh (.bl false)) := fun k => by cases k <;> rfl
  refine ev_seq' (e1 := [.sh d, .sh d, .no]) (ev_if0' (ev_or0 (ev_cmp (ev_mD (ev_one rfl (isi_lst hp))) (ev_mD (ev_one rfl (isi_lst hp))) (hne _)) (ev_cmp (ev_mD (ev_one rfl (isi_tup hp))) (ev_mD (ev_one rfl (isi_tup hp))) (hne _))) rfl) ?_
  refine ev_ret (ev_mR (ev_eAnd1 (ev_mD (ev_bin (ev_mD (ev_fn1 rfl hg)) (ev_mD (ev_fn1 rfl hg)) eq_i)) (by rw [decide_eq_true rfl]; rfl) (ev_mD (ev_bin (x := .lst []) (ev_mDl (l := []) ?_) (ev_mDl rfl) rfl))))
  have hr : iRng1M (aCons (aD (mD (rFn (f1 gLen) (aCons (aD (eVar 1)) aNil)))) aNil) [.sh d, .sh d, .no] = .ok (rngL 0 l.length) [.sh d, .sh d, .no] := by
    have := ev_rng1 (j := l.length) (ev_vals (ev_d1 (ev_mD (ev_fn1 (f := f1 gLen) (e := [.sh d, .sh d, .no]) (m := eVar 1) rfl hg))) rfl) (small_of (by unfold LIM at hl; omega))
    exact this
  refine (ev_compP (F := fun _ => none) hr (by rw [rngL_len]; exact hl) rfl fun x hx' => ?_).trans (by simp)
  obtain ⟨p, hp1, rfl⟩ := rng_mem hx'
  have hat : atI l (p : Int) = some l[p] := atI_nat (List.getElem?_eq_getElem hp1)
  obtain ⟨o, ho⟩ := ih l[p] (List.getElem_mem hp1)
  refine ⟨[.sh d, .sh d, .sh (.int p)], ev_turn0 (e1 := [.sh d, .sh d, .sh (.int p)]) rfl ?_, rfl⟩
  have i0 : ∀ i, i < 2 → eIxV i (eVar 2) [.sh d, .sh d, .sh (.int p)] = .ok l[p] [.sh d, .sh d, .sh (.int p)] := fun i hi => by
    match i, hi with
    | 0, _ => exact ev_ixV rfl rfl rfl ((hx _).trans hat)
    | 1, _ => exact ev_ixV rfl rfl rfl ((hx _).trans hat)
  exact ev_not (ev_tru (ev_mD (ev_call2 (i0 0 (by decide)) (i0 1 (by decide)) ho)) rfl)
theorem same_f : ∀ (n : Nat) (d : D), okS n d = true → ∃ o, s__law_same_f n [.sh d, .sh d] = .ok (.sh (.bl true)) o
  | 0, _, h => by cases h
  | n + 1, d, h => by
    cases d with
    | non => exact ⟨_, rfl⟩
    | bl b => 
      refine ⟨[.sh (.bl b), .sh (.bl b)], ev_fun (e' := [.sh (.bl b), .sh (.bl b), .no]) rfl ?_⟩
      refine (ev_seqR (e1 := [.sh (.bl b), .sh (.bl b), .no]) (r := .sh (.bl true)) ?_)
      refine ev_if1' (ev_or0 (ev_cmp rfl rfl rfl) (ev_tru (ev_mD (ev_one rfl (isi_bool rfl))) rfl)) ?_
      refine ev_ret (ev_rIf0' (ev_cmp rfl rfl rfl) (ev_mR (ev_eAnd1 (ev_mD (ev_one rfl (isi_bool rfl))) rfl (ev_mD (ev_bin (ev_mD (ev_bin rfl rfl rfl)) (ev_mD (ev_bin rfl rfl rfl)) ?_)))))
      cases b <;> rfl
    | int i =>
      refine ⟨[.sh (.int i), .sh (.int i)], ev_fun (e' := [.sh (.int i), .sh (.int i), .no]) rfl ?_⟩
      refine ev_seq' (e1 := [.sh (.int i), .sh (.int i), .no]) (ev_if0' (ev_or0 (ev_cmp rfl rfl rfl) (ev_tru (ev_mD (ev_one rfl (isi_bool rfl))) rfl)) rfl) ?_
      refine (ev_seqR (e1 := [.sh (.int i), .sh (.int i), .no]) (r := .sh (.bl true)) ?_)
      refine ev_if1' (ev_tru (ev_mD (ev_one rfl (isi_int rfl))) rfl) ?_
      refine ev_ret (ev_mR (ev_eAnd1 (ev_mD (ev_one rfl (isi_int rfl))) rfl (ev_eAnd1 (ev_eNot (ev_mD (ev_one rfl (isi_bool rfl))) rfl) rfl (ev_mD (ev_bin (ev_mD (ev_bin (ev_mD (ev_fn1 rfl rfl)) rfl rfl)) rfl ?_)))))
      show fEq (.int (i - i)) (.int 0) = _
      rw [show i - i = 0 by omega]
      rfl
    | str _ => cases h
    | dct _ => cases h
    | obj _ _ => cases h
    | tup l =>
      unfold okS at h
      simp only [Bool.and_eq_true, decide_eq_true_eq, List.all_eq_true] at h
      exact ⟨_, same_seq n _ l (.inl rfl) h.2 fun x hx => same_f n x (h.1 x hx)⟩
    | lst l =>
      unfold okS at h
      simp only [Bool.and_eq_true, decide_eq_true_eq, List.all_eq_true] at h
      exact ⟨_, same_seq n _ l (.inr rfl) h.2 fun x hx => same_f n x (h.1 x hx)⟩
theorem same_ev {d : D} (h : okS 12 d = true) : ∃ o, s__law_same [.sh d, .sh d] = .ok (.sh (.bl true)) o := same_f 12 d h
end G
end

section
namespace G
open DL PySem PySem.Spec
open L2 (atI atI_nat)
set_option maxHeartbeats 0
/-! ### sets and masks -/
theorem lim9 {n : Nat} (h : n ≤ 30) : n ≤ LIM := Nat.le_trans h (by decide)
theorem mask_ev {n m : Nat} (hm : m < 2 ^ n) (hn : n ≤ 30) : s_mask_of [.sh (setD n m)] = .ok (.sh (.int m)) [.sh (setD n m)] := by
  refine ev_fun (e' := [.sh (setD n m), .no]) rfl (ev_ret (ev_fn1 (x := .lst ((elems n m).map fun p => .int (((2 ^ p : Nat) : Int)))) (ev_mDl ?_) ?_))
  · refine ev_compP' (F := fun d => match d with | .int i => some (.int (1 * 2 ^ i.toNat)) | _ => none) (ev_seqL rfl rfl) (by rw [natsD_len]; exact lim9 (Nat.le_trans (elems_len n m) hn)) rfl (fun d hd => ?_) ?_
    · obtain ⟨p, hp, rfl⟩ := natsD_mem hd
      have := (elems_lt hp).1
      exact ⟨[.sh (setD n m), .sh (.int p)], ev_turn (e1 := [.sh (setD n m), .sh (.int p)]) rfl rfl (ev_mD (ev_bin rfl rfl (fshl_ (by omega) (by omega) (by decide)))), rfl⟩
    · rw [fm_map _ _ (fun p => .int ((2 ^ p : Nat) : Int)) fun p _ => by simp]
  · show (asInts ((elems n m).map fun p => .int (((2 ^ p : Nat) : Int)))).bind _ = _
    rw [asInts_nats _ fun p => ((2 ^ p : Nat) : Int)]
    show some (Ret.sh (.int ((elems n m).map fun p => ((2 ^ p : Nat) : Int)).sum)) = _
    rw [sum_cast, mask_sum, Nat.mod_eq_of_lt hm]
theorem sub_ev {n m : Nat} (hm : m < 2 ^ n) (hn : n ≤ 30) : s_subset_of [.sh (.int m)] = .ok (.sh (setD n m)) [.sh (.int m)] := by
  have hb := bits_le hm
  have pts : s_points_in [.sh (.int m)] = .ok (.ow (.l (natsD (elems n m)))) [.sh (.int m)] := by
    refine ev_fun (e' := [.sh (.int m), .no]) rfl (ev_ret ?_)
    refine ev_compP' (e1 := [.sh (.int m), .no]) (F := fun d => match d with | .int i => if m.testBit i.toNat then some (.int i) else none | _ => none) (ev_rng1 (j := (Builtin.Int.intBits (m : Int) : Nat)) (ev_vals (ev_d1 (ev_bits rfl)) rfl) (small_of (by omega))) (by rw [rngL_len]; exact lim9 (by simp; omega)) rfl (fun d hd => ?_) ?_
    · obtain ⟨p, hp, rfl⟩ := rng_mem hd
      have sh : tCmp fEq (mD (rBin fAnd (mD (rBin fShr (eVar 0) (eVar 1))) (eC (.int 1)))) (eC (.int 1)) [.sh (.int m), .sh (.int p)] = .ok (m.testBit p) [.sh (.int m), .sh (.int p)] := by
        refine ev_cmp (ev_mD (ev_bin (ev_mD (ev_bin rfl rfl (fshr_ (by omega)))) rfl rfl)) rfl ?_
        show fEq (.int (Builtin.bitAnd ((m : Int) / 2 ^ (p : Int).toNat) 1)) (.int 1) = _
        rw [shr_bit, eq_i]
        cases m.testBit p <;> rfl
      refine ⟨[.sh (.int m), .sh (.int p)], ?_, rfl⟩
      show turnC _ _ _ _ _ = .ok (if m.testBit ((p : Int)).toNat then some (.int p) else none) _
      rw [Int.toNat_natCast]
      cases hk : m.testBit p with
      | true => rw [hk] at sh; exact ev_turn (e1 := [.sh (.int m), .sh (.int p)]) rfl sh rfl
      | false => rw [hk] at sh; exact ev_turn0 (e1 := [.sh (.int m), .sh (.int p)]) rfl sh
    · rw [Int.toNat_natCast, rng_nats, fm_nats _ _ (fun p => m.testBit p) fun p _ => by simp, elems_to (bits_bound m) hb]
      rfl
  exact ev_fun (e' := [.sh (.int m)]) rfl (ev_ret (ev_fn1 (x := .lst (natsD (elems n m))) (ev_mDl (ev_call1 rfl pts)) rfl))
theorem joined_ev {n a b : Nat} (ha : a < 2 ^ n) (hb : b < 2 ^ n) (hn : n ≤ 30) : s_joined [.sh (setD n a), .sh (setD n b)] = .ok (.sh (setD n (a ||| b))) [.sh (setD n a), .sh (setD n b)] := by
  refine ev_fun (e' := [.sh (setD n a), .sh (setD n b)]) rfl (ev_ret (ev_call1 (x := .int ((a ||| b : Nat) : Int)) (ev_mD (ev_bin (ev_mD (ev_call1 rfl (mask_ev ha hn))) (ev_mD (ev_call1 rfl (mask_ev hb hn))) ?_)) (sub_ev (Nat.or_lt_two_pow ha hb) hn)))
  show some (Ret.sh (.int (Builtin.bitOr (a : Int) b))) = _
  rw [or_nat]
theorem shared_ev {n a b : Nat} (ha : a < 2 ^ n) (hb : b < 2 ^ n) (hn : n ≤ 30) : s_shared [.sh (setD n a), .sh (setD n b)] = .ok (.sh (setD n (a &&& b))) [.sh (setD n a), .sh (setD n b)] := by
  refine ev_fun (e' := [.sh (setD n a), .sh (setD n b)]) rfl (ev_ret (ev_call1 (x := .int ((a &&& b : Nat) : Int)) (ev_mD (ev_bin (ev_mD (ev_call1 rfl (mask_ev ha hn))) (ev_mD (ev_call1 rfl (mask_ev hb hn))) ?_)) (sub_ev (Nat.and_lt_two_pow _ hb) hn)))
  show some (Ret.sh (.int (Builtin.bitAnd (a : Int) b))) = _
  rw [and_nat]
theorem minus_ev {n a b : Nat} (ha : a < 2 ^ n) (hb : b < 2 ^ n) (hn : n ≤ 30) : s_minus [.sh (setD n a), .sh (setD n b)] = .ok (.sh (setD n (a - (a &&& b)))) [.sh (setD n a), .sh (setD n b)] := by
  refine ev_fun (e' := [.sh (setD n a), .sh (setD n b)]) rfl (ev_ret (ev_call1 (x := .int ((a - (a &&& b) : Nat) : Int)) (ev_mD (ev_bin (ev_mD (ev_call1 rfl (mask_ev ha hn))) (ev_un (ev_mD (ev_call1 rfl (mask_ev hb hn)))) ?_)) (sub_ev (by omega) hn)))
  show some (Ret.sh (.int (Builtin.bitAnd (a : Int) (Builtin.bitNot b)))) = _
  rw [andnot_nat]
/-! ### a drawn set -/
abbrev iob (l : List D) : Sl := .io (.l l)
theorem drawn_ev {c : Nat} {l : List D} (hb : BoxOk c l) (hc : c < 900000000) : ∃ m l', m < 512 ∧ s__law_drawn_set [iob l] = .ok (.sh (setD 9 m)) [iob l'] ∧ BoxOk (c + 9) l' := by
  have key := comp_inv (g := gSet 1) (t := tCmp fEq (mD (rCall s__law_take (aCons (eAt 0) (aCons (aD (eC (.int 2))) aNil)))) (eC (.int 0))) (m := eVar 1) (vs := [1])
    (fun i acc e => ∃ m l', m < 2 ^ i ∧ acc = natsD (elems i m) ∧ e = [iob l', .no] ∧ BoxOk (c + i) l') (e := [iob l, .no]) (rngL 0 9) ⟨0, l, by decide, rfl, rfl, hb⟩ (fun i d acc e hi ⟨m, l', h1, h2, h3, h4⟩ => by
      subst h2 h3
      have hi9 : i < 9 := by have := (List.getElem?_eq_some_iff.mp hi).1; rwa [rngL_len] at this
      have hd : d = .int (i : Int) := by
        rw [rng_nats, natsD, List.getElem?_map, List.getElem?_range hi9] at hi
        exact (Option.some.inj hi).symm
      subst hd
      refine ⟨rfl, ?_⟩
      obtain ⟨r, l2, k1, k2, k3, k4⟩ := take_ev (many := 2) h4 (by omega) (by omega) (by omega)
      have tst : tCmp fEq (mD (rCall s__law_take (aCons (eAt 0) (aCons (aD (eC (.int 2))) aNil)))) (eC (.int 0)) [iob l', .sh (.int i)] = .ok (decide (r = 0)) [iob l2, .sh (.int i)] := by
        refine ev_cmp (ev_mD (ev_call (as := [.at 0, .d (.int 2)]) rfl rfl (by simp [ixs]) k1)) rfl eq_i
      have b4 : BoxOk (c + (i + 1)) l2 := k4
      by_cases hr : r = 0
      · rw [decide_eq_true hr] at tst
        refine ⟨_, _, ev_turn (e1 := [iob l', .sh (.int i)]) rfl tst rfl, m + 2 ^ i, l2, by rw [Nat.pow_succ]; omega, ?_, rfl, b4⟩
        rw [elems_succ]
        have e1 : elems i (m + 2 ^ i) = elems i m := by
          unfold elems
          refine List.filter_congr fun p hp => ?_
          rw [Nat.add_comm, Nat.testBit_two_pow_add_gt (List.mem_range.mp hp)]
        have e2 : (m + 2 ^ i).testBit i = true := by
          rw [Nat.add_comm, Nat.testBit_two_pow_add_eq, testBit_big h1 (Nat.le_refl _)]; rfl
        rw [e1, e2]
        simp [natsD]
      · rw [decide_eq_false hr] at tst
        refine ⟨_, _, ev_turn0 (e1 := [iob l', .sh (.int i)]) rfl tst, m, l2, by rw [Nat.pow_succ]; omega, ?_, rfl, b4⟩
        rw [elems_succ, testBit_big h1 (Nat.le_refl _)]
        simp [natsD])
  obtain ⟨acc, e', q1, m, l', h1, h2, h3, h4⟩ := key
  subst h2 h3
  refine ⟨m, l', h1, ?_, h4⟩
  exact ev_fun (e' := [iob l', .no]) rfl (ev_ret (ev_fn1 (x := .lst (natsD (elems 9 m))) (ev_mDl (ev_comp (ds := rngL 0 9) (e1 := [iob l, .no]) rfl (by decide) q1)) rfl))
end G
end

section
namespace G
open DL PySem PySem.Spec
open L2 (atI atI_nat)
set_option maxHeartbeats 0
/-! ### is_subset, and the law's own -/
def btw (m : Int) : D → Bool
  | .int i => decide (0 ≤ i) && decide (i ≤ m)
  | _ => false
theorem chain_ev {a b c : D} {i m : Int} {e e1 e2 e3 : En} {ma mb mc : M D} (ha : ma e = .ok (.int 0) e1) (hb : mb e1 = .ok (.int i) e2) (hc : mc e2 = .ok (.int m) e2) : rChain fLe fLe ma mb mc e = .ok (.sh (.bl (btw m (.int i)))) e2 := by
  by_cases h : 0 ≤ i
  · by_cases h' : i ≤ m
    · rw [ev_chain1 ha hb (le_t h) hc (le_t h')]
      show _ = R.ok (Ret.sh (.bl (decide (0 ≤ i) && decide (i ≤ m)))) e2
      rw [decide_eq_true h, decide_eq_true h']; rfl
    · rw [ev_chain1 ha hb (le_t h) hc (le_f h')]
      show _ = R.ok (Ret.sh (.bl (decide (0 ≤ i) && decide (i ≤ m)))) e2
      rw [decide_eq_true h, decide_eq_false h']; rfl
  · rw [ev_chain0 ha hb (le_f h)]
    show _ = R.ok (Ret.sh (.bl (decide (0 ≤ i) && decide (i ≤ m)))) e2
    rw [decide_eq_false h]; rfl
theorem isint_ev {x : D} (hx : x.plain = true) : s_is_integer [.sh x] = .ok (.sh (.bl (x.isInt && !x.isBl))) [.sh x] := by
  refine ev_fun (e' := [.sh x]) rfl (ev_ret (ev_mR ?_))
  cases x with
  | int i => exact ev_eAnd1 (ev_mD (ev_one rfl (isi_int hx))) rfl (ev_eNot (ev_mD (ev_one rfl (isi_bool hx))) rfl)
  | bl i => exact ev_eAnd1 (ev_mD (ev_one rfl (isi_int hx))) rfl (ev_eNot (ev_mD (ev_one rfl (isi_bool hx))) rfl)
  | non => exact ev_eAnd0 (ev_mD (ev_one rfl (isi_int hx))) rfl
  | str i => exact ev_eAnd0 (ev_mD (ev_one rfl (isi_int hx))) rfl
  | tup i => exact ev_eAnd0 (ev_mD (ev_one rfl (isi_int hx))) rfl
  | lst i => exact ev_eAnd0 (ev_mD (ev_one rfl (isi_int hx))) rfl
  | dct i => exact ev_eAnd0 (ev_mD (ev_one rfl (isi_int hx))) rfl
  | obj c fs => cases hx
theorem btw_ev {x : D} {m : Int} (hx : x.plain = true) : s_is_between [.sh x, .sh (.int 0), .sh (.int m)] = .ok (.sh (.bl (btw m x))) [.sh x, .sh (.int 0), .sh (.int m)] := by
  refine ev_fun (e' := [.sh x, .sh (.int 0), .sh (.int m)]) rfl (ev_ret (ev_mR ?_))
  cases x with
  | int i => exact ev_eAnd1 (ev_mD (ev_call1 rfl (isint_ev hx))) rfl (ev_mD (chain_ev (a := .non) (b := .non) (c := .non) (e3 := []) rfl rfl rfl))
  | bl i => exact ev_eAnd0 (ev_mD (ev_call1 rfl (isint_ev hx))) rfl
  | non => exact ev_eAnd0 (ev_mD (ev_call1 rfl (isint_ev hx))) rfl
  | str i => exact ev_eAnd0 (ev_mD (ev_call1 rfl (isint_ev hx))) rfl
  | tup i => exact ev_eAnd0 (ev_mD (ev_call1 rfl (isint_ev hx))) rfl
  | lst i => exact ev_eAnd0 (ev_mD (ev_call1 rfl (isint_ev hx))) rfl
  | dct i => exact ev_eAnd0 (ev_mD (ev_call1 rfl (isint_ev hx))) rfl
  | obj c fs => cases hx
theorem lawint_ev {x : D} {m : Int} (hx : x.plain = true) : s__law_is_int [.sh x, .sh (.int 0), .sh (.int m)] = .ok (.sh (.bl (btw m x))) [.sh x, .sh (.int 0), .sh (.int m)] := by
  refine ev_fun (e' := [.sh x, .sh (.int 0), .sh (.int m)]) rfl (ev_ret (ev_mR ?_))
  cases x with
  | int i => exact ev_eAnd1 (ev_mD (ev_one rfl (isi_int hx))) rfl (ev_eAnd1 (ev_eNot (ev_mD (ev_one rfl (isi_bool hx))) rfl) rfl (ev_mD (chain_ev (a := .non) (b := .non) (c := .non) (e3 := []) rfl rfl rfl)))
  | bl i => exact ev_eAnd1 (ev_mD (ev_one rfl (isi_int hx))) rfl (ev_eAnd0 (ev_eNot (ev_mD (ev_one rfl (isi_bool hx))) rfl) rfl)
  | non => exact ev_eAnd0 (ev_mD (ev_one rfl (isi_int hx))) rfl
  | str i => exact ev_eAnd0 (ev_mD (ev_one rfl (isi_int hx))) rfl
  | tup i => exact ev_eAnd0 (ev_mD (ev_one rfl (isi_int hx))) rfl
  | lst i => exact ev_eAnd0 (ev_mD (ev_one rfl (isi_int hx))) rfl
  | dct i => exact ev_eAnd0 (ev_mD (ev_one rfl (isi_int hx))) rfl
  | obj c fs => cases hx
def rise (ns : List Int) : Bool := (ns.zip (ns.drop 1)).all fun z => decide (z.1 < z.2)
theorem cut1 (l : List D) : cutD l (some 1) none = l.drop 1 := by
  unfold cutD
  have h1 : HT.sIx l.length 0 (some 1) = min 1 l.length := HT.sIx_nat l.length 0 1
  rw [h1, HT.sIx_none]
  cases l with
  | nil => rfl
  | cons a l => simp
theorem rising_ev (ns : List Int) (hl : ns.length ≤ LIM) : s_is_rising [.sh (.tup (intsD ns))] = .ok (.sh (.bl (rise ns))) [.sh (.tup (intsD ns))] := by
  have hz : zipL (intsD ns) (intsD (ns.drop 1)) = (ns.zip (ns.drop 1)).map fun z => .tup [.int z.1, .int z.2] := by
    unfold zipL intsD
    rw [List.zip_map, List.map_map]
    rfl
  refine ev_fun (e' := [.sh (.tup (intsD ns)), .no, .no]) rfl (ev_ret (ev_fn1 (x := .lst ((ns.zip (ns.drop 1)).map fun z => .bl (decide (z.1 < z.2)))) (ev_mDl ?_) ?_))
  · refine ev_compP' (e1 := [.sh (.tup (intsD ns)), .no, .no]) (ds := (ns.zip (ns.drop 1)).map fun z => .tup [.int z.1, .int z.2]) (F := fun d => match d with | .tup [.int a, .int b] => some (.bl (decide (a < b))) | _ => none) ?_ (by rw [List.length_map, List.length_zip]; omega) rfl (fun d hd => ?_) ?_
    · refine ev_zip (x := .tup (intsD ns)) (y := .tup (intsD (ns.drop 1))) (ev_vals (ev_d2 (e1 := [.sh (.tup (intsD ns)), .no, .no]) rfl (ev_mD ?_)) rfl) ?_
      · exact ev_slice (d := .tup (intsD ns)) (lo := some 1) (hi := none) rfl rfl rfl (by
          show some (Ret.sh (.tup (cutD (intsD ns) (some 1) none))) = _
          rw [cut1]; simp [intsD])
      · show some (zipL (intsD ns) (intsD (ns.drop 1))) = _
        rw [hz]
    · obtain ⟨z, hz1, rfl⟩ := List.mem_map.mp hd
      exact ⟨[.sh (.tup (intsD ns)), .sh (.int z.1), .sh (.int z.2)], ev_turn (e1 := [.sh (.tup (intsD ns)), .sh (.int z.1), .sh (.int z.2)]) rfl rfl (ev_mD (ev_bin rfl rfl rfl)), rfl⟩
    · rw [List.filterMap_map]
      exact congrFun List.filterMap_eq_map' _
  · show (asBls ((ns.zip (ns.drop 1)).map fun z => .bl (decide (z.1 < z.2)))).bind _ = _
    have : ((ns.zip (ns.drop 1)).map fun z => D.bl (decide (z.1 < z.2))) = ((ns.zip (ns.drop 1)).map fun z => decide (z.1 < z.2)).map D.bl := by simp
    rw [this, asBls_map]
    show some (Ret.sh (.bl (((ns.zip (ns.drop 1)).map fun z => decide (z.1 < z.2)).all id))) = _
    rw [List.all_map]
    rfl
end G
end

section
namespace G
open DL PySem PySem.Spec
open L2 (atI atI_nat)
set_option maxHeartbeats 0
theorem lay_plain {x : D} (h : x.py.canLay0 = true) : x.plain = true := by
  cases x <;> first | rfl | (simp [D.py, PyData.canLay0] at h)
theorem ok_items {l : List D} (h : okD (.lst l) = true) : ∀ x ∈ l, x.py.canLay0 = true := by
  intro x hx
  have h1 := canLay_ok h
  have h2 : PyData.canLayAll0 (pys l) = true := by simpa [D.py, PyData.canLay0] using h1
  rw [pys_map] at h2
  exact (canLayAll0_iff _).mp h2 _ (List.mem_map.mpr ⟨x, hx, rfl⟩)
theorem depthAll_le : ∀ {l : List PyData} {n : Nat}, PyData.depthAll l ≤ n ↔ ∀ x ∈ l, x.depth ≤ n
  | [], n => by simp [PyData.depthAll]
  | x :: l, n => by
    simp only [PyData.depthAll, List.mem_cons, forall_eq_or_imp]
    rw [← depthAll_le (l := l) (n := n)]
    exact Nat.max_le
theorem ok_lst_iff {l : List D} : okD (.lst l) = true ↔ ∀ x ∈ l, x.py.canLay0 = true ∧ x.py.depth ≤ 63 := by
  unfold okD SeqAt.shaped
  show (PyData.canLayAll0 (pys l) && decide (PyData.depthAll (pys l) + 1 ≤ 64)) = true ↔ _
  rw [Bool.and_eq_true, decide_eq_true_eq, pys_map, canLayAll0_iff]
  constructor
  · rintro ⟨h1, h2⟩ x hx
    have h3 : PyData.depthAll (l.map D.py) ≤ 63 := by omega
    exact ⟨h1 _ (List.mem_map.mpr ⟨x, hx, rfl⟩), depthAll_le.mp h3 _ (List.mem_map.mpr ⟨x, hx, rfl⟩)⟩
  · intro h
    refine ⟨fun x hx => ?_, ?_⟩
    · obtain ⟨y, hy, rfl⟩ := List.mem_map.mp hx
      exact (h y hy).1
    · have : PyData.depthAll (l.map D.py) ≤ 63 := depthAll_le.mpr fun x hx => by
        obtain ⟨y, hy, rfl⟩ := List.mem_map.mp hx
        exact (h y hy).2
      omega
theorem ok_filter {l : List D} (h : okD (.lst l) = true) (f : D → Bool) : okD (.lst (l.filter f)) = true :=
  ok_lst_iff.mpr fun x hx => ok_lst_iff.mp h x (List.mem_filter.mp hx).1
def vOk : D → Bool
  | .tup l => okD (.lst l) && decide (l.length ≤ 1000)
  | .obj _ _ => false
  | _ => true
theorem ints_all : ∀ {l : List D} {m : Int}, l.all (btw m) = true → ∃ ns, l = intsD ns
  | [], _, _ => ⟨[], rfl⟩
  | x :: l, m, h => by
    rw [List.all_cons, Bool.and_eq_true] at h
    obtain ⟨ns, rfl⟩ := ints_all h.2
    cases x with
    | int i => exact ⟨i :: ns, rfl⟩
    | _ => exact absurd h.1 (by simp [btw])
def isSet (size : Int) : D → Bool
  | .tup l => l.all (btw (size - 1)) && rise ((asInts l).getD [])
  | _ => false
theorem vplain {v : D} (h : vOk v = true) : v.plain = true := by cases v <;> first | rfl | cases h
theorem fm_all (l : List D) (f : D → D) : l.filterMap (fun x => some (f x)) = l.map f := congrFun List.filterMap_eq_map' _
theorem fm_filter (l : List D) (f : D → Bool) : l.filterMap (fun x => if f x then none else some x) = l.filter fun x => !f x := by
  induction l with
  | nil => rfl
  | cons x l ih =>
    rw [List.filterMap_cons, List.filter_cons, ih]
    cases f x <;> rfl
theorem subset_ev {size : Int} {v : D} (hv : vOk v = true) : s_is_subset [.sh (.int size), .sh v] = .ok (.sh (.bl (isSet size v))) [.sh (.int size), .sh v] := by
  refine ev_fun (e' := [.sh (.int size), .sh v, .no]) rfl ?_
  have hp := vplain hv
  cases v with
  | tup l =>
    unfold vOk at hv
    rw [Bool.and_eq_true, decide_eq_true_eq] at hv
    have all_ : rFn (f1 gAll) (aCons (aD (mD (rComp (iSeq (eVar 1)) (gSet 2) (M.ret true) (mD (rCall s_is_between (aCons (aD (eVar 2)) (aCons (aD (eC (.int 0))) (aCons (aD (mD (rBin fSub (eVar 0) (eC (.int 1))))) aNil))))) [2]))) aNil) [.sh (.int size), .sh (.tup l), .no] = .ok (.sh (.bl (l.all (btw (size - 1))))) [.sh (.int size), .sh (.tup l), .no] := by
      refine ev_fn1 (x := .lst (l.map fun x => .bl (btw (size - 1) x))) (ev_mDl (ev_compP' (e1 := [.sh (.int size), .sh (.tup l), .no]) (ds := l) (F := fun x => some (.bl (btw (size - 1) x))) (ev_seqL rfl rfl) (Nat.le_trans hv.2 (by decide)) rfl (fun x hx => ?_) (fm_all _ _))) ?_
      · exact ⟨[.sh (.int size), .sh (.tup l), .sh x], ev_turn (e1 := [.sh (.int size), .sh (.tup l), .sh x]) rfl rfl (ev_mD (ev_call3 rfl rfl (ev_mD (ev_bin rfl rfl rfl)) (btw_ev (lay_plain (ok_items hv.1 x hx))))), rfl⟩
      · show (asBls (l.map fun x => .bl (btw (size - 1) x))).bind _ = _
        have : (l.map fun x => D.bl (btw (size - 1) x)) = (l.map fun x => btw (size - 1) x).map D.bl := by simp
        rw [this, asBls_map]
        show some (Ret.sh (.bl ((l.map fun x => btw (size - 1) x).all id))) = _
        rw [List.all_map]
        rfl
    cases hk : l.all (btw (size - 1)) with
    | false =>
      rw [hk] at all_
      refine ev_seqR (ev_if1' (ev_or0 (ev_not (ev_tru (ev_mD (ev_one rfl (isi_tup hp))) rfl)) (ev_not (ev_tru (ev_mD all_) rfl))) ?_)
      show R.ok (Fl.rt (Ret.sh (.bl false))) _ = R.ok (Fl.rt (Ret.sh (.bl (l.all (btw (size - 1)) && _)))) _
      rw [hk]; rfl
    | true =>
      rw [hk] at all_
      obtain ⟨ns, rfl⟩ := ints_all hk
      refine ev_seq' (e1 := [.sh (.int size), .sh (.tup (intsD ns)), .no]) (ev_if0' (ev_or0 (ev_not (ev_tru (ev_mD (ev_one rfl (isi_tup hp))) rfl)) (ev_not (ev_tru (ev_mD all_) rfl))) rfl) ?_
      refine ev_ret ?_
      show _ = R.ok (Ret.sh (.bl ((intsD ns).all (btw (size - 1)) && rise ((asInts (intsD ns)).getD [])))) _
      rw [hk, show asInts (intsD ns) = some ns from asInts_map ns]
      exact ev_call1 rfl (rising_ev ns (by have := hv.2; simp [intsD] at this; exact Nat.le_trans this (by decide)))
  | obj c fs => cases hv
  | non => exact ev_seqR (ev_if1' (ev_or1 (ev_not (ev_tru (ev_mD (ev_one rfl (isi_tup hp))) rfl))) rfl)
  | bl _ => exact ev_seqR (ev_if1' (ev_or1 (ev_not (ev_tru (ev_mD (ev_one rfl (isi_tup hp))) rfl))) rfl)
  | int _ => exact ev_seqR (ev_if1' (ev_or1 (ev_not (ev_tru (ev_mD (ev_one rfl (isi_tup hp))) rfl))) rfl)
  | str _ => exact ev_seqR (ev_if1' (ev_or1 (ev_not (ev_tru (ev_mD (ev_one rfl (isi_tup hp))) rfl))) rfl)
  | lst _ => exact ev_seqR (ev_if1' (ev_or1 (ev_not (ev_tru (ev_mD (ev_one rfl (isi_tup hp))) rfl))) rfl)
  | dct _ => exact ev_seqR (ev_if1' (ev_or1 (ev_not (ev_tru (ev_mD (ev_one rfl (isi_tup hp))) rfl))) rfl)
/-- the law's way: no place at which it does not rise -/
theorem rise_iff (ns : List Int) : ((List.range (ns.length - 1)).filter fun i => decide (ns.getD (i + 1) 0 ≤ ns.getD i 0)).isEmpty = rise ns := by
  rw [Bool.eq_iff_iff, List.isEmpty_iff]
  unfold rise
  rw [List.all_eq_true, List.filter_eq_nil_iff]
  constructor
  · intro h z hz
    obtain ⟨i, hi, e⟩ := List.mem_iff_getElem.mp hz
    rw [List.length_zip, List.length_drop] at hi
    have := h i (List.mem_range.mpr (by omega))
    rw [List.getElem_zip] at e
    subst e
    simp only [decide_eq_true_eq] at this ⊢
    rw [List.getD_eq_getElem?_getD, List.getD_eq_getElem?_getD, List.getElem?_eq_getElem (by omega), List.getElem?_eq_getElem (by omega)] at this
    simp only [Option.getD_some] at this
    simp only [List.getElem_drop]
    have e1 : ns[1 + i]'(by omega) = ns[i + 1]'(by omega) := by congr 1; omega
    rw [e1]
    omega
  · intro h i hi
    have hi := List.mem_range.mp hi
    have := h ((ns.zip (ns.drop 1))[i]'(by rw [List.length_zip, List.length_drop]; omega)) (List.getElem_mem _)
    rw [List.getElem_zip] at this
    simp only [decide_eq_true_eq, List.getElem_drop] at this ⊢
    rw [List.getD_eq_getElem?_getD, List.getD_eq_getElem?_getD, List.getElem?_eq_getElem (by omega), List.getElem?_eq_getElem (by omega)]
    simp only [Option.getD_some]
    have e1 : ns[1 + i]'(by omega) = ns[i + 1]'(by omega) := by congr 1; omega
    rw [e1] at this
    omega
theorem fm_shift (k : Nat) (F : D → Option D) (f : Nat → Bool) (h : ∀ i, i < k → F (.int (1 + (i : Int))) = if f i then some (.int (1 + (i : Int))) else none) : (rngL 1 k).filterMap F = intsD (((List.range k).filter f).map fun i : Nat => 1 + (i : Int)) := by
  unfold rngL intsD
  rw [List.filterMap_map, List.map_map]
  have : ∀ l : List Nat, (∀ i ∈ l, i < k) → l.filterMap (F ∘ fun i : Nat => D.int (1 + (i : Int))) = (l.filter f).map (D.int ∘ fun i : Nat => 1 + (i : Int)) := fun l => by
    induction l with
    | nil => intro _; rfl
    | cons a l ih =>
      intro hl
      have e1 : (F ∘ fun i : Nat => D.int (1 + (i : Int))) a = if f a then some (.int (1 + (a : Int))) else none := h a (hl a List.mem_cons_self)
      rw [List.filterMap_cons, e1, List.filter_cons, ih fun i hi => hl i (List.mem_cons_of_mem _ hi)]
      cases f a <;> rfl
  exact this _ fun i hi => List.mem_range.mp hi
theorem lawset_ev {size : Int} {v : D} (hv : vOk v = true) : ∃ o, s__law_is_set [.sh (.int size), .sh v] = .ok (.sh (.bl (isSet size v))) o := by
  refine ⟨[.sh (.int size), .sh v], ev_fun (e' := [.sh (.int size), .sh v, .no, .no]) rfl ?_⟩
  have hp := vplain hv
  cases v with
  | tup l =>
    unfold vOk at hv
    rw [Bool.and_eq_true, decide_eq_true_eq] at hv
    have bad : tCmp fNe (mD (rComp (iSeq (eVar 1)) (gSet 2) (tNotM (tTru (mD (rCall s__law_is_int (aCons (aD (eVar 2)) (aCons (aD (eC (.int 0))) (aCons (aD (mD (rBin fSub (eVar 0) (eC (.int 1))))) aNil))))))) (eVar 2) [2])) (mD (rLst aNil)) [.sh (.int size), .sh (.tup l), .no, .no] = .ok (!(l.all (btw (size - 1)))) [.sh (.int size), .sh (.tup l), .no, .no] := by
      refine ev_cmp (x := .lst (l.filter fun x => !btw (size - 1) x)) (y := .lst []) (ev_mDl (ev_compP' (e1 := [.sh (.int size), .sh (.tup l), .no, .no]) (ds := l) (F := fun x => if btw (size - 1) x then none else some x) (ev_seqL rfl rfl) (Nat.le_trans hv.2 (by decide)) rfl (fun x hx => ?_) (fm_filter _ _))) (ev_mDl rfl) ?_
      · refine ⟨[.sh (.int size), .sh (.tup l), .sh x, .no], ?_, rfl⟩
        have tst : tNotM (tTru (mD (rCall s__law_is_int (aCons (aD (eVar 2)) (aCons (aD (eC (.int 0))) (aCons (aD (mD (rBin fSub (eVar 0) (eC (.int 1))))) aNil)))))) [.sh (.int size), .sh (.tup l), .sh x, .no] = .ok (!btw (size - 1) x) [.sh (.int size), .sh (.tup l), .sh x, .no] :=
          ev_not (ev_tru (ev_mD (ev_call3 rfl rfl (ev_mD (ev_bin rfl rfl rfl)) (lawint_ev (lay_plain (ok_items hv.1 x hx))))) rfl)
        cases hb : btw (size - 1) x with
        | true => rw [hb] at tst; exact ev_turn0 (e1 := [.sh (.int size), .sh (.tup l), .sh x, .no]) rfl tst
        | false => rw [hb] at tst; exact ev_turn (e1 := [.sh (.int size), .sh (.tup l), .sh x, .no]) rfl tst rfl
      · rw [ne_b (deq_nil (ok_filter hv.1 _))]
        congr 3
        rw [Bool.eq_iff_iff]
        simp [List.filter_eq_nil_iff]
    cases hk : l.all (btw (size - 1)) with
    | false =>
      rw [hk] at bad
      refine ev_seqR (ev_if1' (ev_or0 (ev_not (ev_tru (ev_mD (ev_one rfl (isi_tup hp))) rfl)) bad) ?_)
      show R.ok (Fl.rt (Ret.sh (.bl false))) _ = R.ok (Fl.rt (Ret.sh (.bl (l.all (btw (size - 1)) && _)))) _
      rw [hk]; rfl
    | true =>
      rw [hk] at bad
      obtain ⟨ns, rfl⟩ := ints_all hk
      have hlen : (intsD ns).length = ns.length := by simp [intsD]
      have hn : ns.length ≤ 1000 := by rw [← hlen]; exact hv.2
      refine ev_seq' (e1 := [.sh (.int size), .sh (.tup (intsD ns)), .no, .no]) (ev_if0' (ev_or0 (ev_not (ev_tru (ev_mD (ev_one rfl (isi_tup hp))) rfl)) bad) rfl) ?_
      refine ev_ret ?_
      show _ = R.ok (Ret.sh (.bl ((intsD ns).all (btw (size - 1)) && rise ((asInts (intsD ns)).getD [])))) _
      rw [hk, show asInts (intsD ns) = some ns from asInts_map ns]
      show _ = R.ok (Ret.sh (.bl (rise ns))) _
      have hat : ∀ j : Nat, j < ns.length → fIx (.tup (intsD ns)) (.int (j : Int)) = some (.int (ns.getD j 0)) := fun j hj => by
        refine (atI_nat (v := D.int (ns.getD j 0)) ?_)
        unfold intsD
        rw [List.getElem?_map, List.getElem?_eq_getElem hj, List.getD_eq_getElem?_getD, List.getElem?_eq_getElem hj]
        rfl
      refine ev_bin (x := .lst (intsD (((List.range (ns.length - 1)).filter fun i => decide (ns.getD (i + 1) 0 ≤ ns.getD i 0)).map fun i : Nat => 1 + (i : Int)))) (y := .lst []) (ev_mDl ?_) (ev_mDl rfl) ?_
      · refine ev_compP' (e1 := [.sh (.int size), .sh (.tup (intsD ns)), .no, .no]) (ds := rngL 1 (ns.length - 1)) (F := fun d => match d with | .int j => if ns.getD j.toNat 0 ≤ ns.getD (j - 1).toNat 0 then some (.int j) else none | _ => none) ?_ (by rw [rngL_len]; exact Nat.le_trans (by omega : ns.length - 1 ≤ 1000) (by decide)) rfl (fun d hd => ?_) ?_
        · have := ev_rng2 (m := aCons (aD (eC (.int 1))) (aCons (aD (mD (rFn (f1 gLen) (aCons (aD (eVar 1)) aNil)))) aNil)) (i := 1) (j := ((intsD ns).length : Nat)) (e := [.sh (.int size), .sh (.tup (intsD ns)), .no, .no]) (e1 := [.sh (.int size), .sh (.tup (intsD ns)), .no, .no]) (ev_vals (ev_d2 rfl (ev_mD (ev_fn1 rfl rfl))) rfl) (by decide) (small_of (by rw [hlen]; omega))
          have e2 : ((((intsD ns).length : Nat) : Int) - 1).toNat = ns.length - 1 := by rw [hlen]; omega
          rw [e2] at this
          exact this
        · unfold rngL at hd
          obtain ⟨i, hi, rfl⟩ := List.mem_map.mp hd
          have hi := List.mem_range.mp hi
          have e0 : (1 + (i : Int)) = ((i + 1 : Nat) : Int) := by omega
          rw [e0]
          have tst : tCmp fGe (eIxV 1 (mD (rBin fSub (eVar 3) (eC (.int 1))))) (eIxV 1 (eVar 3)) [.sh (.int size), .sh (.tup (intsD ns)), .no, .sh (.int ((i + 1 : Nat) : Int))] = .ok (decide (ns.getD (i + 1) 0 ≤ ns.getD i 0)) [.sh (.int size), .sh (.tup (intsD ns)), .no, .sh (.int ((i + 1 : Nat) : Int))] := by
            refine ev_cmp (x := .int (ns.getD i 0)) (y := .int (ns.getD (i + 1) 0)) (ev_ixV (y := .int (i : Int)) rfl (ev_mD (ev_bin rfl rfl ?_)) rfl (hat i (by omega))) (ev_ixV rfl rfl rfl (hat (i + 1) (by omega))) rfl
            show some (Ret.sh (.int (((i + 1 : Nat) : Int) - 1))) = _
            congr 3
            omega
          refine ⟨[.sh (.int size), .sh (.tup (intsD ns)), .no, .sh (.int ((i + 1 : Nat) : Int))], ?_, rfl⟩
          show turnC _ _ _ _ _ = .ok (if ns.getD ((i + 1 : Nat) : Int).toNat 0 ≤ ns.getD (((i + 1 : Nat) : Int) - 1).toNat 0 then some (.int ((i + 1 : Nat) : Int)) else none) _
          rw [show (((i + 1 : Nat) : Int) - 1).toNat = i by omega, Int.toNat_natCast]
          by_cases hb : ns.getD (i + 1) 0 ≤ ns.getD i 0
          · rw [decide_eq_true hb] at tst; rw [if_pos hb]; exact ev_turn (e1 := [.sh (.int size), .sh (.tup (intsD ns)), .no, .sh (.int ((i + 1 : Nat) : Int))]) rfl tst rfl
          · rw [decide_eq_false hb] at tst; rw [if_neg hb]; exact ev_turn0 (e1 := [.sh (.int size), .sh (.tup (intsD ns)), .no, .sh (.int ((i + 1 : Nat) : Int))]) rfl tst
        · refine fm_shift _ _ (fun i => decide (ns.getD (i + 1) 0 ≤ ns.getD i 0)) fun i hi => ?_
          show (if ns.getD (1 + (i : Int)).toNat 0 ≤ ns.getD (1 + (i : Int) - 1).toNat 0 then some (D.int (1 + (i : Int))) else none) = _
          rw [show (1 + (i : Int) - 1).toNat = i by omega, show (1 + (i : Int)).toNat = i + 1 by omega]
          by_cases hb : ns.getD (i + 1) 0 ≤ ns.getD i 0 <;> simp [hb]
      · rw [eq_b (deq_nil (ok_lstI _)), ← rise_iff]
        congr 3
        unfold intsD
        cases (List.range (ns.length - 1)).filter fun i => decide (ns.getD (i + 1) 0 ≤ ns.getD i 0) <;> rfl
  | obj c fs => cases hv
  | non => exact ev_seqR (ev_if1' (ev_or1 (ev_not (ev_tru (ev_mD (ev_one rfl (isi_tup hp))) rfl))) rfl)
  | bl _ => exact ev_seqR (ev_if1' (ev_or1 (ev_not (ev_tru (ev_mD (ev_one rfl (isi_tup hp))) rfl))) rfl)
  | int _ => exact ev_seqR (ev_if1' (ev_or1 (ev_not (ev_tru (ev_mD (ev_one rfl (isi_tup hp))) rfl))) rfl)
  | str _ => exact ev_seqR (ev_if1' (ev_or1 (ev_not (ev_tru (ev_mD (ev_one rfl (isi_tup hp))) rfl))) rfl)
  | lst _ => exact ev_seqR (ev_if1' (ev_or1 (ev_not (ev_tru (ev_mD (ev_one rfl (isi_tup hp))) rfl))) rfl)
  | dct _ => exact ev_seqR (ev_if1' (ev_or1 (ev_not (ev_tru (ev_mD (ev_one rfl (isi_tup hp))) rfl))) rfl)
end G
end

section
namespace G
open DL PySem PySem.Spec
open L2 (atI atI_nat)
set_option maxHeartbeats 0
/-! ### drawn values -/
theorem ix_any {l : List D} {r : Int} (h0 : 0 ≤ r) (h1 : r < l.length) : ∃ x ∈ l, atI l r = some x := by
  obtain ⟨j, rfl⟩ : ∃ j : Nat, r = j := ⟨r.toNat, by omega⟩
  have hj : j < l.length := by omega
  exact ⟨l[j], List.getElem_mem hj, atI_nat (List.getElem?_eq_getElem hj)⟩
theorem in_nats {l : List Nat} {p : Nat} : dIn (.int p) (natsD l) = some (decide (p ∈ l)) := by
  rw [natsD_ints, dIn_int]
  congr 1
  by_cases h : p ∈ l
  · rw [decide_eq_true h, decide_eq_true (List.mem_map.mpr ⟨p, h, rfl⟩)]
  · rw [decide_eq_false h, decide_eq_false]
    intro z
    obtain ⟨q, hq, e⟩ := List.mem_map.mp z
    have : q = p := by omega
    subst this
    exact h hq
theorem in_set {n m p : Nat} (hp : p < n) : fIn (.int p) (setD n m) = some (.sh (.bl (m.testBit p))) := by
  show (dIn (.int p) (natsD (elems n m))).map _ = _
  rw [in_nats]
  cases hb : m.testBit p with
  | true => rw [decide_eq_true (elems_mem.mpr ⟨hp, hb⟩)]; rfl
  | false => rw [decide_eq_false (fun z => by have := (elems_mem.mp z).2; rw [hb] at this; cases this)]; rfl
theorem notin_set {n m p : Nat} (hp : p < n) : fNotIn (.int p) (setD n m) = some (.sh (.bl (!m.testBit p))) := by
  show (dIn (.int p) (natsD (elems n m))).map _ = _
  rw [in_nats]
  cases hb : m.testBit p with
  | true => rw [decide_eq_true (elems_mem.mpr ⟨hp, hb⟩)]; rfl
  | false => rw [decide_eq_false (fun z => by have := (elems_mem.mp z).2; rw [hb] at this; cases this)]; rfl
theorem nats_lim {n m : Nat} (hn : n ≤ 30) : (natsD (elems n m)).length ≤ LIM := by rw [natsD_len]; exact lim9 (Nat.le_trans (elems_len n m) hn)
/-- a block over a set that keeps those places for which a test holds -/
theorem keep_set {n m m' : Nat} {i : Nat} {t : M Bool} {mi : M (List D)} {e : En} {f : Nat → Bool} {s : Sl} (hn : n ≤ 30) (hi : mi e = .ok (natsD (elems n m)) e) (he : e[i]? = some s) (hs : s.own = none) (ht : ∀ p < n, t (e.set i (.sh (.int p))) = .ok (f p) (e.set i (.sh (.int p))))
    (hm : ∀ p < n, m'.testBit p = (m.testBit p && f p)) : rComp mi (gSet i) t (eVar i) [i] e = .ok (.ow (.l (natsD (elems n m')))) e := by
  have hi' : i < e.length := (List.getElem?_eq_some_iff.mp he).1
  have hg : e.getD i .no = s := by rw [List.getD_eq_getElem?_getD, he]; rfl
  have h0 : noOwn e [i] = true := by
    show ([i].all fun v => (e.getD v .no).own.isNone) = true
    simp [he, hs]
  have bk : e.set i s = e := by
    refine List.ext_getElem? fun j => ?_
    by_cases hj : i = j
    · subst hj; rw [List.getElem?_set_self hi', he]
    · rw [List.getElem?_set_ne hj]
  refine ev_compP' (ds := natsD (elems n m)) (F := fun d => match d with | .int k => if f k.toNat then some (.int k) else none | _ => none) hi (nats_lim hn) h0 (fun d hd => ?_) ?_
  · obtain ⟨p, hp, rfl⟩ := natsD_mem hd
    have hp := (elems_lt hp).1
    have g1 : gSet i (.int p) (wipeE e [i]) = .ok () (e.set i (.sh (.int p))) := by
      show gSet i (.int p) (e.set i .no) = _
      unfold gSet
      rw [List.getElem?_set_self hi']
      show R.ok () ((e.set i .no).set i (.sh (.int p))) = _
      rw [List.set_set]
    refine ⟨e.set i (.sh (.int p)), ?_, ?_⟩
    · have tp := ht p hp
      have v1 : eVar i (e.set i (.sh (.int p))) = .ok (.int p) (e.set i (.sh (.int p))) := by
        unfold eVar
        rw [List.getElem?_set_self hi']
      show turnC _ _ _ _ _ = .ok (if f ((p : Int)).toNat then some (.int p) else none) _
      rw [Int.toNat_natCast]
      cases hk : f p with
      | true => rw [hk] at tp; exact ev_turn g1 tp v1
      | false => rw [hk] at tp; exact ev_turn0 g1 tp
    · show (e.set i (.sh (.int p))).set i (e.getD i .no) = e
      rw [List.set_set, hg, bk]
  · rw [fm_nats _ _ f fun p _ => by simp, elems_filter n m f m' hm]
theorem range_set (n : Nat) : natsD (elems n (2 ^ n - 1)) = rngL 0 n := by
  rw [rng_nats]
  congr 1
  unfold elems
  rw [List.filter_eq_self]
  intro p hp
  have := List.mem_range.mp hp
  rw [Nat.testBit_two_pow_sub_one, decide_eq_true this]
/-- the same over range(n) -/
theorem keep_rng {n m' : Nat} {i : Nat} {t : M Bool} {mi : M (List D)} {e : En} {f : Nat → Bool} {s : Sl} (hn : n ≤ 30) (hi : mi e = .ok (rngL 0 n) e) (he : e[i]? = some s) (hs : s.own = none) (ht : ∀ p < n, t (e.set i (.sh (.int p))) = .ok (f p) (e.set i (.sh (.int p))))
    (hm : ∀ p < n, m'.testBit p = f p) : rComp mi (gSet i) t (eVar i) [i] e = .ok (.ow (.l (natsD (elems n m')))) e :=
  keep_set (m := 2 ^ n - 1) hn (by rw [range_set]; exact hi) he hs ht fun p hp => by rw [hm p hp, Nat.testBit_two_pow_sub_one, decide_eq_true hp]; rfl
theorem partner_ev {c a : Nat} {l : List D} (hb : BoxOk c l) (hc : c < 800000000) (ha : a < 512) : ∃ m l', m < 512 ∧ s__law_partner [iob l, .sh (setD 9 a)] = .ok (.sh (setD 9 m)) [iob l', .sh (setD 9 a)] ∧ BoxOk (c + 10) l' := by
  obtain ⟨o, l1, h1, h2, h3⟩ := drawn_ev hb (by omega)
  obtain ⟨r, l2, k1, k2, k3, k4⟩ := take_ev (many := 5) h3 (by omega) (by omega) (by omega)
  let five : List D := [setD 9 o, setD 9 a, setD 9 (o &&& a), setD 9 (o - (o &&& a)), setD 9 0]
  have hfive : ∀ x ∈ five, ∃ m, m < 512 ∧ x = setD 9 m := by
    intro x hx
    have h4 : o &&& a < 512 := Nat.lt_of_le_of_lt Nat.and_le_left h1
    rcases List.mem_cons.mp hx with rfl | hx
    · exact ⟨o, h1, rfl⟩
    rcases List.mem_cons.mp hx with rfl | hx
    · exact ⟨a, ha, rfl⟩
    rcases List.mem_cons.mp hx with rfl | hx
    · exact ⟨_, h4, rfl⟩
    rcases List.mem_cons.mp hx with rfl | hx
    · exact ⟨_, by omega, rfl⟩
    rcases List.mem_cons.mp hx with rfl | hx
    · exact ⟨0, by omega, rfl⟩
    cases hx
  obtain ⟨x, hx, hat⟩ := ix_any (l := five) k2 k3
  obtain ⟨m, hm, rfl⟩ := hfive x hx
  refine ⟨m, l2, hm, ?_, k4⟩
  have z0 : setD 9 0 = .tup [] := rfl
  refine ev_fun (e' := [iob l2, .sh (setD 9 a), .sh (setD 9 o), .no]) rfl ?_
  refine ev_seq' (e1 := [iob l1, .sh (setD 9 a), .sh (setD 9 o), .no]) (ev_asg (e1 := [iob l1, .sh (setD 9 a), .no, .no]) (ev_mD (ev_call (as := [.at 0]) rfl rfl (by simp [ixs]) h2)) rfl) ?_
  refine ev_ret (ev_mR (ev_ix (x := .lst five) (e1 := [iob l1, .sh (setD 9 a), .sh (setD 9 o), .no]) (ev_mDl ?_) (ev_mD (ev_call (as := [.at 0, .d (.int 5)]) rfl rfl (by simp [ixs]) k1)) hat))
  refine ev_lst (as := [.d (setD 9 o), .d (setD 9 a), .d (setD 9 (o &&& a)), .d (setD 9 (o - (o &&& a))), .d (setD 9 0)]) ?_ rfl (Nat.le_of_ble_eq_true rfl)
  refine ev_cons (ev_aD rfl) (ev_cons (ev_aD rfl) (ev_cons (e1 := [iob l1, .sh (setD 9 a), .sh (setD 9 o), .no]) (ev_aD (ev_mD (ev_fn1 (x := .lst (natsD (elems 9 (o &&& a)))) (ev_mDl ?_) rfl))) (ev_cons (e1 := [iob l1, .sh (setD 9 a), .sh (setD 9 o), .no]) (ev_aD (ev_mD (ev_fn1 (x := .lst (natsD (elems 9 (o - (o &&& a))))) (ev_mDl ?_) rfl))) (ev_cons (e1 := [iob l1, .sh (setD 9 a), .sh (setD 9 o), .no]) (ev_aD (ev_tup rfl rfl (by decide))) rfl))))
  · exact keep_set (m := o) (f := fun p => a.testBit p) (by omega) (ev_seqL rfl rfl) rfl rfl (fun p hp => ev_cmp rfl rfl (in_set hp)) fun p _ => Nat.testBit_and o a p
  · exact keep_set (m := o) (f := fun p => !a.testBit p) (by omega) (ev_seqL rfl rfl) rfl rfl (fun p hp => ev_cmp rfl rfl (notin_set hp)) fun p _ => sub_bit o a p
/-! near values -/
def atom : D → Bool
  | .int _ => true
  | .bl _ => true
  | .non => true
  | _ => false
theorem vOk_atoms {l : List D} (h : l.all atom = true) (hl : l.length ≤ 1000) : vOk (.tup l) = true := by
  show (okD (.lst l) && decide (l.length ≤ 1000)) = true
  rw [decide_eq_true hl, Bool.and_true]
  refine ok_lst_iff.mpr fun x hx => ?_
  have := List.all_eq_true.mp h x hx
  cases x <;> first | exact ⟨rfl, by simp [D.py, PyData.depth]⟩ | cases this
theorem atoms_nats (l : List Nat) : (natsD l).all atom = true := by
  rw [List.all_eq_true]
  intro x hx
  obtain ⟨p, _, rfl⟩ := natsD_mem hx
  rfl
theorem cut_sub {l : List D} {a b : Option Int} {x : D} (h : x ∈ cutD l a b) : x ∈ l := by
  unfold cutD at h
  exact List.mem_of_mem_drop (List.mem_of_mem_take h)
theorem cut_len (l : List D) (a b : Option Int) : (cutD l a b).length ≤ l.length := by
  unfold cutD
  rw [List.length_take, List.length_drop]
  omega
theorem near_ev {c m : Nat} {size : Int} {l : List D} (hb : BoxOk c l) (hc : c < 900000000) : ∃ v l', s__law_near [iob l, .sh (.int size), .sh (setD 9 m)] = .ok (.sh v) [iob l', .sh (.int size), .sh (setD 9 m)] ∧ vOk v = true ∧ BoxOk (c + 1) l' := by
  obtain ⟨r, l2, k1, k2, k3, k4⟩ := take_ev (many := 9) hb (by omega) (by omega) (by omega)
  have len9 : (natsD (elems 9 m)).length ≤ 9 := by rw [natsD_len]; exact elems_len 9 m
  let L := natsD (elems 9 m)
  have lenL : L.length ≤ 9 := len9
  have lc := cut_len L (some (-1)) none
  have lc1 := cut_len L (some 1) none
  let nine : List D := [.lst L, .tup (L ++ cutD L (some (-1)) none), .tup L.reverse, .tup (L ++ [.int size]), .tup ([.int (-1)] ++ L), .tup (L ++ [.bl true]), .tup (L ++ [.non]), .tup (cutD L (some 1) none), .tup L]
  have at0 : ∀ x ∈ L, atom x = true := List.all_eq_true.mp (atoms_nats _)
  have hnine : ∀ x ∈ nine, vOk x = true := by
    intro x hx
    have lm : LIM = 1000000 := rfl
    simp only [nine, List.mem_cons, List.not_mem_nil, or_false] at hx
    rcases hx with rfl | rfl | rfl | rfl | rfl | rfl | rfl | rfl | rfl
    · rfl
    · refine vOk_atoms (List.all_eq_true.mpr fun x hx => ?_) (by rw [List.length_append]; omega)
      rcases List.mem_append.mp hx with h | h
      · exact at0 x h
      · exact at0 x (cut_sub h)
    · exact vOk_atoms (List.all_eq_true.mpr fun x hx => at0 x (List.mem_reverse.mp hx)) (by rw [List.length_reverse]; omega)
    · refine vOk_atoms (List.all_eq_true.mpr fun x hx => ?_) (by simp; omega)
      rcases List.mem_append.mp hx with h | h
      · exact at0 x h
      · rw [List.mem_singleton.mp h]; rfl
    · refine vOk_atoms (List.all_eq_true.mpr fun x hx => ?_) (by simp; omega)
      rcases List.mem_append.mp hx with h | h
      · rw [List.mem_singleton.mp h]; rfl
      · exact at0 x h
    · refine vOk_atoms (List.all_eq_true.mpr fun x hx => ?_) (by simp; omega)
      rcases List.mem_append.mp hx with h | h
      · exact at0 x h
      · rw [List.mem_singleton.mp h]; rfl
    · refine vOk_atoms (List.all_eq_true.mpr fun x hx => ?_) (by simp; omega)
      rcases List.mem_append.mp hx with h | h
      · exact at0 x h
      · rw [List.mem_singleton.mp h]; rfl
    · exact vOk_atoms (List.all_eq_true.mpr fun x hx => at0 x (cut_sub hx)) (by omega)
    · exact vOk_atoms (List.all_eq_true.mpr at0) (by omega)
  have hadd : ∀ x y : List D, x.length ≤ 20 → y.length ≤ 20 → fAdd (.tup x) (.tup y) = some (.sh (.tup (x ++ y))) := fun x y h1 h2 => by
    show (if x.length + y.length ≤ LIM then _ else _) = _
    rw [if_pos (by have : LIM = 1000000 := rfl; omega)]
  obtain ⟨x, hx, hat⟩ := ix_any (l := nine) k2 k3
  refine ⟨x, l2, ?_, hnine x hx, k4⟩
  refine ev_fun (e' := [iob l2, .sh (.int size), .sh (.tup L), .sh (.lst nine)]) rfl ?_
  refine ev_seq' (e1 := [iob l, .sh (.int size), .sh (.tup L), .sh (.lst nine)]) (ev_asg (e1 := [iob l, .sh (.int size), .sh (.tup L), .no]) (ev_mDl (l := nine) ?_) rfl) ?_
  · refine ev_lst (as := nine.map .d) ?_ rfl (Nat.le_of_ble_eq_true rfl)
    refine ev_cons (ev_aD (ev_mDl (ev_fn1 (x := .tup L) rfl rfl))) (ev_cons (ev_aD (ev_mD (ev_bin (x := .tup L) (y := .tup (cutD L (some (-1)) none)) rfl (ev_mD (ev_slice (d := .tup L) rfl (ev_some (ev_un rfl)) rfl rfl)) (hadd _ _ (by omega) (by omega))))) (ev_cons (ev_aD (ev_mD (ev_rev (d := .tup L) rfl rfl))) (ev_cons (ev_aD (ev_mD (ev_bin (x := .tup L) rfl (ev_tup (ev_d1 rfl) rfl (Nat.le_of_ble_eq_true rfl)) (hadd _ _ (by omega) (by simp)))))
      (ev_cons (ev_aD (ev_mD (ev_bin (y := .tup L) (ev_tup (ev_d1 (ev_un rfl)) rfl (Nat.le_of_ble_eq_true rfl)) rfl (hadd _ _ (by simp) (by omega))))) (ev_cons (ev_aD (ev_mD (ev_bin (x := .tup L) rfl (ev_tup (ev_d1 rfl) rfl (Nat.le_of_ble_eq_true rfl)) (hadd _ _ (by omega) (by simp))))) (ev_cons (ev_aD (ev_mD (ev_bin (x := .tup L) rfl (ev_tup (ev_d1 rfl) rfl (Nat.le_of_ble_eq_true rfl)) (hadd _ _ (by omega) (by simp))))) (ev_cons (ev_aD (ev_mD (ev_slice (d := .tup L) rfl (ev_some rfl) rfl rfl))) (ev_cons (ev_aD rfl) rfl))))))))
  · exact ev_ret (ev_mR (ev_ixV (x := .lst nine) rfl (ev_mD (ev_callP (as := [.at 0, .d (.int 9)]) (ev_cons rfl (ev_d1 (ev_mD (ev_fn1 (x := .lst nine) rfl rfl)))) rfl (by simp [ixs]) k1 rfl)) rfl hat))
end G
end

section
namespace G
open DL PySem PySem.Spec
open L2 (atI atI_nat)
set_option maxHeartbeats 0
/-! odd values -/
def oddA : List D := [.non, .bl true, .bl false, .int (0), .int (1), .int (-1), .int (9), .int (10), .int (100000000000000000000000000000), .str "", .str "0", .lst [], .tup [], .lst [.int (0)], .tup [.int (0)], .tup [.int (1), .int (0)], .tup [.int (0), .int (1)], .tup [.int (0), .int (0)], .tup [.int (-1)], .tup [.int (9)], .tup [.bl true], .tup [.str "0"], .tup [.non], .dct [], .dct [(.inr "a", .int (1))]]
def oddB : List D := [.lst [.int (0), .int (1)], .tup [.tup [.int (0), .int (1)]], .tup [.lst [.int (0), .int (1)]], .tup [.tup [.int (0), .int (1)], .tup [.int (1), .int (0)]], .tup [.tup [.int (0)]], .tup [.tup [.int (0), .int (1), .int (2)]], .tup [.int (2), .int (5), .int (8)], .tup [.int (0), .int (2), .int (1)], .str "01", .tup [.tup [.int (0), .int (1)], .tup [.int (0), .int (1)]]]
theorem odd_ok : ∀ x ∈ oddA ++ oddB, vOk x = true := by
  have h : (oddA ++ oddB).all vOk = true := by decide +kernel
  exact fun x hx => List.all_eq_true.mp h x hx
theorem odd_ev {c : Nat} {l : List D} (hb : BoxOk c l) (hc : c < 900000000) : ∃ v l', s__law_odd [iob l] = .ok (.sh v) [iob l'] ∧ vOk v = true ∧ BoxOk (c + 1) l' := by
  obtain ⟨r, l2, k1, k2, k3, k4⟩ := take_ev (many := 35) hb (by omega) (by omega) (by omega)
  obtain ⟨x, hx, hat⟩ := ix_any (l := oddA ++ oddB) k2 k3
  refine ⟨x, l2, ?_, odd_ok x hx, k4⟩
  refine ev_fun (e' := [iob l2, .sh (.lst (oddA ++ oddB))]) rfl ?_
  refine ev_seq' (e1 := [iob l, .sh (.lst oddA)]) (ev_asg (e1 := [iob l, .no]) (d := .lst oddA) (ev_mDl rfl) rfl) ?_
  refine ev_seq' (e1 := [iob l, .sh (.lst (oddA ++ oddB))]) (ev_asg (e1 := [iob l, .sh (.lst oddA)]) (d := .lst (oddA ++ oddB)) (ev_mDl (ev_bin (x := .lst oddA) (y := .lst oddB) rfl (ev_mDl rfl) rfl)) rfl) ?_
  exact ev_ret (ev_mR (ev_ixV (x := .lst (oddA ++ oddB)) rfl (ev_mD (ev_callP (as := [.at 0, .d (.int 35)]) (ev_cons rfl (ev_d1 (ev_mD (ev_fn1 (x := .lst (oddA ++ oddB)) rfl rfl)))) rfl (by simp [ixs]) k1 rfl)) rfl hat))
/-! ### a pair -/
def bitsL (a : Nat) : List D := (List.range 9).map fun p => .bl (a.testBit p)
theorem bits_at {a p : Nat} (hp : p < 9) : fIx (.lst (bitsL a)) (.int p) = some (.bl (a.testBit p)) := by
  refine atI_nat (v := D.bl (a.testBit p)) ?_
  unfold bitsL
  rw [List.getElem?_map, List.getElem?_range hp]
  rfl
theorem bits_ev {e : En} {i j a : Nat} {s : Sl} (hi : e[i]? = some (.sh (setD 9 a))) (hij : i ≠ j) (he : e[j]? = some s) (hs : s.own = none) (hr : ∀ mi, mi = iRng1M (aCons (aD (eC (.int 9))) aNil) → mi e = .ok (rngL 0 9) e) :
    rComp (iRng1M (aCons (aD (eC (.int 9))) aNil)) (gSet j) (M.ret true) (mD (rBin fIn (eVar j) (eVar i))) [j] e = .ok (.ow (.l (bitsL a))) e := by
  have hj' : j < e.length := (List.getElem?_eq_some_iff.mp he).1
  have hg : e.getD j .no = s := by rw [List.getD_eq_getElem?_getD, he]; rfl
  have bk : e.set j s = e := by
    refine List.ext_getElem? fun q => ?_
    by_cases hq : j = q
    · subst hq; rw [List.getElem?_set_self hj', he]
    · rw [List.getElem?_set_ne hq]
  refine ev_compP' (e1 := e) (ds := rngL 0 9) (F := fun d => match d with | .int k => some (.bl (a.testBit k.toNat)) | _ => none) (hr _ rfl) (by decide) (by show ([j].all fun v => (e.getD v .no).own.isNone) = true; simp [he, hs]) (fun d hd => ?_) ?_
  · obtain ⟨p, hp, rfl⟩ := rng_mem hd
    have g1 : gSet j (.int p) (wipeE e [j]) = .ok () (e.set j (.sh (.int p))) := by
      show gSet j (.int p) (e.set j .no) = _
      unfold gSet
      rw [List.getElem?_set_self hj']
      show R.ok () ((e.set j .no).set j (.sh (.int p))) = _
      rw [List.set_set]
    have v1 : eVar j (e.set j (.sh (.int p))) = .ok (.int p) (e.set j (.sh (.int p))) := by unfold eVar; rw [List.getElem?_set_self hj']
    have v2 : eVar i (e.set j (.sh (.int p))) = .ok (setD 9 a) (e.set j (.sh (.int p))) := by unfold eVar; rw [List.getElem?_set_ne (fun z => hij z.symm), hi]
    refine ⟨e.set j (.sh (.int p)), ev_turn g1 rfl (ev_mD (ev_bin v1 v2 ?_)), ?_⟩
    · rw [Int.toNat_natCast]; exact in_set hp
    · show (e.set j (.sh (.int p))).set j (e.getD j .no) = e
      rw [List.set_set, hg, bk]
  · rw [rng_nats, fm_map _ _ (fun p => .bl (a.testBit p)) fun p _ => by simp]
    rfl
theorem okS_set (n k m : Nat) (hk : k ≤ 30) : okS (n + 2) (setD k m) = true := by
  show ((natsD (elems k m)).all (okS (n + 1)) && decide ((natsD (elems k m)).length ≤ LIM)) = true
  rw [decide_eq_true (nats_lim hk), Bool.and_true, List.all_eq_true]
  intro x hx
  obtain ⟨p, _, rfl⟩ := natsD_mem hx
  rfl
theorem okS_lst {n : Nat} {l : List D} (h : ∀ x ∈ l, okS n x = true) (hl : l.length ≤ LIM) : okS (n + 1) (.lst l) = true := by
  show (l.all (okS n) && decide (l.length ≤ LIM)) = true
  rw [decide_eq_true hl, Bool.and_true, List.all_eq_true]
  exact h
theorem ev_kw2 {sem : FS} {m n : M D} {x y : D} {r : Ret} {e e1 e2 : En} {outs : List Sl} (h : m e = .ok x e1) (h' : n e1 = .ok y e2) (hs : sem [.sh y, .sh x] = .ok r outs) : rCallK sem 0 2 [1, 0] aNil (aCons (aD m) (aCons (aD n) aNil)) e = .ok r e2 :=
  ev_kw (as := []) (ks := [.d x, .d y]) rfl (ev_d2 h h') ⟨rfl, rfl⟩ rfl (by simp [permL, ixs]) hs
theorem ev_kw1 {sem : FS} {m : M D} {x : D} {r : Ret} {e e1 : En} {outs : List Sl} (h : m e = .ok x e1) (hs : sem [.sh x] = .ok r outs) : rCallK sem 0 1 [0] aNil (aCons (aD m) aNil) e = .ok r e1 :=
  ev_kw (as := []) (ks := [.d x]) rfl (ev_d1 h) ⟨rfl, rfl⟩ rfl (by simp [permL, ixs]) hs
theorem pair_ev {a b : Nat} (ha : a < 512) (hb : b < 512) : ∃ o, s__law_pair_right [.sh (setD 9 a), .sh (setD 9 b)] = .ok (.sh (.bl true)) o := by
  have hab : a &&& b < 512 := Nat.lt_of_le_of_lt Nat.and_le_left ha
  have hba : b &&& a < 512 := Nat.lt_of_le_of_lt Nat.and_le_left hb
  let A := setD 9 a
  let B := setD 9 b
  let FA : Sl := .sh (.lst (bitsL a))
  let FB : Sl := .sh (.lst (bitsL b))
  let d0 := setD 9 (a ||| b)
  let d1 := setD 9 (a &&& b)
  let d2 := setD 9 (a - (a &&& b))
  let d3 := setD 9 (b - (b &&& a))
  refine ⟨[.sh A, .sh B], ev_fun (e' := [.sh A, .sh B, FA, FB, .sh (.lst [d0, d1, d2, d3]), .no]) rfl ?_⟩
  refine ev_seq' (e1 := [.sh A, .sh B, FA, FB, .no, .no]) (ev_asg (e1 := [.sh A, .sh B, .no, .no, .no, .no]) (d := .tup [.lst (bitsL a), .lst (bitsL b)]) (ev_tup (as := [.d (.lst (bitsL a)), .d (.lst (bitsL b))]) (ev_d2 (e1 := [.sh A, .sh B, .no, .no, .no, .no]) (ev_mDl (bits_ev (a := a) rfl (by decide) rfl rfl fun _ h => by rw [h]; rfl)) (ev_mDl (bits_ev (a := b) rfl (by decide) rfl rfl fun _ h => by rw [h]; rfl))) rfl (Nat.le_of_ble_eq_true rfl)) rfl) ?_
  have ixA : ∀ (p : Nat) (s : Sl), p < 9 → eIxV 2 (eVar 5) [.sh A, .sh B, FA, FB, s, .sh (.int p)] = .ok (.bl (a.testBit p)) [.sh A, .sh B, FA, FB, s, .sh (.int p)] := fun p s hp => ev_ixV rfl rfl rfl (bits_at hp)
  have ixB : ∀ (p : Nat) (s : Sl), p < 9 → eIxV 3 (eVar 5) [.sh A, .sh B, FA, FB, s, .sh (.int p)] = .ok (.bl (b.testBit p)) [.sh A, .sh B, FA, FB, s, .sh (.int p)] := fun p s hp => ev_ixV rfl rfl rfl (bits_at hp)
  have or_ : ∀ (p : Nat) (s : Sl), p < 9 → tOrM (tTru (eIxV 2 (eVar 5))) (tTru (eIxV 3 (eVar 5))) [.sh A, .sh B, FA, FB, s, .sh (.int p)] = .ok (a.testBit p || b.testBit p) [.sh A, .sh B, FA, FB, s, .sh (.int p)] := fun p s hp => by
    have h1 := ev_tru (k := a.testBit p) (ixA p s hp) rfl
    have h2 := ev_tru (k := b.testBit p) (ixB p s hp) rfl
    cases hk : a.testBit p with
    | true => rw [hk] at h1; exact ev_or1 h1
    | false => rw [hk] at h1; exact ev_or0 h1 h2
  have and_ : ∀ (p : Nat) (s : Sl), p < 9 → tAndM (tTru (eIxV 2 (eVar 5))) (tTru (eIxV 3 (eVar 5))) [.sh A, .sh B, FA, FB, s, .sh (.int p)] = .ok (a.testBit p && b.testBit p) [.sh A, .sh B, FA, FB, s, .sh (.int p)] := fun p s hp => by
    have h1 := ev_tru (k := a.testBit p) (ixA p s hp) rfl
    have h2 := ev_tru (k := b.testBit p) (ixB p s hp) rfl
    cases hk : a.testBit p with
    | true => rw [hk] at h1; exact ev_and1 h1 h2
    | false => rw [hk] at h1; exact ev_and0 h1
  have an_ : ∀ (p : Nat) (s : Sl), p < 9 → tAndM (tTru (eIxV 2 (eVar 5))) (tNotM (tTru (eIxV 3 (eVar 5)))) [.sh A, .sh B, FA, FB, s, .sh (.int p)] = .ok (a.testBit p && !b.testBit p) [.sh A, .sh B, FA, FB, s, .sh (.int p)] := fun p s hp => by
    have h1 := ev_tru (k := a.testBit p) (ixA p s hp) rfl
    have h2 := ev_not (ev_tru (k := b.testBit p) (ixB p s hp) rfl)
    cases hk : a.testBit p with
    | true => rw [hk] at h1; exact ev_and1 h1 h2
    | false => rw [hk] at h1; exact ev_and0 h1
  have na_ : ∀ (p : Nat) (s : Sl), p < 9 → tAndM (tTru (eIxV 3 (eVar 5))) (tNotM (tTru (eIxV 2 (eVar 5)))) [.sh A, .sh B, FA, FB, s, .sh (.int p)] = .ok (b.testBit p && !a.testBit p) [.sh A, .sh B, FA, FB, s, .sh (.int p)] := fun p s hp => by
    have h1 := ev_tru (k := b.testBit p) (ixB p s hp) rfl
    have h2 := ev_not (ev_tru (k := a.testBit p) (ixA p s hp) rfl)
    cases hk : b.testBit p with
    | true => rw [hk] at h1; exact ev_and1 h1 h2
    | false => rw [hk] at h1; exact ev_and0 h1
  refine ev_seq' (e1 := [.sh A, .sh B, FA, FB, .sh (.lst [d0, d1]), .no]) (ev_asg (e1 := [.sh A, .sh B, FA, FB, .no, .no]) (ev_mDl (l := [d0, d1]) (ev_lst (as := [.d d0, .d d1]) (ev_d2 (e1 := [.sh A, .sh B, FA, FB, .no, .no]) (ev_mD (ev_fn1 (x := .lst (natsD (elems 9 (a ||| b)))) (ev_mDl ?_) rfl)) (ev_mD (ev_fn1 (x := .lst (natsD (elems 9 (a &&& b)))) (ev_mDl ?_) rfl))) rfl (Nat.le_of_ble_eq_true rfl))) rfl) ?_
  · exact keep_rng (f := fun p => a.testBit p || b.testBit p) (by omega) rfl rfl rfl (fun p hp => or_ p .no hp) fun p _ => Nat.testBit_or a b p
  · exact keep_rng (f := fun p => a.testBit p && b.testBit p) (by omega) rfl rfl rfl (fun p hp => and_ p .no hp) fun p _ => Nat.testBit_and a b p
  refine ev_seq' (e1 := [.sh A, .sh B, FA, FB, .sh (.lst [d0, d1, d2, d3]), .no]) (ev_asg (e1 := [.sh A, .sh B, FA, FB, .sh (.lst [d0, d1]), .no]) (d := .lst [d0, d1, d2, d3]) (ev_mDl (ev_bin (x := .lst [d0, d1]) (y := .lst [d2, d3]) rfl (ev_mDl (ev_lst (as := [.d d2, .d d3]) (ev_d2 (e1 := [.sh A, .sh B, FA, FB, .sh (.lst [d0, d1]), .no]) (ev_mD (ev_fn1 (x := .lst (natsD (elems 9 (a - (a &&& b))))) (ev_mDl ?_) rfl)) (ev_mD (ev_fn1 (x := .lst (natsD (elems 9 (b - (b &&& a))))) (ev_mDl ?_) rfl))) rfl (Nat.le_of_ble_eq_true rfl))) rfl)) rfl) ?_
  · exact keep_rng (f := fun p => a.testBit p && !b.testBit p) (by omega) rfl rfl rfl (fun p hp => an_ p _ hp) fun p _ => sub_bit a b p
  · exact keep_rng (f := fun p => b.testBit p && !a.testBit p) (by omega) rfl rfl rfl (fun p hp => na_ p _ hp) fun p _ => sub_bit b a p
  obtain ⟨o1, ho1⟩ := same_ev (d := .lst [d0, d1, d2, d3]) (okS_lst (fun x hx => by
    simp only [List.mem_cons, List.not_mem_nil, or_false] at hx
    rcases hx with rfl | rfl | rfl | rfl <;> exact okS_set 9 9 _ (by omega)) (Nat.le_of_ble_eq_true rfl))
  obtain ⟨o2, ho2⟩ := same_ev (d := .lst [d0, d1, d3]) (okS_lst (fun x hx => by
    simp only [List.mem_cons, List.not_mem_nil, or_false] at hx
    rcases hx with rfl | rfl | rfl <;> exact okS_set 9 9 _ (by omega)) (Nat.le_of_ble_eq_true rfl))
  have n9 : (9 : Nat) ≤ 30 := by omega
  refine ev_seq' (e1 := [.sh A, .sh B, FA, FB, .sh (.lst [d0, d1, d2, d3]), .no]) (ev_if0' (ev_not (k := true) (ev_tru (ev_mD (ev_call2 (e1 := [.sh A, .sh B, FA, FB, .sh (.lst [d0, d1, d2, d3]), .no]) (x := .lst [d0, d1, d2, d3]) (ev_mDl (ev_lst (as := [.d d0, .d d1, .d d2, .d d3]) ?_ rfl (Nat.le_of_ble_eq_true rfl))) rfl ho1)) rfl)) rfl) ?_
  · exact ev_cons (ev_aD (ev_mD (ev_call2 rfl rfl (joined_ev ha hb n9)))) (ev_cons (ev_aD (ev_mD (ev_call2 rfl rfl (shared_ev ha hb n9)))) (ev_cons (ev_aD (ev_mD (ev_call2 rfl rfl (minus_ev ha hb n9)))) (ev_d1 (ev_mD (ev_call2 rfl rfl (minus_ev hb ha n9))))))
  refine ev_ret (ev_call2 (e1 := [.sh A, .sh B, FA, FB, .sh (.lst [d0, d1, d2, d3]), .no]) (x := .lst [d0, d1, d3]) (y := .lst [d0, d1, d3]) (ev_mDl (ev_lst (as := [.d d0, .d d1, .d d3]) ?_ rfl (Nat.le_of_ble_eq_true rfl))) (ev_mDl (ev_lst (as := [.d d0, .d d1, .d d3]) ?_ rfl (Nat.le_of_ble_eq_true rfl))) ho2)
  · exact ev_cons (ev_aD (ev_mD (ev_kw2 rfl rfl (joined_ev ha hb n9)))) (ev_cons (ev_aD (ev_mD (ev_kw2 (e2 := [.sh A, .sh B, FA, FB, .sh (.lst [d0, d1, d2, d3]), .no]) (x := A) (y := B) (outs := [.sh B, .sh A]) rfl rfl (by rw [shared_ev hb ha n9, Nat.and_comm])))) (ev_d1 (ev_mD (ev_kw2 rfl rfl (minus_ev hb ha n9)))))
  · exact ev_d3 (ev_ixV rfl rfl rfl rfl) (ev_ixV rfl rfl rfl rfl) (ev_ixV rfl rfl rfl rfl)
end G
end

section
namespace G
open DL PySem PySem.Spec
open L2 (atI atI_nat)
set_option maxHeartbeats 0
/-! ### the law's start -/
theorem box_ev (g : Int) : ∃ l, s__law_box [.sh (.int g)] = .ok (.ow (.l l)) [.sh (.int g)] ∧ BoxOk 0 l := by
  let A : Int := if g < 0 then -g else g
  have hA : 0 ≤ A := by show 0 ≤ (if g < 0 then -g else g); split <;> omega
  refine ⟨boxL A (decide (1000000000000000000 ≤ A)) (A % 2147483629) 0, ?_, A, _, _, _, rfl, hA, Int.emod_nonneg _ (by omega), Int.emod_lt_of_pos _ (by omega), by omega, by omega⟩
  refine ev_fun (e' := [.sh (.int g)]) rfl (ev_ret (ev_lst (as := (boxL A (decide (1000000000000000000 ≤ A)) (A % 2147483629) 0).map .d) ?_ rfl (Nat.le_of_ble_eq_true rfl)))
  have ab : mD (rFn (f1 gAbs) (aCons (aD (eVar 0)) aNil)) [.sh (.int g)] = .ok (.int A) [.sh (.int g)] := ev_mD (ev_fn1 rfl rfl)
  refine ev_cons (ev_aD ab) (ev_cons (ev_aD (ev_mD (ev_bin (x := .int A) (y := .int (10 ^ 18)) ab (ev_mD (ev_bin rfl rfl (fpow_ (by decide) (by decide) (by decide)))) ?_))) (ev_cons (ev_aD (ev_mD (ev_bin (ev_mD (ev_fn1 ab rfl)) rfl (fmod_ (by decide))))) (ev_d1 rfl)))
  rfl
theorem cell_ev (ns : List Int) (k : Nat) (hk : k < 10) (hl : ns.length ≤ 63) : ∃ g, s__law_cell [.sh (.lst (intsD ns)), .sh (.int k)] = .ok (.sh (.int g)) [.sh (.lst (intsD ns)), .sh (.int k)] := by
  have hlen : (intsD ns).length = ns.length := by simp [intsD]
  have hg : mD (rFn (f1 gLen) (aCons (aD (eVar 0)) aNil)) [.sh (.lst (intsD ns)), .sh (.int k)] = .ok (.int (intsD ns).length) [.sh (.lst (intsD ns)), .sh (.int k)] := ev_mD (ev_fn1 rfl rfl)
  by_cases h : k < ns.length
  · refine ⟨ns[k], ev_fun (e' := [.sh (.lst (intsD ns)), .sh (.int k)]) rfl (ev_ret (ev_rIf1' (ev_cmp rfl hg (lt_t (by rw [hlen]; omega))) (ev_mR (ev_ixV rfl rfl rfl (atI_nat ?_)))))⟩
    unfold intsD
    rw [List.getElem?_map, List.getElem?_eq_getElem h]
    rfl
  · have hc : cutD (intsD ns) none (some 1) = intsD (ns.take 1) := by
      unfold cutD
      rw [HT.sIx_none, show HT.sIx (intsD ns).length (intsD ns).length (some 1) = min 1 (intsD ns).length from HT.sIx_nat _ _ 1]
      cases ns <;> simp [intsD]
    refine ⟨6007 * k + (ns.take 1).sum % 1000033, ev_fun (e' := [.sh (.lst (intsD ns)), .sh (.int k)]) rfl (ev_ret (ev_rIf0' (ev_cmp rfl hg (lt_f (by rw [hlen]; omega))) (ev_bin (ev_mD (ev_bin rfl rfl (fmul_l (by decide) (by decide)))) (ev_mD (ev_bin (ev_mD (ev_fn1 (x := .int ((ns.take 1).sum)) (ev_mD (ev_fn1 (x := .lst (intsD (ns.take 1))) (ev_mDl ?_) ?_)) rfl)) rfl (fmod_ (by decide)))) rfl)))⟩
    · exact ev_slice (d := .lst (intsD ns)) (lo := none) (hi := some 1) rfl rfl (ev_some rfl) (by show some (Ret.ow (.l (cutD (intsD ns) none (some 1)))) = _; rw [hc])
    · show (asInts (intsD (ns.take 1))).bind _ = _
      rw [show asInts (intsD (ns.take 1)) = some (ns.take 1) from asInts_map _]
      rfl
/-! ### one turn -/
theorem gset_ok {e : En} {i : Nat} {s : Sl} {d : D} (h : e[i]? = some s) (hs : s.own = none) : gSet i d e = .ok () (e.set i (.sh d)) := by
  unfold gSet
  rw [h]
  cases s <;> first | rfl | cases hs
structure Fr (a4 a5 a6 a7 a8 a9 a10 a11 a12 : Sl) : Prop where
  h4 : a4.own = none
  h5 : a5.own = none
  h6 : a6.own = none
  h7 : a7.own = none
  h8 : a8.own = none
  h9 : a9.own = none
  h10 : a10.own = none
  h11 : a11.own = none
  h12 : a12.own = none
/-- between the turns -/
def Sta (S K T : Sl) (c : Nat) (e : En) : Prop := ∃ bx a4 a5 a6 a7 a8 a9 a10 a11 a12, e = [S, K, .ow (.l bx), T, a4, a5, a6, a7, a8, a9, a10, a11, a12] ∧ BoxOk c bx ∧ Fr a4 a5 a6 a7 a8 a9 a10 a11 a12
theorem numb_ev {a : Nat} {S K B T s4 s5 s7 s8 s9 s10 s11 s12 : Sl} (ha : a < 512) (h4 : s4 = .sh (setD 9 a)) (h7 : s7.own = none) : ∃ t7, t7.own = none ∧ sFor (iSeq (eVar 4)) (gSet 7) (sAsg (mD (rBin fAdd (eVar 6) (mD (rBin fShl (eC (.int 1)) (eVar 7))))) (gSet 6)) [S, K, B, T, s4, s5, .sh (.int 0), s7, s8, s9, s10, s11, s12] =
    .ok .nx [S, K, B, T, s4, s5, .sh (.int a), t7, s8, s9, s10, s11, s12] := by
  subst h4
  have key := loop_inv0 (g := gSet 7) (b := sAsg (mD (rBin fAdd (eVar 6) (mD (rBin fShl (eC (.int 1)) (eVar 7))))) (gSet 6)) (e := [S, K, B, T, .sh (setD 9 a), s5, .sh (.int 0), s7, s8, s9, s10, s11, s12])
    (fun i e => ∃ t7, t7.own = none ∧ e = [S, K, B, T, .sh (setD 9 a), s5, .sh (.int ((((elems 9 a).take i).map fun p => 2 ^ p).sum : Nat)), t7, s8, s9, s10, s11, s12]) (natsD (elems 9 a)) ⟨s7, h7, rfl⟩ (fun i d e hi ⟨t7, h1, h2⟩ => by
      subst h2
      have hi' : i < (elems 9 a).length := by have := (List.getElem?_eq_some_iff.mp hi).1; rwa [natsD_len] at this
      have hd : d = .int (((elems 9 a)[i] : Nat) : Int) := by
        unfold natsD at hi
        rw [List.getElem?_map, List.getElem?_eq_getElem hi'] at hi
        exact (Option.some.inj hi).symm
      subst hd
      have hp := (elems_lt (List.getElem_mem hi')).1
      refine ⟨_, gset_ok rfl h1, .nx, _, ev_asg (ev_mD (ev_bin rfl (ev_mD (ev_bin rfl rfl (fshl_ (by omega) (by omega) (by decide)))) rfl)) rfl, .inl rfl, .sh (.int ((elems 9 a)[i] : Nat)), rfl, ?_⟩
      have e1 : ((((elems 9 a).take (i + 1)).map fun p => 2 ^ p).sum : Nat) = (((elems 9 a).take i).map fun p => 2 ^ p).sum + 2 ^ (elems 9 a)[i] := by
        rw [List.take_succ_eq_append_getElem hi', List.map_append, List.sum_append]
        simp
      rw [e1]
      show [S, K, B, T, _, s5, Sl.sh (.int (_ + 1 * 2 ^ (((elems 9 a)[i] : Nat) : Int).toNat)), _, s8, s9, s10, s11, s12] = _
      congr 8
      rw [Int.toNat_natCast]
      simp)
  obtain ⟨e', q1, t7, h1, h2⟩ := key
  refine ⟨t7, h1, ?_⟩
  refine ev_for' (ds := natsD (elems 9 a)) (e1 := [S, K, B, T, .sh (setD 9 a), s5, .sh (.int 0), s7, s8, s9, s10, s11, s12]) (ev_seqL rfl rfl) ?_
  rw [q1, h2, natsD_len, List.take_length, mask_sum, Nat.mod_eq_of_lt ha]
def valB : M Fl := (sFor (iSeq (mD (rLst (aCons (aD (eVar 10)) (aCons (aD (eVar 4)) (aCons (aD (mD (rCall s__law_near (aCons (eAt 2) (aCons (aD (eVar 9)) (aCons (aD (eVar 10)) aNil)))))) (aCons (aD (mD (rCall s__law_near (aCons (eAt 2) (aCons (aD (eVar 9)) (aCons (aD (eVar 10)) aNil)))))) (aCons (aD (mD (rCall s__law_odd (aCons (eAt 2) aNil)))) aNil)))))))) (gSet 11)
  (sSeq (sAsg (mD (rCall s__law_is_set (aCons (aD (eVar 9)) (aCons (aD (eVar 11)) aNil)))) (gSet 12))
  (sIf (tNotM (tTru (mD (rCall s__law_same (aCons (aD (mD (rLst (aCons (aD (mD (rCall s_is_subset (aCons (aD (eVar 9)) (aCons (aD (eVar 11)) aNil))))) (aCons (aD (mD (rCallK s_is_subset 0 2 [1, 0] aNil (aCons (aD (eVar 11)) (aCons (aD (eVar 9)) aNil))))) aNil))))) (aCons (aD (mD (rLst (aCons (aD (eVar 12)) (aCons (aD (eVar 12)) aNil))))) aNil)))))) (sRet (mR (eC (.bl false)))) sNil)))
def turnB : M Fl := (sSeq (sAsg (mD (rCall s__law_drawn_set (aCons (eAt 2) aNil))) (gSet 4))
  (sSeq (sAsg (mD (rCall s__law_partner (aCons (eAt 2) (aCons (aD (eVar 4)) aNil)))) (gSet 5))
  (sSeq (sAsg (eC (.int 0)) (gSet 6))
  (sSeq (sFor (iSeq (eVar 4)) (gSet 7)
  (sAsg (mD (rBin fAdd (eVar 6) (mD (rBin fShl (eC (.int 1)) (eVar 7))))) (gSet 6)))
  (sSeq (sIf (tNotM (tTru (mD (rCall s__law_same (aCons (aD (mD (rLst (aCons (aD (mD (rCall s_mask_of (aCons (aD (eVar 4)) aNil)))) (aCons (aD (mD (rCallK s_mask_of 0 1 [0] aNil (aCons (aD (eVar 4)) aNil)))) (aCons (aD (mD (rCall s_subset_of (aCons (aD (eVar 6)) aNil)))) (aCons (aD (mD (rCallK s_subset_of 0 1 [0] aNil (aCons (aD (eVar 6)) aNil)))) aNil))))))) (aCons (aD (mD (rLst (aCons (aD (eVar 6)) (aCons (aD (eVar 6)) (aCons (aD (eVar 4)) (aCons (aD (eVar 4)) aNil))))))) aNil)))))) (sRet (mR (eC (.bl false)))) sNil)
  (sSeq (sAsg (mD (rCall s__law_take (aCons (eAt 2) (aCons (aD (eC (.int 512))) aNil)))) (gSet 8))
  (sSeq (sIf (tNotM (tTru (mD (rCall s__law_same (aCons (aD (mD (rLst (aCons (aD (mD (rCall s_subset_of (aCons (aD (eVar 8)) aNil)))) (aCons (aD (mD (rCall s_mask_of (aCons (aD (mD (rCall s_subset_of (aCons (aD (eVar 8)) aNil)))) aNil)))) aNil))))) (aCons (aD (mD (rLst (aCons (aD (mD (rFn (f1 gTuple) (aCons (aD (mD (rComp (iRng1M (aCons (aD (eC (.int 9))) aNil)) (gSet 7) (tTru (mD (rBin fAnd (mD (rBin fShr (eVar 8) (eVar 7))) (eC (.int 1))))) (eVar 7) [7]))) aNil)))) (aCons (aD (eVar 8)) aNil))))) aNil)))))) (sRet (mR (eC (.bl false)))) sNil)
  (sSeq (sIf (tNotM (tTru (mD (rCall s__law_pair_right (aCons (aD (eVar 4)) (aCons (aD (eVar 5)) aNil)))))) (sRet (mR (eC (.bl false)))) sNil)
  (sSeq (sAsg (mD (rCall s__law_take (aCons (eAt 2) (aCons (aD (eC (.int 10))) aNil)))) (gSet 9))
  (sSeq (sAsg (mD (rFn (f1 gTuple) (aCons (aD (mD (rComp (iSeq (eVar 4)) (gSet 7) (tCmp fLt (eVar 7) (eVar 9)) (eVar 7) [7]))) aNil))) (gSet 10))
  valB))))))))))
/-- the values of a turn -/
theorem vals_ev {S K T s4 s5 s6 s7 s8 s11 s12 : Sl} {a i c : Nat} {size : Int} {bx : List D} (hb : BoxOk c bx) (hc : c < 700000000) (h4 : s4 = .sh (setD 9 a)) (h11 : s11.own = none) (h12 : s12.own = none) :
    ∃ bx' t11 t12, valB [S, K, .ow (.l bx), T, s4, s5, s6, s7, s8, .sh (.int size), .sh (setD 9 i), s11, s12] = .ok .nx [S, K, .ow (.l bx'), T, s4, s5, s6, s7, s8, .sh (.int size), .sh (setD 9 i), t11, t12] ∧ BoxOk (c + 3) bx' ∧ t11.own = none ∧ t12.own = none := by
  subst h4
  obtain ⟨v1, b1, p1, p2, p3⟩ := near_ev (m := i) (size := size) hb (by omega)
  obtain ⟨v2, b2, q1, q2, q3⟩ := near_ev (m := i) (size := size) p3 (by omega)
  obtain ⟨v3, b3, r1, r2, r3⟩ := odd_ev q3 (by omega)
  let five : List D := [setD 9 i, setD 9 a, v1, v2, v3]
  have okSet : ∀ m, vOk (setD 9 m) = true := fun m => vOk_atoms (atoms_nats _) (by rw [natsD_len]; have := elems_len 9 m; omega)
  have hfive : ∀ x ∈ five, vOk x = true := by
    intro x hx
    simp only [five, List.mem_cons, List.not_mem_nil, or_false] at hx
    rcases hx with rfl | rfl | rfl | rfl | rfl
    · exact okSet _
    · exact okSet _
    · exact p2
    · exact q2
    · exact r2
  have key := loop_inv0 (g := gSet 11) (b := (sSeq (sAsg (mD (rCall s__law_is_set (aCons (aD (eVar 9)) (aCons (aD (eVar 11)) aNil)))) (gSet 12))
  (sIf (tNotM (tTru (mD (rCall s__law_same (aCons (aD (mD (rLst (aCons (aD (mD (rCall s_is_subset (aCons (aD (eVar 9)) (aCons (aD (eVar 11)) aNil))))) (aCons (aD (mD (rCallK s_is_subset 0 2 [1, 0] aNil (aCons (aD (eVar 11)) (aCons (aD (eVar 9)) aNil))))) aNil))))) (aCons (aD (mD (rLst (aCons (aD (eVar 12)) (aCons (aD (eVar 12)) aNil))))) aNil)))))) (sRet (mR (eC (.bl false)))) sNil))) (e := [S, K, .ow (.l b3), T, .sh (setD 9 a), s5, s6, s7, s8, .sh (.int size), .sh (setD 9 i), s11, s12])
    (fun _ e => ∃ t11 t12, e = [S, K, .ow (.l b3), T, .sh (setD 9 a), s5, s6, s7, s8, .sh (.int size), .sh (setD 9 i), t11, t12] ∧ t11.own = none ∧ t12.own = none) five ⟨s11, s12, rfl, h11, h12⟩ (fun j d e hj ⟨t11, t12, he, g1, g2⟩ => by
      subst he
      have hv := hfive d (List.mem_of_getElem? hj)
      obtain ⟨o, ho⟩ := lawset_ev (size := size) hv
      have hs := subset_ev (size := size) hv
      obtain ⟨o2, ho2⟩ := same_ev (d := .lst [.bl (isSet size d), .bl (isSet size d)]) rfl
      refine ⟨_, gset_ok rfl g1, .nx, [S, K, .ow (.l b3), T, .sh (setD 9 a), s5, s6, s7, s8, .sh (.int size), .sh (setD 9 i), .sh d, .sh (.bl (isSet size d))], ?_, .inl rfl, _, _, rfl, rfl, rfl⟩
      refine ev_seq' (e1 := [S, K, .ow (.l b3), T, .sh (setD 9 a), s5, s6, s7, s8, .sh (.int size), .sh (setD 9 i), .sh d, .sh (.bl (isSet size d))]) (ev_asg (e1 := [S, K, .ow (.l b3), T, .sh (setD 9 a), s5, s6, s7, s8, .sh (.int size), .sh (setD 9 i), .sh d, t12]) (ev_mD (ev_call2 rfl rfl ho)) (gset_ok rfl g2)) ?_
      refine ev_if0' (e1 := [S, K, .ow (.l b3), T, .sh (setD 9 a), s5, s6, s7, s8, .sh (.int size), .sh (setD 9 i), .sh d, .sh (.bl (isSet size d))]) (ev_not (k := true) (ev_tru (ev_mD (ev_call2 (e1 := [S, K, .ow (.l b3), T, .sh (setD 9 a), s5, s6, s7, s8, .sh (.int size), .sh (setD 9 i), .sh d, .sh (.bl (isSet size d))]) (ev_mDl (ev_lst (as := [.d (.bl (isSet size d)), .d (.bl (isSet size d))]) (ev_d2 (ev_mD (ev_call2 rfl rfl hs)) (ev_mD (ev_kw2 rfl rfl hs))) rfl (Nat.le_of_ble_eq_true rfl))) (ev_mDl (ev_lst (as := [.d (.bl (isSet size d)), .d (.bl (isSet size d))]) (ev_d2 rfl rfl) rfl (Nat.le_of_ble_eq_true rfl))) ho2)) rfl)) rfl)
  obtain ⟨e', k1, t11, t12, he, g1, g2⟩ := key
  refine ⟨b3, t11, t12, ?_, r3, g1, g2⟩
  rw [he] at k1
  refine ev_for' (ds := five) (e1 := [S, K, .ow (.l b3), T, .sh (setD 9 a), s5, s6, s7, s8, .sh (.int size), .sh (setD 9 i), s11, s12]) (ev_seqL (ev_mDl (ev_lst (as := five.map .d) ?_ rfl (Nat.le_of_ble_eq_true rfl))) rfl) k1
  refine ev_cons (e1 := [S, K, .ow (.l bx), T, .sh (setD 9 a), s5, s6, s7, s8, .sh (.int size), .sh (setD 9 i), s11, s12]) (ev_aD rfl) (ev_cons (e1 := [S, K, .ow (.l bx), T, .sh (setD 9 a), s5, s6, s7, s8, .sh (.int size), .sh (setD 9 i), s11, s12]) (ev_aD rfl)
    (ev_cons (e1 := [S, K, .ow (.l b1), T, .sh (setD 9 a), s5, s6, s7, s8, .sh (.int size), .sh (setD 9 i), s11, s12]) (ev_aD (ev_mD (ev_callP (as := [.at 2, .d (.int size), .d (setD 9 i)]) rfl rfl (by simp [ixs]) p1 rfl)))
    (ev_cons (e1 := [S, K, .ow (.l b2), T, .sh (setD 9 a), s5, s6, s7, s8, .sh (.int size), .sh (setD 9 i), s11, s12]) (ev_aD (ev_mD (ev_callP (as := [.at 2, .d (.int size), .d (setD 9 i)]) rfl rfl (by simp [ixs]) q1 rfl)))
    (ev_d1 (ev_mD (ev_callP (as := [.at 2]) rfl rfl (by simp [ixs]) r1 rfl))))))
end G
end

section
namespace G
open DL PySem PySem.Spec
open L2 (atI atI_nat)
set_option maxHeartbeats 0
theorem turn_ev {S K T : Sl} {c : Nat} {e : En} (h : Sta S K T c e) (hc : c < 600000000) : ∃ e', turnB e = .ok .nx e' ∧ Sta S K T (c + 24) e' := by
  obtain ⟨bx, a4, a5, a6, a7, a8, a9, a10, a11, a12, rfl, hb, hf⟩ := h
  obtain ⟨a, b1, ha, p1, p2⟩ := drawn_ev hb (by omega)
  obtain ⟨b, b2, hb', q1, q2⟩ := partner_ev p2 (by omega) ha
  obtain ⟨r, b3, r1, r2, r3, r4⟩ := take_ev (many := 512) q2 (by omega) (by omega) (by omega)
  obtain ⟨m, rfl⟩ : ∃ m : Nat, r = m := ⟨r.toNat, by omega⟩
  have hm : m < 2 ^ 9 := by omega
  obtain ⟨size, b4, s1, s2, s3, s4⟩ := take_ev (many := 10) r4 (by omega) (by omega) (by omega)
  obtain ⟨z, rfl⟩ : ∃ z : Nat, size = z := ⟨size.toNat, by omega⟩
  obtain ⟨t7, g7, n1⟩ := numb_ev (S := S) (K := K) (B := .ow (.l b2)) (T := T) (s4 := .sh (setD 9 a)) (s5 := .sh (setD 9 b)) (s7 := a7) (s8 := a8) (s9 := a9) (s10 := a10) (s11 := a11) (s12 := a12) ha rfl hf.h7
  have n9 : (9 : Nat) ≤ 30 := by omega
  have mk := mask_ev (n := 9) (m := a) ha n9
  have sb := sub_ev (n := 9) (m := a) ha n9
  have mkm := mask_ev (n := 9) (m := m) hm n9
  have sbm := sub_ev (n := 9) (m := m) hm n9
  obtain ⟨o1, ho1⟩ := same_ev (d := .lst [.int a, .int a, setD 9 a, setD 9 a]) (okS_lst (fun x hx => by
    simp only [List.mem_cons, List.not_mem_nil, or_false] at hx
    rcases hx with rfl | rfl | rfl | rfl
    · rfl
    · rfl
    · exact okS_set 9 9 _ n9
    · exact okS_set 9 9 _ n9) (Nat.le_of_ble_eq_true rfl))
  obtain ⟨o2, ho2⟩ := same_ev (d := .lst [setD 9 m, .int m]) (okS_lst (fun x hx => by
    simp only [List.mem_cons, List.not_mem_nil, or_false] at hx
    rcases hx with rfl | rfl
    · exact okS_set 9 9 _ n9
    · rfl) (Nat.le_of_ble_eq_true rfl))
  obtain ⟨o3, ho3⟩ := pair_ev ha hb'
  let ins := a &&& (2 ^ (min z 9) - 1)
  obtain ⟨bx', t11, t12, v1, v2, v3, v4⟩ := vals_ev (S := S) (K := K) (T := T) (s4 := .sh (setD 9 a)) (s5 := .sh (setD 9 b)) (s6 := .sh (.int a)) (s7 := t7) (s8 := .sh (.int m)) (s11 := a11) (s12 := a12) (i := ins) (size := z) s4 (by omega) rfl hf.h11 hf.h12
  refine ⟨_, ?_, bx', .sh (setD 9 a), .sh (setD 9 b), .sh (.int a), t7, .sh (.int m), .sh (.int z), .sh (setD 9 ins), t11, t12, rfl, v2, ⟨rfl, rfl, rfl, g7, rfl, rfl, rfl, v3, v4⟩⟩
  refine ev_seq' (e1 := [S, K, .ow (.l b1), T, .sh (setD 9 a), a5, a6, a7, a8, a9, a10, a11, a12]) (ev_asg (e1 := [S, K, .ow (.l b1), T, a4, a5, a6, a7, a8, a9, a10, a11, a12]) (ev_mD (ev_callP (as := [.at 2]) rfl rfl (by simp [ixs]) p1 rfl)) (gset_ok rfl hf.h4)) ?_
  refine ev_seq' (e1 := [S, K, .ow (.l b2), T, .sh (setD 9 a), .sh (setD 9 b), a6, a7, a8, a9, a10, a11, a12]) (ev_asg (e1 := [S, K, .ow (.l b2), T, .sh (setD 9 a), a5, a6, a7, a8, a9, a10, a11, a12]) (ev_mD (ev_callP (as := [.at 2, .d (setD 9 a)]) rfl rfl (by simp [ixs]) q1 rfl)) (gset_ok rfl hf.h5)) ?_
  refine ev_seq' (e1 := [S, K, .ow (.l b2), T, .sh (setD 9 a), .sh (setD 9 b), .sh (.int 0), a7, a8, a9, a10, a11, a12]) (ev_asg (e1 := [S, K, .ow (.l b2), T, .sh (setD 9 a), .sh (setD 9 b), a6, a7, a8, a9, a10, a11, a12]) rfl (gset_ok rfl hf.h6)) ?_
  refine ev_seq' n1 ?_
  refine ev_seq' (e1 := [S, K, .ow (.l b2), T, .sh (setD 9 a), .sh (setD 9 b), .sh (.int a), t7, a8, a9, a10, a11, a12]) (ev_if0' (e1 := [S, K, .ow (.l b2), T, .sh (setD 9 a), .sh (setD 9 b), .sh (.int a), t7, a8, a9, a10, a11, a12]) (ev_not (k := true) (ev_tru (ev_mD (ev_call2 (e1 := [S, K, .ow (.l b2), T, .sh (setD 9 a), .sh (setD 9 b), .sh (.int a), t7, a8, a9, a10, a11, a12])
    (ev_mDl (ev_lst (as := [.d (.int a), .d (.int a), .d (setD 9 a), .d (setD 9 a)]) (ev_cons (e1 := [S, K, .ow (.l b2), T, .sh (setD 9 a), .sh (setD 9 b), .sh (.int a), t7, a8, a9, a10, a11, a12]) (ev_aD (ev_mD (ev_call1 rfl mk))) (ev_d3 (e1 := [S, K, .ow (.l b2), T, .sh (setD 9 a), .sh (setD 9 b), .sh (.int a), t7, a8, a9, a10, a11, a12]) (e2 := [S, K, .ow (.l b2), T, .sh (setD 9 a), .sh (setD 9 b), .sh (.int a), t7, a8, a9, a10, a11, a12]) (ev_mD (ev_kw1 rfl mk)) (ev_mD (ev_call1 rfl sb)) (ev_mD (ev_kw1 rfl sb)))) rfl (Nat.le_of_ble_eq_true rfl)))
    (ev_mDl (ev_lst (as := [.d (.int a), .d (.int a), .d (setD 9 a), .d (setD 9 a)]) (ev_cons (ev_aD rfl) (ev_d3 rfl rfl rfl)) rfl (Nat.le_of_ble_eq_true rfl))) ho1)) rfl)) rfl) ?_
  refine ev_seq' (e1 := [S, K, .ow (.l b3), T, .sh (setD 9 a), .sh (setD 9 b), .sh (.int a), t7, .sh (.int m), a9, a10, a11, a12]) (ev_asg (e1 := [S, K, .ow (.l b3), T, .sh (setD 9 a), .sh (setD 9 b), .sh (.int a), t7, a8, a9, a10, a11, a12]) (ev_mD (ev_callP (as := [.at 2, .d (.int 512)]) rfl rfl (by simp [ixs]) r1 rfl)) (gset_ok rfl hf.h8)) ?_
  have bitT : ∀ p < 9, tTru (mD (rBin fAnd (mD (rBin fShr (eVar 8) (eVar 7))) (eC (.int 1)))) [S, K, .ow (.l b3), T, .sh (setD 9 a), .sh (setD 9 b), .sh (.int a), .sh (.int (p : Nat)), .sh (.int m), a9, a10, a11, a12] = .ok (m.testBit p) [S, K, .ow (.l b3), T, .sh (setD 9 a), .sh (setD 9 b), .sh (.int a), .sh (.int (p : Nat)), .sh (.int m), a9, a10, a11, a12] := fun p hp => by
    refine ev_tru (ev_mD (ev_bin (ev_mD (ev_bin rfl rfl (fshr_ (by omega)))) rfl rfl)) ?_
    show dTru (.int (Builtin.bitAnd ((m : Int) / 2 ^ (p : Int).toNat) 1)) = _
    rw [shr_bit]
    cases m.testBit p <;> rfl
  refine ev_seq' (e1 := [S, K, .ow (.l b3), T, .sh (setD 9 a), .sh (setD 9 b), .sh (.int a), t7, .sh (.int m), a9, a10, a11, a12]) (ev_if0' (e1 := [S, K, .ow (.l b3), T, .sh (setD 9 a), .sh (setD 9 b), .sh (.int a), t7, .sh (.int m), a9, a10, a11, a12]) (ev_not (k := true) (ev_tru (ev_mD (ev_call2 (e1 := [S, K, .ow (.l b3), T, .sh (setD 9 a), .sh (setD 9 b), .sh (.int a), t7, .sh (.int m), a9, a10, a11, a12])
    (ev_mDl (ev_lst (as := [.d (setD 9 m), .d (.int m)]) (ev_d2 (e1 := [S, K, .ow (.l b3), T, .sh (setD 9 a), .sh (setD 9 b), .sh (.int a), t7, .sh (.int m), a9, a10, a11, a12]) (ev_mD (ev_call1 rfl sbm)) (ev_mD (ev_call1 (ev_mD (ev_call1 rfl sbm)) mkm))) rfl (Nat.le_of_ble_eq_true rfl)))
    (ev_mDl (ev_lst (as := [.d (setD 9 m), .d (.int m)]) (ev_d2 (e1 := [S, K, .ow (.l b3), T, .sh (setD 9 a), .sh (setD 9 b), .sh (.int a), t7, .sh (.int m), a9, a10, a11, a12]) (ev_mD (ev_fn1 (x := .lst (natsD (elems 9 m))) (ev_mDl ?_) rfl)) rfl) rfl (Nat.le_of_ble_eq_true rfl))) ho2)) rfl)) rfl) ?_
  · exact keep_rng (f := fun p => m.testBit p) n9 rfl rfl g7 bitT fun p _ => rfl
  refine ev_seq' (e1 := [S, K, .ow (.l b3), T, .sh (setD 9 a), .sh (setD 9 b), .sh (.int a), t7, .sh (.int m), a9, a10, a11, a12]) (ev_if0' (e1 := [S, K, .ow (.l b3), T, .sh (setD 9 a), .sh (setD 9 b), .sh (.int a), t7, .sh (.int m), a9, a10, a11, a12]) (ev_not (k := true) (ev_tru (ev_mD (ev_call2 rfl rfl ho3)) rfl)) rfl) ?_
  refine ev_seq' (e1 := [S, K, .ow (.l b4), T, .sh (setD 9 a), .sh (setD 9 b), .sh (.int a), t7, .sh (.int m), .sh (.int z), a10, a11, a12]) (ev_asg (e1 := [S, K, .ow (.l b4), T, .sh (setD 9 a), .sh (setD 9 b), .sh (.int a), t7, .sh (.int m), a9, a10, a11, a12]) (ev_mD (ev_callP (as := [.at 2, .d (.int 10)]) rfl rfl (by simp [ixs]) s1 rfl)) (gset_ok rfl hf.h9)) ?_
  refine ev_seq' (e1 := [S, K, .ow (.l b4), T, .sh (setD 9 a), .sh (setD 9 b), .sh (.int a), t7, .sh (.int m), .sh (.int z), .sh (setD 9 ins), a11, a12]) (ev_asg (e1 := [S, K, .ow (.l b4), T, .sh (setD 9 a), .sh (setD 9 b), .sh (.int a), t7, .sh (.int m), .sh (.int z), a10, a11, a12]) (ev_mD (ev_fn1 (x := .lst (natsD (elems 9 ins))) (ev_mDl ?_) rfl)) (gset_ok rfl hf.h10)) v1
  refine keep_set (m := a) (f := fun p => decide (p < z)) n9 (ev_seqL rfl rfl) rfl g7 (fun p hp => ev_cmp rfl rfl ?_) fun p hp => ?_
  · show some (Ret.sh (.bl (decide ((p : Int) < (z : Int))))) = _
    have e0 : decide ((p : Int) < (z : Int)) = decide (p < z) := by
      by_cases h : p < z
      · rw [decide_eq_true h, decide_eq_true (by omega)]
      · rw [decide_eq_false h, decide_eq_false (by omega)]
    rw [e0]
  · show (a &&& (2 ^ (min z 9) - 1)).testBit p = _
    have e0 : decide (p < min z 9) = decide (p < z) := by
      by_cases h : p < z
      · rw [decide_eq_true h, decide_eq_true (by omega)]
      · rw [decide_eq_false h, decide_eq_false (by omega)]
    rw [Nat.testBit_and, Nat.testBit_two_pow_sub_one, e0]
theorem law_ok : ∀ ns : List Int, ns.length ≤ 63 → ∃ o, s_law [.sh (.lst (ns.map .int))] = .ok (.sh (.bl true)) o := by
  intro ns hl
  let S : Sl := .sh (.lst (intsD ns))
  have hlen : (intsD ns).length = ns.length := by simp [intsD]
  let mn : Int := if (intsD ns).length < (6 : Int) then (intsD ns).length else 6
  let mx : Int := if mn > 2 then mn else 2
  have hmx : 0 ≤ mx ∧ mx ≤ 6 := by
    have h1 : 0 ≤ mn ∧ mn ≤ 6 := by show 0 ≤ (if (intsD ns).length < (6 : Int) then ((intsD ns).length : Int) else 6) ∧ _; show _ ∧ (if (intsD ns).length < (6 : Int) then ((intsD ns).length : Int) else 6) ≤ 6; constructor <;> split <;> omega
    constructor
    · show 0 ≤ (if mn > 2 then mn else 2); split <;> omega
    · show (if mn > 2 then mn else 2) ≤ 6; split <;> omega
  have key := loop_inv0 (g := gSet 1) (b := sSeq (sOwn (rCall s__law_box (aCons (aD (mD (rCall s__law_cell (aCons (aD (eVar 0)) (aCons (aD (eVar 1)) aNil))))) aNil)) 2) (sFor (iRng1M (aCons (aD (eC (.int 4))) aNil)) (gSet 3) turnB)) (e := [S, .no, .no, .no, .no, .no, .no, .no, .no, .no, .no, .no, .no])
    (fun _ e => ∃ a1 a2 a3 a4 a5 a6 a7 a8 a9 a10 a11 a12, e = [S, a1, a2, a3, a4, a5, a6, a7, a8, a9, a10, a11, a12] ∧ a1.own = none ∧ (∀ y, a2 ≠ .io y) ∧ a3.own = none ∧ Fr a4 a5 a6 a7 a8 a9 a10 a11 a12) (rngL 0 mx.toNat)
    ⟨.no, .no, .no, .no, .no, .no, .no, .no, .no, .no, .no, .no, rfl, rfl, (fun _ z => nomatch z), rfl, ⟨rfl, rfl, rfl, rfl, rfl, rfl, rfl, rfl, rfl⟩⟩ (fun i d e hi ⟨a1, a2, a3, a4, a5, a6, a7, a8, a9, a10, a11, a12, he, h1, h2, h3, hf⟩ => by
      subst he
      obtain ⟨k, hk, rfl⟩ := rng_mem (List.mem_of_getElem? hi)
      obtain ⟨g, hg⟩ := cell_ev ns k (by omega) hl
      obtain ⟨bx, hb1, hb2⟩ := box_ev g
      refine ⟨_, gset_ok rfl h1, ?_⟩
      have own2 : sOwn (rCall s__law_box (aCons (aD (mD (rCall s__law_cell (aCons (aD (eVar 0)) (aCons (aD (eVar 1)) aNil))))) aNil)) 2 [S, .sh (.int k), a2, a3, a4, a5, a6, a7, a8, a9, a10, a11, a12] = .ok .nx [S, .sh (.int k), .ow (.l bx), a3, a4, a5, a6, a7, a8, a9, a10, a11, a12] := by
        refine ev_own' (r := .ow (.l bx)) (e1 := [S, .sh (.int k), a2, a3, a4, a5, a6, a7, a8, a9, a10, a11, a12]) (ev_call1 (ev_mD (ev_call2 rfl rfl hg)) hb1) ?_
        cases a2 with
        | io y => exact absurd rfl (h2 y)
        | no => rfl
        | sh _ => rfl
        | ow _ => rfl
      have inner := loop_inv0 (g := gSet 3) (b := turnB) (e := [S, .sh (.int k), .ow (.l bx), a3, a4, a5, a6, a7, a8, a9, a10, a11, a12])
        (fun t e => ∃ T : Sl, T.own = none ∧ Sta S (.sh (.int k)) T (24 * t) e) (rngL 0 4) ⟨a3, h3, bx, a4, a5, a6, a7, a8, a9, a10, a11, a12, rfl, hb2, hf⟩ (fun t d e ht ⟨T, hT, hS⟩ => by
          have ht4 : t < 4 := by have := (List.getElem?_eq_some_iff.mp ht).1; rwa [rngL_len] at this
          obtain ⟨bx, a4, a5, a6, a7, a8, a9, a10, a11, a12, rfl, hb, hf⟩ := hS
          obtain ⟨e', u1, u2⟩ := turn_ev (S := S) (K := .sh (.int k)) (T := .sh d) (c := 24 * t) (e := [S, .sh (.int k), .ow (.l bx), .sh d, a4, a5, a6, a7, a8, a9, a10, a11, a12]) ⟨bx, a4, a5, a6, a7, a8, a9, a10, a11, a12, rfl, hb, hf⟩ (by omega)
          exact ⟨_, gset_ok rfl hT, .nx, e', u1, .inl rfl, .sh d, rfl, by rw [show 24 * (t + 1) = 24 * t + 24 by omega]; exact u2⟩)
      obtain ⟨e', w1, T, hT, bx2, a4', a5', a6', a7', a8', a9', a10', a11', a12', rfl, hb3, hf'⟩ := inner
      refine ⟨.nx, [S, .sh (.int k), .ow (.l bx2), T, a4', a5', a6', a7', a8', a9', a10', a11', a12'], ev_seq' own2 (ev_for' (ds := rngL 0 4) (e1 := [S, .sh (.int k), .ow (.l bx), a3, a4, a5, a6, a7, a8, a9, a10, a11, a12]) rfl w1), .inl rfl, .sh (.int k), .ow (.l bx2), T, a4', a5', a6', a7', a8', a9', a10', a11', a12', rfl, rfl, (fun _ z => nomatch z), hT, hf'⟩)
  obtain ⟨e', q1, a1, a2, a3, a4, a5, a6, a7, a8, a9, a10, a11, a12, rfl, _⟩ := key
  refine ⟨[S], ev_fun (e' := [S, a1, a2, a3, a4, a5, a6, a7, a8, a9, a10, a11, a12]) rfl ?_⟩
  refine ev_seq' (e1 := [S, a1, a2, a3, a4, a5, a6, a7, a8, a9, a10, a11, a12]) (ev_for' (ds := rngL 0 mx.toNat) (e1 := [S, .no, .no, .no, .no, .no, .no, .no, .no, .no, .no, .no, .no]) (ev_rng1 (j := mx) (ev_vals (ev_d1 (ev_mD (ev_fn (as := [.d (.int 2), .d (.int mn)]) (ev_d2 rfl (ev_mD (ev_fn (as := [.d (.int 6), .d (.int (intsD ns).length)]) (ev_d2 rfl (ev_mD (ev_fn1 (x := .lst (intsD ns)) rfl rfl))) rfl rfl))) rfl rfl))) rfl) (by unfold small62; rw [decide_eq_true (by omega), decide_eq_true (by omega)]; rfl)) q1) ?_
  rfl
end G
end

section
namespace G
open DL PySem PySem.Spec L2
open PyProof.Rows hiding St
set_option maxHeartbeats 0

def fnL : List He.DefD := [dd "is_integer" (topS 1), dd "is_between" (topS 2), dd "is_rising" (topS 3), dd "is_subset" (topS 5), dd "mask_of" (topS 6), dd "points_in" (topS 8), dd "subset_of" (topS 7), dd "joined" (topS 9), dd "shared" (topS 10), dd "minus" (topS 11), dd "_law_cell" (topS 13), dd "_law_box" (topS 14), dd "_law_take" (topS 15), dd "_law_same" (topS 16), dd "_law_odd" (topS 17), dd "_law_is_int" (topS 18), dd "_law_is_set" (topS 19), dd "_law_drawn_set" (topS 20), dd "_law_partner" (topS 21), dd "_law_near" (topS 22), dd "_law_pair_right" (topS 23), dd "law" (topS 24)]
def faL : List He.Fa := [.glo "is_integer", .glo "is_between", .glo "is_rising", .glo "is_subset", .glo "mask_of", .glo "points_in", .glo "subset_of", .glo "joined", .glo "shared", .glo "minus", .glo "_law_cell", .glo "_law_box", .glo "_law_take", .glo "_law_same", .glo "_law_odd", .glo "_law_is_int", .glo "_law_is_set", .glo "_law_drawn_set", .glo "_law_partner", .glo "_law_near", .glo "_law_pair_right", .glo "law"]
def looseL : List PySem.Str := (["is_integer", "is_between", "is_rising", "is_subset", "mask_of", "subset_of", "points_in", "joined", "shared", "minus", "_law_cell", "_law_box", "_law_take", "_law_same", "_law_odd", "_law_is_int", "_law_is_set", "_law_drawn_set", "_law_partner", "_law_near", "_law_pair_right"] : List PySem.Str)
abbrev rowL : PySem.W.OpenRow := PySem.W.OpenLaw.row PySem.Challenge.rw_orderbench_k00_sets_and_masks
abbrev hookL : PySem.W.Hook := He.hookD 4 (bnames.map He.Fa.free ++ faL) fnL
def obL (s : PySem.W.SharedT) : He.AlD := He.obsDG 4 (bnames.map He.Fa.free ++ faL) fnL (HandSHeadRun.getT s)
theorem obL_eq (s : PySem.W.SharedT) : obL s = hookL.obs s.abs := He.obsDG_eq (HandSHeadRun.getT_eq s)
theorem runL (w : World) : HandSHeadRun.RunEq rowL (PySem.W.view rowL.prog [24]) hookL obL 4000 looseL w := by
  intro os
  kernel_rfl
theorem tab_of {K : PySem.W.Frag} {h : Heap} {mg : MG} (X : K.In h) (N : h.Ns mainGlobals mg) (c : He.SaysD (bnames.map He.Fa.free ++ faL) fnL K) : Tab K mg where
  bs := bs_of X N c
  f_is_integer := fd_of X N c 0 rfl (List.mem_append_right _ (List.mem_of_getElem? (l := faL) (i := 0) rfl))
  f_is_between := fd_of X N c 1 rfl (List.mem_append_right _ (List.mem_of_getElem? (l := faL) (i := 1) rfl))
  f_is_rising := fd_of X N c 2 rfl (List.mem_append_right _ (List.mem_of_getElem? (l := faL) (i := 2) rfl))
  f_is_subset := fd_of X N c 3 rfl (List.mem_append_right _ (List.mem_of_getElem? (l := faL) (i := 3) rfl))
  f_mask_of := fd_of X N c 4 rfl (List.mem_append_right _ (List.mem_of_getElem? (l := faL) (i := 4) rfl))
  f_points_in := fd_of X N c 5 rfl (List.mem_append_right _ (List.mem_of_getElem? (l := faL) (i := 5) rfl))
  f_subset_of := fd_of X N c 6 rfl (List.mem_append_right _ (List.mem_of_getElem? (l := faL) (i := 6) rfl))
  f_joined := fd_of X N c 7 rfl (List.mem_append_right _ (List.mem_of_getElem? (l := faL) (i := 7) rfl))
  f_shared := fd_of X N c 8 rfl (List.mem_append_right _ (List.mem_of_getElem? (l := faL) (i := 8) rfl))
  f_minus := fd_of X N c 9 rfl (List.mem_append_right _ (List.mem_of_getElem? (l := faL) (i := 9) rfl))
  f__law_cell := fd_of X N c 10 rfl (List.mem_append_right _ (List.mem_of_getElem? (l := faL) (i := 10) rfl))
  f__law_box := fd_of X N c 11 rfl (List.mem_append_right _ (List.mem_of_getElem? (l := faL) (i := 11) rfl))
  f__law_take := fd_of X N c 12 rfl (List.mem_append_right _ (List.mem_of_getElem? (l := faL) (i := 12) rfl))
  f__law_same := fd_of X N c 13 rfl (List.mem_append_right _ (List.mem_of_getElem? (l := faL) (i := 13) rfl))
  f__law_odd := fd_of X N c 14 rfl (List.mem_append_right _ (List.mem_of_getElem? (l := faL) (i := 14) rfl))
  f__law_is_int := fd_of X N c 15 rfl (List.mem_append_right _ (List.mem_of_getElem? (l := faL) (i := 15) rfl))
  f__law_is_set := fd_of X N c 16 rfl (List.mem_append_right _ (List.mem_of_getElem? (l := faL) (i := 16) rfl))
  f__law_drawn_set := fd_of X N c 17 rfl (List.mem_append_right _ (List.mem_of_getElem? (l := faL) (i := 17) rfl))
  f__law_partner := fd_of X N c 18 rfl (List.mem_append_right _ (List.mem_of_getElem? (l := faL) (i := 18) rfl))
  f__law_near := fd_of X N c 19 rfl (List.mem_append_right _ (List.mem_of_getElem? (l := faL) (i := 19) rfl))
  f__law_pair_right := fd_of X N c 20 rfl (List.mem_append_right _ (List.mem_of_getElem? (l := faL) (i := 20) rfl))
  f_law := fd_of X N c 21 rfl (List.mem_append_right _ (List.mem_of_getElem? (l := faL) (i := 21) rfl))
theorem walkL : ∀ (w : World) (mg : MG) (h : Heap), hookL.says w h → h.Ns mainGlobals mg → ∃ K : PySem.W.Frag, K.In h ∧ ∀ base : Heap, DF (PySem.Challenge.rw_orderbench_k00_sets_and_masks).prog w K mg base 15 "law" (topS 24) ["script"] s_law := by
  intro w mg h Y N
  obtain ⟨K, KX, c⟩ := Y
  exact ⟨K, KX, fun base => df_law (tab_of KX N c)⟩
end G
open PySem PySem.W PySem.Calls PyProof.Rows
set_option maxHeartbeats 0
theorem PySem.Challenge.cw_orderbench_k00_sets_and_masks_holds : PySem.Challenge.rw_orderbench_k00_sets_and_masks.Holds := by
  w_on; o_law
  refine HandSHeadRun.head_any (r := OpenLaw.row PySem.Challenge.rw_orderbench_k00_sets_and_masks) (q := view (OpenLaw.row PySem.Challenge.rw_orderbench_k00_sets_and_masks).prog [24]) (H := G.hookL) (ob := G.obL) (M := 4000) (loose := G.looseL) (d := HandSHeadRun.topDef (OpenLaw.row PySem.Challenge.rw_orderbench_k00_sets_and_masks).prog 24) (kwd := []) G.obL_eq
    (by kernel_rfl) (fun s => by kernel_rfl) G.runL (by kernel_rfl) (by kernel_rfl) (by kernel_rfl) (by rfl) (by first | assumption | decide +kernel) (by decide +kernel) ⟨rfl, rfl, rfl, rfl, rfl, by decide +kernel⟩ ?hw ?hc
  case hw => w_witness2
  case hc => exact DL.walk_D (l := PySem.Challenge.rw_orderbench_k00_sets_and_masks) (n := 63) (k := 15) (x := "script") (nm := "law") (st := G.topS 24) (sem := G.s_law) rfl (by decide) (by kernel_rfl) ⟨rfl, by decide, by decide⟩ (by kernel_rfl) (fun _ _ _ _ _ _ us h => match us, h with | [_], _ => rfl) G.walkL G.law_ok
end
