import PyProof.Rows.All
import Wide.All
import OpenK.AllK
import Wide.FinOn
import KE.KStateDown
import HandS.ForMost
import HandS.Exc
import HandS.ExcOwn
import HandS.CallSlots
import HandS.WordsExc
import HandS.Defaults
import HandS.IsInst
import HandS.Wide
import HandS.HeadHook2
import HandS.EndBits
import HandS.TupAny
import HandS.SortInts
import HandS.RaiseMore
import HandS.Strs
import PyProof.Rows.IntBool
import KE.GoesMore
import KE.GoesEnum
import HandS.Small
import HandS.Text
import HandS.StrMore
import HandS.Style
import HandS.TupLe
import HandS.ExcInit
import HandS.ExcField
import HandS.ExcIs
import KE.KIsAll
import HandS.DeepEq
import HandS.MakeKwOnly
import HandS.Head0
import HandS.Head1
import HandS.Head2
import HandS.HeadEnd
import HandS.HeadHook1
import PySem.Challenge.RW_feedreader_k01_error_classes
set_option Elab.async false
set_option linter.all false
set_option maxRecDepth 100000
set_option maxHeartbeats 2000000
namespace Qv
open PySem PySem.Spec PyProof.Rows L2

/-! ### values as trees; the mark o: owned (a place may change it) -/
inductive Val where
  | non
  | bl (b : Bool)
  | int (i : Int)
  | str (x : Str)
  | ty (n : String)
  | atm (a : Addr)
  | tup (xs : List Val)
  | lst (o : Bool) (xs : List Val)
  | dic (o : Bool) (ks : List Key) (xs : List Val)
  | obj (o : Bool) (C : Str) (ns : List Str) (xs : List Val)
  | exc (C : Str) (ns : List Str) (xs : List Val)
  | glo (x : Str)
  deriving Inhabited

/-- at a: an exception of the class C, its dict at d -/
def exv (C d a : Addr) : HO := .ext fun h => ∃ (oe : Obj) (vs : Array Value), h.get? a = some oe ∧ oe.cls = .ref C ∧ oe.dict = some d ∧ oe.data = .fields vs

section
variable (K : PySem.W.Frag) (Fz : Addr → Prop) (H : Hp)
def FT (a : Addr) (vs : List V) : Prop := (Fz a ∧ Rd H a (.tup vs)) ∨ ∀ H, SqT K H a vs
def FL (a : Addr) (vs : List V) : Prop := (Fz a ∧ Rd H a (.lst vs)) ∨ ∀ H, SqL K H a vs
mutual
/-- frozen: v is what V stands for, all of it at addresses that change no more -/
def Fzn : Val → V → Prop
  | .non, V => V = .non
  | .bl b, V => V = .bl b
  | .int i, V => V = .int i
  | .str x, V => V = .str x
  | .ty n, V => V = .ty n
  | .atm a, V => V = .ref a
  | .tup xs, V => ∃ a vs, V = .ref a ∧ FT K Fz H a vs ∧ FznL xs vs
  | .lst o xs, V => o = false ∧ ∃ a vs, V = .ref a ∧ FL K Fz H a vs ∧ FznL xs vs
  | .dic o ks xs, V => o = false ∧ ∃ a vs, V = .ref a ∧ Fz a ∧ H a = some (.dK (ks.zip vs)) ∧ ks.length = vs.length ∧ FznL xs vs
  | .obj o C ns xs, V => o = false ∧ ∃ a dx vs, V = .ref a ∧ Fz a ∧ H a = some (.ins (He.ga K C) dx (ns.zip vs)) ∧ ns.length = vs.length ∧ FznL xs vs
  | .exc C ns xs, V => ∃ a d vs, V = .ref a ∧ Fz a ∧ H a = some (exv (He.ga K C) d a) ∧ Fz d ∧ H d = some (.xd (ns.zip vs)) ∧ ns.length = vs.length ∧ FznL xs vs
  | .glo x, V => V = .ref (He.ga K x)
def FznL : List Val → List V → Prop
  | [], vs => vs = []
  | x :: xs, vs => ∃ v r, vs = v :: r ∧ Fzn x v ∧ FznL xs r
end
mutual
/-- a slot's value: its owned addresses f -/
def Ow : Val → V → List Addr → Prop
  | .lst true xs, V, f => ∃ a vs, V = .ref a ∧ f = [a] ∧ H a = some (.lst vs) ∧ FznL K Fz H xs vs
  | .dic true ks xs, V, f => ∃ a vs, V = .ref a ∧ f = [a] ∧ H a = some (.dK (ks.zip vs)) ∧ ks.length = vs.length ∧ FznL K Fz H xs vs
  | .obj true C ns xs, V, f => ∃ a dx vs g, V = .ref a ∧ f = a :: g ∧ H a = some (.ins (He.ga K C) dx (ns.zip vs)) ∧ ns.length = vs.length ∧ OwL xs vs g
  | .non, V, f => f = [] ∧ Fzn K Fz H .non V
  | .bl b, V, f => f = [] ∧ Fzn K Fz H (.bl b) V
  | .int i, V, f => f = [] ∧ Fzn K Fz H (.int i) V
  | .str x, V, f => f = [] ∧ Fzn K Fz H (.str x) V
  | .ty n, V, f => f = [] ∧ Fzn K Fz H (.ty n) V
  | .atm a, V, f => f = [] ∧ Fzn K Fz H (.atm a) V
  | .tup xs, V, f => f = [] ∧ Fzn K Fz H (.tup xs) V
  | .lst false xs, V, f => f = [] ∧ Fzn K Fz H (.lst false xs) V
  | .dic false ks xs, V, f => f = [] ∧ Fzn K Fz H (.dic false ks xs) V
  | .obj false C ns xs, V, f => f = [] ∧ Fzn K Fz H (.obj false C ns xs) V
  | .exc C ns xs, V, f => f = [] ∧ Fzn K Fz H (.exc C ns xs) V
  | .glo x, V, f => f = [] ∧ Fzn K Fz H (.glo x) V
def OwL : List Val → List V → List Addr → Prop
  | [], vs, f => vs = [] ∧ f = []
  | x :: xs, vs, f => ∃ v r f1 f2, vs = v :: r ∧ f = f1 ++ f2 ∧ Ow x v f1 ∧ OwL xs r f2
end
end
mutual
def freeze : Val → Val
  | .lst _ xs => .lst false xs
  | .dic _ ks xs => .dic false ks xs
  | .obj _ C ns xs => .obj false C ns (freezeL xs)
  | .non => .non
  | .bl b => .bl b
  | .int i => .int i
  | .str x => .str x
  | .ty n => .ty n
  | .atm a => .atm a
  | .tup xs => .tup xs
  | .exc C ns xs => .exc C ns xs
  | .glo x => .glo x
def freezeL : List Val → List Val
  | [] => []
  | x :: xs => freeze x :: freezeL xs
end
def Val.owned : Val → Bool
  | .lst o _ => o
  | .dic o _ _ => o
  | .obj o _ _ _ => o
  | _ => false
section
variable {K : PySem.W.Frag} {Fz Fz' : Addr → Prop} {H H' : Hp}
theorem FT.st {a : Addr} {vs : List V} (h : FT K Fz H a vs) (m : ∀ a, Fz a → Fz' a) (s : ∀ a, Fz a → H' a = H a) : FT K Fz' H' a vs := by
  rcases h with ⟨z, r⟩ | h
  · refine .inl ⟨m a z, ?_⟩
    unfold Rd
    rw [s a z]
    exact r
  · exact .inr h
theorem FL.st {a : Addr} {vs : List V} (h : FL K Fz H a vs) (m : ∀ a, Fz a → Fz' a) (s : ∀ a, Fz a → H' a = H a) : FL K Fz' H' a vs := by
  rcases h with ⟨z, r⟩ | h
  · refine .inl ⟨m a z, ?_⟩
    unfold Rd
    rw [s a z]
    exact r
  · exact .inr h
theorem FT.sq {a : Addr} {vs : List V} (h : FT K Fz H a vs) : SqT K H a vs := by
  rcases h with ⟨_, r⟩ | h
  · exact .inl r
  · exact h H
theorem FL.sq {a : Addr} {vs : List V} (h : FL K Fz H a vs) : SqL K H a vs := by
  rcases h with ⟨_, r⟩ | h
  · exact .inl r
  · exact h H
mutual
theorem Fzn.st (m : ∀ a, Fz a → Fz' a) (s : ∀ a, Fz a → H' a = H a) : ∀ (v : Val) (V : V), Fzn K Fz H v V → Fzn K Fz' H' v V
  | .non, _, h => h
  | .bl _, _, h => h
  | .int _, _, h => h
  | .str _, _, h => h
  | .ty _, _, h => h
  | .atm _, _, h => h
  | .tup xs, V, h => by
    obtain ⟨a, vs, e, t, l⟩ := h
    exact ⟨a, vs, e, t.st m s, FznL.st m s xs vs l⟩
  | .lst o xs, V, h => by
    obtain ⟨eo, a, vs, e, t, l⟩ := h
    exact ⟨eo, a, vs, e, t.st m s, FznL.st m s xs vs l⟩
  | .dic o ks xs, V, h => by
    obtain ⟨eo, a, vs, e, z, r, n, l⟩ := h
    exact ⟨eo, a, vs, e, m a z, by rw [s a z]; exact r, n, FznL.st m s xs vs l⟩
  | .obj o C ns xs, V, h => by
    obtain ⟨eo, a, dx, vs, e, z, r, n, l⟩ := h
    exact ⟨eo, a, dx, vs, e, m a z, by rw [s a z]; exact r, n, FznL.st m s xs vs l⟩
  | .exc C ns xs, V, h => by
    obtain ⟨a, d, vs, e, z, r, zd, rd, n, l⟩ := h
    exact ⟨a, d, vs, e, m a z, by rw [s a z]; exact r, m d zd, by rw [s d zd]; exact rd, n, FznL.st m s xs vs l⟩
  | .glo _, _, h => h
theorem FznL.st (m : ∀ a, Fz a → Fz' a) (s : ∀ a, Fz a → H' a = H a) : ∀ (xs : List Val) (vs : List V), FznL K Fz H xs vs → FznL K Fz' H' xs vs
  | [], _, h => h
  | x :: xs, _, h => by
    obtain ⟨v, r, e, h1, h2⟩ := h
    exact ⟨v, r, e, Fzn.st m s x v h1, FznL.st m s xs r h2⟩
end
theorem FznL.len : ∀ {xs : List Val} {vs : List V}, FznL K Fz H xs vs → vs.length = xs.length
  | [], _, h => by cases h; rfl
  | _ :: _, _, h => by
    obtain ⟨v, r, e, _, h2⟩ := h
    subst e
    rw [List.length_cons, List.length_cons, FznL.len h2]
/-- frozen, as an owned value of no addresses -/
theorem Fzn.ow : ∀ {v : Val} {V : V}, Fzn K Fz H v V → Ow K Fz H v V []
  | .non, _, h => ⟨rfl, h⟩
  | .bl _, _, h => ⟨rfl, h⟩
  | .int _, _, h => ⟨rfl, h⟩
  | .str _, _, h => ⟨rfl, h⟩
  | .ty _, _, h => ⟨rfl, h⟩
  | .atm _, _, h => ⟨rfl, h⟩
  | .tup _, _, h => ⟨rfl, h⟩
  | .lst true _, _, h => by cases h.1
  | .lst false _, _, h => ⟨rfl, h⟩
  | .dic true _ _, _, h => by cases h.1
  | .dic false _ _, _, h => ⟨rfl, h⟩
  | .obj true _ _ _, _, h => by cases h.1
  | .obj false _ _ _, _, h => ⟨rfl, h⟩
  | .exc _ _ _, _, h => ⟨rfl, h⟩
  | .glo _, _, h => ⟨rfl, h⟩
/-- what is not owned is frozen -/
theorem Ow.fzn : ∀ {v : Val} {V : V} {f : List Addr}, Ow K Fz H v V f → v.owned = false → f = [] ∧ Fzn K Fz H v V
  | .non, _, _, h, _ => h
  | .bl _, _, _, h, _ => h
  | .int _, _, _, h, _ => h
  | .str _, _, _, h, _ => h
  | .ty _, _, _, h, _ => h
  | .atm _, _, _, h, _ => h
  | .tup _, _, _, h, _ => h
  | .lst true _, _, _, _, e => by cases e
  | .lst false _, _, _, h, _ => h
  | .dic true _ _, _, _, _, e => by cases e
  | .dic false _ _, _, _, h, _ => h
  | .obj true _ _ _, _, _, _, e => by cases e
  | .obj false _ _ _, _, _, h, _ => h
  | .exc _ _ _, _, _, h, _ => h
  | .glo _, _, _, h, _ => h
mutual
theorem Ow.st (m : ∀ a, Fz a → Fz' a) (s : ∀ a, Fz a → H' a = H a) : ∀ (v : Val) (V : V) (f : List Addr), (∀ a ∈ f, H' a = H a) → Ow K Fz H v V f → Ow K Fz' H' v V f
  | .lst true xs, V, f, sf, h => by
    obtain ⟨a, vs, e, ef, ha, l⟩ := h
    subst ef
    exact ⟨a, vs, e, rfl, by rw [sf a (by simp)]; exact ha, FznL.st m s _ _ l⟩
  | .dic true ks xs, V, f, sf, h => by
    obtain ⟨a, vs, e, ef, ha, n, l⟩ := h
    subst ef
    exact ⟨a, vs, e, rfl, by rw [sf a (by simp)]; exact ha, n, FznL.st m s _ _ l⟩
  | .obj true C ns xs, V, f, sf, h => by
    obtain ⟨a, dx, vs, g, e, ef, ha, n, l⟩ := h
    subst ef
    exact ⟨a, dx, vs, g, e, rfl, by rw [sf a (by simp)]; exact ha, n, OwL.st m s xs vs g (fun b hb => sf b (List.mem_cons_of_mem _ hb)) l⟩
  | .non, _, _, _, h => ⟨h.1, Fzn.st m s _ _ h.2⟩
  | .bl _, _, _, _, h => ⟨h.1, Fzn.st m s _ _ h.2⟩
  | .int _, _, _, _, h => ⟨h.1, Fzn.st m s _ _ h.2⟩
  | .str _, _, _, _, h => ⟨h.1, Fzn.st m s _ _ h.2⟩
  | .ty _, _, _, _, h => ⟨h.1, Fzn.st m s _ _ h.2⟩
  | .atm _, _, _, _, h => ⟨h.1, Fzn.st m s _ _ h.2⟩
  | .tup _, _, _, _, h => ⟨h.1, Fzn.st m s _ _ h.2⟩
  | .lst false _, _, _, _, h => ⟨h.1, Fzn.st m s _ _ h.2⟩
  | .dic false _ _, _, _, _, h => ⟨h.1, Fzn.st m s _ _ h.2⟩
  | .obj false _ _ _, _, _, _, h => ⟨h.1, Fzn.st m s _ _ h.2⟩
  | .exc _ _ _, _, _, _, h => ⟨h.1, Fzn.st m s _ _ h.2⟩
  | .glo _, _, _, _, h => ⟨h.1, Fzn.st m s _ _ h.2⟩
theorem OwL.st (m : ∀ a, Fz a → Fz' a) (s : ∀ a, Fz a → H' a = H a) : ∀ (xs : List Val) (vs : List V) (f : List Addr), (∀ a ∈ f, H' a = H a) → OwL K Fz H xs vs f → OwL K Fz' H' xs vs f
  | [], _, _, _, h => h
  | x :: xs, _, _, sf, h => by
    obtain ⟨v, r, f1, f2, e, ef, h1, h2⟩ := h
    subst ef
    exact ⟨v, r, f1, f2, e, rfl, Ow.st m s x v f1 (fun b hb => sf b (List.mem_append_left _ hb)) h1, OwL.st m s xs r f2 (fun b hb => sf b (List.mem_append_right _ hb)) h2⟩
end
mutual
/-- all of it frozen -/
theorem Ow.frz (m : ∀ a, Fz a → Fz' a) : ∀ (v : Val) (V : V) (f : List Addr), (∀ a ∈ f, Fz' a) → Ow K Fz H v V f → Fzn K Fz' H (freeze v) V
  | .lst true xs, V, f, sf, h => by
    obtain ⟨a, vs, e, ef, ha, l⟩ := h
    subst ef
    exact ⟨rfl, a, vs, e, .inl ⟨sf a (by simp), .inl ha⟩, FznL.st m (fun _ _ => rfl) _ _ l⟩
  | .dic true ks xs, V, f, sf, h => by
    obtain ⟨a, vs, e, ef, ha, n, l⟩ := h
    subst ef
    exact ⟨rfl, a, vs, e, sf a (by simp), ha, n, FznL.st m (fun _ _ => rfl) _ _ l⟩
  | .obj true C ns xs, V, f, sf, h => by
    obtain ⟨a, dx, vs, g, e, ef, ha, n, l⟩ := h
    subst ef
    exact ⟨rfl, a, dx, vs, e, sf a (by simp), ha, n, OwL.frz m xs vs g (fun b hb => sf b (List.mem_cons_of_mem _ hb)) l⟩
  | .non, _, _, _, h => Fzn.st m (fun _ _ => rfl) _ _ h.2
  | .bl _, _, _, _, h => Fzn.st m (fun _ _ => rfl) _ _ h.2
  | .int _, _, _, _, h => Fzn.st m (fun _ _ => rfl) _ _ h.2
  | .str _, _, _, _, h => Fzn.st m (fun _ _ => rfl) _ _ h.2
  | .ty _, _, _, _, h => Fzn.st m (fun _ _ => rfl) _ _ h.2
  | .atm _, _, _, _, h => Fzn.st m (fun _ _ => rfl) _ _ h.2
  | .tup _, _, _, _, h => Fzn.st m (fun _ _ => rfl) _ _ h.2
  | .lst false _, _, _, _, h => Fzn.st m (fun _ _ => rfl) _ _ h.2
  | .dic false _ _, _, _, _, h => Fzn.st m (fun _ _ => rfl) _ _ h.2
  | .obj false C ns xs, V, f, _, h => by
    obtain ⟨ef, eo, a, dx, vs, e, z, ha, n, l⟩ := h
    exact ⟨rfl, a, dx, vs, e, m a z, ha, n, FznL.frz m xs vs l⟩
  | .exc _ _ _, _, _, _, h => Fzn.st m (fun _ _ => rfl) _ _ h.2
  | .glo _, _, _, _, h => Fzn.st m (fun _ _ => rfl) _ _ h.2
theorem OwL.frz (m : ∀ a, Fz a → Fz' a) : ∀ (xs : List Val) (vs : List V) (f : List Addr), (∀ a ∈ f, Fz' a) → OwL K Fz H xs vs f → FznL K Fz' H (freezeL xs) vs
  | [], _, _, _, h => h.1
  | x :: xs, _, _, sf, h => by
    obtain ⟨v, r, f1, f2, e, ef, h1, h2⟩ := h
    subst ef
    exact ⟨v, r, e, Ow.frz m x v f1 (fun b hb => sf b (List.mem_append_left _ hb)) h1, OwL.frz m xs r f2 (fun b hb => sf b (List.mem_append_right _ hb)) h2⟩
theorem FznL.frz (m : ∀ a, Fz a → Fz' a) : ∀ (xs : List Val) (vs : List V), FznL K Fz H xs vs → FznL K Fz' H (freezeL xs) vs
  | [], _, h => h
  | x :: xs, _, h => by
    obtain ⟨v, r, e, h1, h2⟩ := h
    exact ⟨v, r, e, Ow.frz m x v [] (fun _ hb => by cases hb) h1.ow, FznL.frz m xs r h2⟩
end
end
end Qv
set_option Elab.async false
set_option linter.all false
set_option maxRecDepth 100000
set_option maxHeartbeats 2000000
namespace Qv
open PySem PySem.Spec L2

abbrev Env := List (Option Val)
inductive Res where
  | val (v : Val)
  | pl (i : Nat)
  deriving Inhabited
/-- an exception of an own class with its fields -/
structure Exc where
  cls : Str
  ns : List Str
  xs : List Val
abbrev PX := Exc → Env → Prop
abbrev PEx := PX → Env → (Res → Env → Prop) → Prop
abbrev PTe := PX → Env → (Bool → Env → Prop) → Prop
abbrev PAr := PX → Env → (List Res → Env → Prop) → Prop
structure PEnd where
  nx : Env → Prop
  rt : Val → Env → Prop
  bk : Env → Prop := fun _ => False
  ct : Env → Prop := fun _ => False
abbrev PSt := PX → PEnd → Env → Prop

section
variable (K : PySem.W.Frag)
/-- temporary addresses -/
structure Tm (Fz O : Addr → Prop) (H : Hp) (fp : Nat → List Addr) (ft : List Addr) : Prop where
  nd : ft.Nodup
  nf : ∀ a ∈ ft, ¬ Fz a ∧ ¬ O a ∧ H a ≠ none
  ds : ∀ a ∈ ft, ∀ i, a ∉ fp i
/-- the frame: env is what the slots stand for -/
structure Fm (Fz O : Addr → Prop) (H : Hp) (env : Env) (σ : L2.St) (fp : Nat → List Addr) : Prop where
  len : env.length = σ.length
  sl : ∀ i v, env[i]? = some (some v) → ∃ V, σ[i]? = some (some V) ∧ Ow K Fz H v V (fp i)
  dj : ∀ i j a, a ∈ fp i → a ∈ fp j → i = j
  nd : ∀ i, (fp i).Nodup
  nf : ∀ i a, a ∈ fp i → ¬ Fz a ∧ ¬ O a ∧ H a ≠ none
  fz : ∀ a, Fz a → ¬ O a ∧ H a ≠ none
  oo : ∀ a, O a → H a ≠ none
structure Stp (Fz : Addr → Prop) (H : Hp) (O Fz' : Addr → Prop) (H' : Hp) : Prop where
  mono : ∀ a, Fz a → Fz' a
  same : ∀ a, Fz a ∨ O a → H' a = H a
def Pin (pn : List Nat) (pv : Nat → V) (σ : L2.St) : Prop := ∀ i ∈ pn, σ[i]? = some (some (pv i))
/-- the owned objects of the slots are kept -/
def Kp (Fz' : Addr → Prop) (fp fp' : Nat → List Addr) (H H' : Hp) : Prop := ∀ i a, a ∈ fp i → H' a = H a ∧ (a ∈ fp' i ∨ Fz' a)
def RR (Fz : Addr → Prop) (H : Hp) (σ : L2.St) : Res → V → List Addr → Prop
  | .val v, V, f => Ow K Fz H v V f
  | .pl i, V, f => f = [] ∧ σ[i]? = some (some V)
def RRs (Fz : Addr → Prop) (H : Hp) (σ : L2.St) : List Res → List V → List Addr → Prop
  | [], Vs, f => Vs = [] ∧ f = []
  | r :: rs, Vs, f => ∃ V Ws f1 f2, Vs = V :: Ws ∧ f = f1 ++ f2 ∧ RR K Fz H σ r V f1 ∧ RRs Fz H σ rs Ws f2
def ExcR (Fz : Addr → Prop) (H : Hp) (e : Exc) (cls : Value) (d : Option Addr) : Prop :=
  cls = .ref (He.ga K e.cls) ∧ ∃ a vs, d = some a ∧ Fz a ∧ H a = some (.xd (e.ns.zip vs)) ∧ e.ns.length = vs.length ∧ FznL K Fz H e.xs vs
def ExH (W : WX) (Wp : PX) (pn : List Nat) (pv : Nat → V) (O Fz : Addr → Prop) (H : Hp) : Prop :=
  ∀ exc env' cls d σ' H' Fz' fp', Stp Fz H O Fz' H' → Fm K Fz' O H' env' σ' fp' → Pin pn pv σ' → ExcR K Fz' H' exc cls d → Wp exc env' → W cls d σ' H'
def rd (env : Env) : Res → Option Val
  | .val v => some v
  | .pl i => match env[i]? with
    | some (some v) => some v
    | _ => none
def SimE (W : WX) (pn : List Nat) (fl : Bool) (t : TE) (p : PEx) : Prop :=
  ∀ (Wp : PX) (env : Env) (σ : L2.St) (H : Hp) (Fz O : Addr → Prop) (fp : Nat → List Addr) (pv : Nat → V) (Q : Res → Env → Prop) (Q' : VK),
    Fm K Fz O H env σ fp → Pin pn pv σ → p Wp env Q → ExH K W Wp pn pv O Fz H →
    (∀ r env' V H' Fz' fp' ft, Stp Fz H O Fz' H' → (fl = true → Kp Fz' fp fp' H H') → Fm K Fz' O H' env' σ fp' → RR K Fz' H' σ r V ft → Tm Fz' O H' fp' ft → Q r env' → Q' V H') →
    t σ H Q'
def SimT (W : WX) (pn : List Nat) (fl : Bool) (t : TT) (p : PTe) : Prop :=
  ∀ (Wp : PX) (env : Env) (σ : L2.St) (H : Hp) (Fz O : Addr → Prop) (fp : Nat → List Addr) (pv : Nat → V) (Q : Bool → Env → Prop) (Q' : Bool → Hp → Prop),
    Fm K Fz O H env σ fp → Pin pn pv σ → p Wp env Q → ExH K W Wp pn pv O Fz H →
    (∀ b env' H' Fz' fp', Stp Fz H O Fz' H' → (fl = true → Kp Fz' fp fp' H H') → Fm K Fz' O H' env' σ fp' → Q b env' → Q' b H') →
    t σ H Q'
def SimA (W : WX) (pn : List Nat) (fl : Bool) (t : TA) (p : PAr) : Prop :=
  ∀ (Wp : PX) (env : Env) (σ : L2.St) (H : Hp) (Fz O : Addr → Prop) (fp : Nat → List Addr) (pv : Nat → V) (Q : List Res → Env → Prop) (Q' : List V → Hp → Prop),
    Fm K Fz O H env σ fp → Pin pn pv σ → p Wp env Q → ExH K W Wp pn pv O Fz H →
    (∀ rs env' Vs H' Fz' fp' ft, Stp Fz H O Fz' H' → (fl = true → Kp Fz' fp fp' H H') → Fm K Fz' O H' env' σ fp' → RRs K Fz' H' σ rs Vs ft → Tm Fz' O H' fp' ft → Q rs env' → Q' Vs H') →
    t σ H Q'
def SimS (W : WX) (pn : List Nat) (t : TS) (p : PSt) : Prop :=
  ∀ (Wp : PX) (D : PEnd) (env : Env) (σ : L2.St) (H : Hp) (Fz O : Addr → Prop) (fp : Nat → List Addr) (pv : Nat → V) (D' : Ends),
    Fm K Fz O H env σ fp → Pin pn pv σ → p Wp D env → ExH K W Wp pn pv O Fz H →
    (∀ env' σ' H' Fz' fp', Stp Fz H O Fz' H' → Fm K Fz' O H' env' σ' fp' → Pin pn pv σ' → D.nx env' → D'.nx σ' H') →
    (∀ v V env' σ' H' Fz' fp' ft, Stp Fz H O Fz' H' → Fm K Fz' O H' env' σ' fp' → Pin pn pv σ' → Ow K Fz' H' v V ft → Tm Fz' O H' fp' ft → D.rt v env' → D'.rt V H') →
    (∀ env' σ' H' Fz' fp', Stp Fz H O Fz' H' → Fm K Fz' O H' env' σ' fp' → Pin pn pv σ' → D.bk env' → D'.bk σ' H') →
    (∀ env' σ' H' Fz' fp', Stp Fz H O Fz' H' → Fm K Fz' O H' env' σ' fp' → Pin pn pv σ' → D.ct env' → D'.ct σ' H') →
    t D' σ H
end

section
variable {K : PySem.W.Frag} {Fz Fz' Fz2 O O' : Addr → Prop} {H H' H2 : Hp} {env env' : Env} {σ σ' : L2.St} {fp fp' : Nat → List Addr} {ft : List Addr} {pn : List Nat} {pv : Nat → V} {W : WX} {Wp : PX}
theorem Stp.refl : Stp Fz H O Fz H := ⟨fun _ h => h, fun _ _ => rfl⟩
theorem Stp.trans (a : Stp Fz H O Fz' H') (b : Stp Fz' H' O' Fz2 H2) (m : ∀ a, O a → O' a) : Stp Fz H O Fz2 H2 :=
  ⟨fun x h => b.mono x (a.mono x h), fun x h => (b.same x (h.elim (fun z => .inl (a.mono x z)) fun z => .inr (m x z))).trans (a.same x h)⟩
theorem ExH.step (x : ExH K W Wp pn pv O Fz H) (a : Stp Fz H O Fz' H') (m : ∀ a, O a → O' a) : ExH K W Wp pn pv O' Fz' H' :=
  fun exc env' cls d σ' H2 Fz2 fp' s F P e w => x exc env' cls d σ' H2 Fz2 fp' (a.trans s m) ⟨F.len, F.sl, F.dj, F.nd, fun i a h => ⟨(F.nf i a h).1, fun z => (F.nf i a h).2.1 (m a z), (F.nf i a h).2.2⟩,
    fun a h => ⟨fun z => (F.fz a h).1 (m a z), (F.fz a h).2⟩, fun a h => F.oo a (m a h)⟩ P e w
theorem Fm.weak (F : Fm K Fz O' H env σ fp) (m : ∀ a, O a → O' a) : Fm K Fz O H env σ fp :=
  ⟨F.len, F.sl, F.dj, F.nd, fun i a h => ⟨(F.nf i a h).1, fun z => (F.nf i a h).2.1 (m a z), (F.nf i a h).2.2⟩, fun a h => ⟨fun z => (F.fz a h).1 (m a z), (F.fz a h).2⟩, fun a h => F.oo a (m a h)⟩
abbrev Oft (O : Addr → Prop) (ft : List Addr) : Addr → Prop := fun a => O a ∨ a ∈ ft
theorem Fm.ext (F : Fm K Fz O H env σ fp) (t : Tm Fz O H fp ft) : Fm K Fz (Oft O ft) H env σ fp :=
  ⟨F.len, F.sl, F.dj, F.nd, fun i a h => ⟨(F.nf i a h).1, fun z => z.elim (F.nf i a h).2.1 fun z => t.ds a z i h, (F.nf i a h).2.2⟩,
    fun a h => ⟨fun z => z.elim (F.fz a h).1 fun z => (t.nf a z).1 h, (F.fz a h).2⟩, fun a h => h.elim (F.oo a) fun z => (t.nf a z).2.2⟩
theorem Tm.nil : Tm Fz O H fp [] := ⟨List.nodup_nil, fun a h => (by cases h), fun a h => (by cases h)⟩
/-- a temporary over a step that protects it -/
theorem Tm.carry (t : Tm Fz O H fp ft) (s : Stp Fz H (Oft O ft) Fz' H') (F : Fm K Fz' (Oft O ft) H' env' σ' fp') : Tm Fz' O H' fp' ft :=
  ⟨t.nd, fun a h => ⟨fun z => (F.fz a z).1 (.inr h), (t.nf a h).2.1, by rw [s.same a (.inr (.inr h))]; exact (t.nf a h).2.2⟩, fun a h i z => (F.nf i a z).2.1 (.inr h)⟩
theorem Tm.app {ft2 : List Addr} (t : Tm Fz O H fp ft) (u : Tm Fz (Oft O ft) H fp ft2) : Tm Fz O H fp (ft ++ ft2) :=
  ⟨List.nodup_append.mpr ⟨t.nd, u.nd, fun a ha b hb e => (u.nf b hb).2.1 (.inr (e ▸ ha))⟩,
    fun a h => (List.mem_append.mp h).elim (fun h => t.nf a h) fun h => ⟨(u.nf a h).1, fun z => (u.nf a h).2.1 (.inl z), (u.nf a h).2.2⟩,
    fun a h i => (List.mem_append.mp h).elim (fun h => t.ds a h i) fun h => u.ds a h i⟩
theorem Tm.left {ft2 : List Addr} (t : Tm Fz O H fp (ft ++ ft2)) : Tm Fz O H fp ft :=
  ⟨(List.nodup_append.mp t.nd).1, fun a h => t.nf a (List.mem_append_left _ h), fun a h => t.ds a (List.mem_append_left _ h)⟩
theorem Tm.right {ft2 : List Addr} (t : Tm Fz O H fp (ft ++ ft2)) : Tm Fz O H fp ft2 :=
  ⟨(List.nodup_append.mp t.nd).2.1, fun a h => t.nf a (List.mem_append_right _ h), fun a h => t.ds a (List.mem_append_right _ h)⟩
theorem RR.carry {r : Res} {V : V} (x : RR K Fz H σ r V ft) (s : Stp Fz H (Oft O ft) Fz' H') : RR K Fz' H' σ r V ft := by
  cases r with
  | val v => exact Ow.st s.mono (fun a z => s.same a (.inl z)) v V ft (fun a z => s.same a (.inr (.inr z))) x
  | pl i => exact x
theorem RRs.carry : ∀ {rs : List Res} {Vs : List V} {ft : List Addr}, RRs K Fz H σ rs Vs ft → (∀ a ∈ ft, H' a = H a) → (∀ a, Fz a → Fz' a) → (∀ a, Fz a → H' a = H a) → RRs K Fz' H' σ rs Vs ft
  | [], _, _, x, _, _, _ => x
  | r :: rs, _, _, x, sf, m, s => by
    obtain ⟨V, Ws, f1, f2, e, ef, x1, x2⟩ := x
    subst ef
    refine ⟨V, Ws, f1, f2, e, rfl, ?_, RRs.carry x2 (fun a h => sf a (List.mem_append_right _ h)) m s⟩
    cases r with
    | val v => exact Ow.st m s v V f1 (fun a h => sf a (List.mem_append_left _ h)) x1
    | pl i => exact x1
theorem RRs.len : ∀ {rs : List Res} {Vs : List V} {ft : List Addr}, RRs K Fz H σ rs Vs ft → Vs.length = rs.length
  | [], _, _, x => by rw [x.1] <;> rfl
  | r :: rs, _, _, x => by
    obtain ⟨V, Ws, f1, f2, e, ef, x1, x2⟩ := x
    subst e
    rw [List.length_cons, List.length_cons, RRs.len x2]
/-- what a result stands for now -/
theorem RR.peek {r : Res} {V : V} {v : Val} (F : Fm K Fz O H env σ fp) (x : RR K Fz H σ r V ft) (e : rd env r = some v) : ∃ f, Ow K Fz H v V f := by
  cases r with
  | val w =>
    cases e
    exact ⟨ft, x⟩
  | pl i =>
    have e2 : (match env[i]? with
      | some (some v) => some v
      | _ => none) = some v := e
    split at e2
    · rename_i w hw
      cases e2
      obtain ⟨V', s1, o⟩ := F.sl i _ hw
      have s2 := x.2
      rw [s1] at s2
      cases s2
      exact ⟨fp i, o⟩
    · cases e2
/-- a step that lays new objects alone -/
structure Nw (Fz : Addr → Prop) (H : Hp) (Fz' : Addr → Prop) (H' : Hp) (ft : List Addr) : Prop where
  keep : ∀ a, H a ≠ none → H' a = H a
  mono : ∀ a, Fz a → Fz' a
  newf : ∀ a, Fz' a → Fz a ∨ (H a = none ∧ H' a ≠ none)
  nd : ft.Nodup
  tmp : ∀ a ∈ ft, H a = none ∧ H' a ≠ none ∧ ¬ Fz' a
theorem Nw.refl : Nw Fz H Fz H [] := ⟨fun _ _ => rfl, fun _ h => h, fun _ h => .inl h, List.nodup_nil, fun a h => (by cases h)⟩
theorem Fm.nw (F : Fm K Fz O H env σ fp) (n : Nw Fz H Fz' H' ft) : Fm K Fz' O H' env σ fp where
  len := F.len
  sl := fun i v e => by
    obtain ⟨V, s, o⟩ := F.sl i v e
    exact ⟨V, s, Ow.st n.mono (fun a z => n.keep a (F.fz a z).2) v V _ (fun a z => n.keep a (F.nf i a z).2.2) o⟩
  dj := F.dj
  nd := F.nd
  nf := fun i a h => ⟨fun z => (n.newf a z).elim (F.nf i a h).1 fun z => (F.nf i a h).2.2 z.1, (F.nf i a h).2.1, by rw [n.keep a (F.nf i a h).2.2]; exact (F.nf i a h).2.2⟩
  fz := fun a h => (n.newf a h).elim (fun z => ⟨(F.fz a z).1, by rw [n.keep a (F.fz a z).2]; exact (F.fz a z).2⟩) fun z => ⟨fun w => F.oo a w z.1, z.2⟩
  oo := fun a h => by rw [n.keep a (F.oo a h)]; exact F.oo a h
theorem Fm.nwTm (F : Fm K Fz O H env σ fp) (n : Nw Fz H Fz' H' ft) : Tm Fz' O H' fp ft :=
  ⟨n.nd, fun a h => ⟨(n.tmp a h).2.2, fun z => F.oo a z (n.tmp a h).1, (n.tmp a h).2.1⟩, fun a h i z => (F.nf i a z).2.2 (n.tmp a h).1⟩
theorem Fm.nwStp (F : Fm K Fz O H env σ fp) (n : Nw Fz H Fz' H' ft) : Stp Fz H O Fz' H' :=
  ⟨n.mono, fun a h => n.keep a (h.elim (fun z => (F.fz a z).2) (F.oo a))⟩
theorem Fm.nwKp (F : Fm K Fz O H env σ fp) (n : Nw Fz H Fz' H' ft) : Kp Fz' fp fp H H' := fun i a h => ⟨n.keep a (F.nf i a h).2.2, .inl h⟩
theorem Kp.refl : Kp Fz fp fp H H := fun i a h => ⟨rfl, .inl h⟩
theorem Kp.trans {fp2 : Nat → List Addr} (a : Kp Fz' fp fp' H H') (b : Kp Fz2 fp' fp2 H' H2) (s : Stp Fz' H' O Fz2 H2) : Kp Fz2 fp fp2 H H2 := fun i x h => by
  obtain ⟨e1, z⟩ := a i x h
  rcases z with z | z
  · exact ⟨(b i x z).1.trans e1, (b i x z).2⟩
  · exact ⟨(s.same x (.inl z)).trans e1, .inr (s.mono x z)⟩
end

/-! ### operations by values: a two-place one, a one-place one, one on a list -/
abbrev G2 := Val → Val → (Val → Prop) → Prop
abbrev G1 := Val → (Val → Prop) → Prop
abbrev GN := List Val → (Val → Prop) → Prop
section
variable (K : PySem.W.Frag)
/-- behind an operation: a value over new objects -/
def Aft (Fz : Addr → Prop) (H : Hp) (Qp : Val → Prop) (Q' : VK) : Prop :=
  ∀ u U Fz' H' ft, Nw Fz H Fz' H' ft → Ow K Fz' H' u U ft → Qp u → Q' U H'
def OwA (Fz : Addr → Prop) (H : Hp) (v : Val) (V : V) : Prop := ∃ f, Ow K Fz H v V f
def S2 (r : R2) (g : G2) : Prop := ∀ (Fz : Addr → Prop) (H : Hp) (v w : Val) (V W : L2.V) (Qp : Val → Prop) (Q' : VK), (∀ a, Fz a → H a ≠ none) → OwA K Fz H v V → OwA K Fz H w W → g v w Qp → Aft K Fz H Qp Q' → r V W H Q'
def S1 (r : V → Hp → VK → Prop) (g : G1) : Prop := ∀ (Fz : Addr → Prop) (H : Hp) (v : Val) (V : V) (Qp : Val → Prop) (Q' : VK), (∀ a, Fz a → H a ≠ none) → OwA K Fz H v V → g v Qp → Aft K Fz H Qp Q' → r V H Q'
inductive OwAs (Fz : Addr → Prop) (H : Hp) : List Val → List L2.V → Prop
  | nil : OwAs Fz H [] []
  | cons {v : Val} {U : L2.V} {vs : List Val} {Us : List L2.V} : OwA K Fz H v U → OwAs Fz H vs Us → OwAs Fz H (v :: vs) (U :: Us)
def SN (r : List V → Hp → VK → Prop) (g : GN) : Prop := ∀ (Fz : Addr → Prop) (H : Hp) (vs : List Val) (Vs : List V) (Qp : Val → Prop) (Q' : VK), (∀ a, Fz a → H a ≠ none) → OwAs K Fz H vs Vs → g vs Qp → Aft K Fz H Qp Q' → r Vs H Q'
end
def rds (env : Env) : List Res → Option (List Val)
  | [] => some []
  | r :: rs => match rd env r, rds env rs with
    | some v, some vs => some (v :: vs)
    | _, _ => none

/-! ### expressions -/
def pVar (i : Nat) : PEx := fun _ env Q => match env[i]? with
  | some (some v) => (match v.owned with
    | true => Q (.pl i) env
    | false => Q (.val v) env)
  | _ => False
def pC (v : Val) : PEx := fun _ env Q => Q (.val v) env
def pOp (g : G2) (pa pb : PEx) : PEx := fun W env Q => pa W env fun ra e1 => pb W e1 fun rb e2 => match rd e2 ra, rd e2 rb with
  | some v, some w => g v w fun u => Q (.val u) e2
  | _, _ => False
def pUn (g : G1) (pa : PEx) : PEx := fun W env Q => pa W env fun ra e1 => match rd e1 ra with
  | some v => g v fun u => Q (.val u) e1
  | _ => False
def aNil : PAr := fun _ env Q => Q [] env
def aCons (pa : PEx) (pr : PAr) : PAr := fun W env Q => pa W env fun r e1 => pr W e1 fun rs e2 => Q (r :: rs) e2
def pCB (g : GN) (pa : PAr) : PEx := fun W env Q => pa W env fun rs e1 => match rds e1 rs with
  | some vs => g vs fun u => Q (.val u) e1
  | none => False
/-- the value itself, no longer a place: frozen where it was one -/
def esc (r : Res) (env : Env) (k : Val → Env → Prop) : Prop := match r with
  | .val v => k v env
  | .pl i => match env[i]? with
    | some (some v) => k (freeze v) (env.set i (some (freeze v)))
    | _ => False
def escs : List Res → Env → (List Val → Env → Prop) → Prop
  | [], env, k => k [] env
  | r :: rs, env, k => esc r env fun v e1 => escs rs e1 fun vs e2 => k (v :: vs) e2

section
variable {K : PySem.W.Frag} {W : WX} {pn : List Nat} {fl fl2 : Bool} {ta tb te : TE} {pa pb : PEx} {r : R2} {g : G2}
theorem sim_var (i : Nat) : SimE K W pn true (tVar i) (pVar i) := by
  intro Wp env σ H Fz O fp pv Q Q' F P hp hx hq
  unfold pVar at hp
  split at hp
  · rename_i v hv
    obtain ⟨V, s, o⟩ := F.sl i v hv
    refine ⟨V, s, ?_⟩
    split at hp
    · exact hq (.pl i) env V H Fz fp [] Stp.refl (fun _ => Kp.refl) F ⟨rfl, s⟩ Tm.nil hp
    · rename_i ho
      obtain ⟨_, z⟩ := o.fzn ho
      exact hq (.val v) env V H Fz fp [] Stp.refl (fun _ => Kp.refl) F z.ow Tm.nil hp
  · exact hp.elim
theorem sim_c {v : Val} {V : V} (h : ∀ Fz H, Fzn K Fz H v V) : SimE K W pn true (tC V) (pC v) := by
  intro Wp env σ H Fz O fp pv Q Q' F P hp hx hq
  exact hq (.val v) env V H Fz fp [] Stp.refl (fun _ => Kp.refl) F (h Fz H).ow Tm.nil hp
/-- two operands, one behind the other -/
theorem sim_bin {R : V → V → Hp → Prop} {Wp : PX} {env : Env} {σ : L2.St} {H : Hp} {Fz O : Addr → Prop} {fp : Nat → List Addr} {pv : Nat → V} {k : Res → Res → Env → Prop}
    (ha : SimE K W pn fl ta pa) (hb : SimE K W pn fl2 tb pb) (F : Fm K Fz O H env σ fp) (P : Pin pn pv σ) (hp : pa Wp env fun ra e1 => pb Wp e1 fun rb e2 => k ra rb e2) (hx : ExH K W Wp pn pv O Fz H)
    (hq : ∀ ra rb e2 V1 V2 H2 Fz2 fp2 f1 f2, Stp Fz H O Fz2 H2 → ((fl && fl2) = true → Kp Fz2 fp fp2 H H2) → Fm K Fz2 O H2 e2 σ fp2 → RR K Fz2 H2 σ ra V1 f1 → RR K Fz2 H2 σ rb V2 f2 → Tm Fz2 O H2 fp2 (f1 ++ f2) → k ra rb e2 → R V1 V2 H2) :
    ta σ H fun x H1 => tb σ H1 fun y H2 => R x y H2 := by
  refine ha Wp env σ H Fz O fp pv _ _ F P hp hx fun ra e1 V1 H1 Fz1 fp1 f1 s1 k1 F1 r1 t1 q1 => ?_
  refine hb Wp e1 σ H1 Fz1 (Oft O f1) fp1 pv _ _ (F1.ext t1) P q1 (hx.step s1 fun _ h => .inl h) fun rb e2 V2 H2 Fz2 fp2 f2 s2 k2 F2 r2 t2 q2 => ?_
  exact hq ra rb e2 V1 V2 H2 Fz2 fp2 f1 f2 (s1.trans s2 fun _ h => .inl h) (fun e => by
    obtain ⟨e1, e2⟩ := Bool.and_eq_true_iff.mp e
    exact (k1 e1).trans (k2 e2) s2) (F2.weak fun _ h => .inl h) (r1.carry s2) r2 ((t1.carry s2 F2).app t2) q2
end
end Qv
set_option Elab.async false
set_option linter.all false
set_option maxRecDepth 100000
set_option maxHeartbeats 2000000
namespace Qv
open PySem PySem.Spec L2

/-! ### tests and choices -/
def pTest (pe : PEx) : PTe := fun W env Q => pe W env fun r e1 => match rd e1 r with
  | some (.bl b) => Q b e1
  | _ => False
def truth : Val → Option Bool
  | .non => some false
  | .bl b => some b
  | .int i => some (i != 0)
  | .str x => some ((x.length : Int) != 0)
  | .tup xs => some (!xs.isEmpty)
  | .lst _ xs => some (!xs.isEmpty)
  | _ => none
/-- texts of a length that is met -/
def fits : Val → Prop
  | .str x => x.length ≤ sizeLine
  | _ => True
def pTru (pe : PEx) : PTe := fun W env Q => pe W env fun r e1 => match rd e1 r with
  | some v => (match truth v with
    | some b => fits v ∧ Q b e1
    | none => False)
  | none => False
def pAnd (pa pb : PTe) : PTe := fun W env Q => pa W env fun c e1 => if c = true then pb W e1 Q else Q false e1
def pOr (pa pb : PTe) : PTe := fun W env Q => pa W env fun c e1 => if c = true then Q true e1 else pb W e1 Q
def pNot (pa : PTe) : PTe := fun W env Q => pa W env fun c e1 => Q (!c) e1
def pIf (pt : PTe) (pa pb : PEx) : PEx := fun W env Q => pt W env fun c e1 => if c = true then pa W e1 Q else pb W e1 Q
def pAndV (pa pb : PEx) : PEx := fun W env Q => pa W env fun r e1 => match rd e1 r with
  | some (.bl c) => if c = true then pb W e1 Q else Q (.val (.bl false)) e1
  | _ => False
def pOrV (pa pb : PEx) : PEx := fun W env Q => pa W env fun r e1 => match rd e1 r with
  | some (.bl c) => if c = true then Q (.val (.bl true)) e1 else pb W e1 Q
  | _ => False
def pNotV (pa : PEx) : PEx := fun W env Q => pa W env fun r e1 => match rd e1 r with
  | some (.bl c) => Q (.val (.bl (!c))) e1
  | _ => False
/-- a < b < c -/
def pChain (g h : G2) (pa pb pc : PEx) : PEx := fun W env Q => pa W env fun ra e1 => pb W e1 fun rb e2 => match rd e2 ra, rd e2 rb with
  | some v, some w => g v w fun u => match u with
    | .bl k => if k = true then pc W e2 fun rc e3 => (match rd e3 rb, rd e3 rc with
        | some w, some x => h w x fun y => Q (.val y) e3
        | _, _ => False) else Q (.val (.bl false)) e2
    | _ => False
  | _, _ => False
/-- a tuple, a list of these -/
def pTup (pa : PAr) : PEx := fun W env Q => pa W env fun rs e1 => escs rs e1 fun vs e2 => vs.length ≤ sizeLine ∧ Q (.val (.tup (freezeL vs))) e2
def pLst (pa : PAr) : PEx := fun W env Q => pa W env fun rs e1 => escs rs e1 fun vs e2 => vs.length ≤ sizeLine ∧ Q (.val (.lst true (freezeL vs))) e2

section
variable {K : PySem.W.Frag} {Fz Fz' Fz2 O O' : Addr → Prop} {H H' H2 : Hp} {env env' : Env} {σ σ' : L2.St} {fp fp' : Nat → List Addr} {ft : List Addr} {pn : List Nat} {pv : Nat → V} {W : WX} {Wp : PX}
variable {fl fl2 fl3 : Bool} {ta tb tc te : TE} {pa pb pc pe : PEx} {r r' : R2} {g g' : G2} {tt tu : TT} {pt pu : PTe}
theorem Fm.tr (F : Fm K Fz O H env σ fp) : ∀ a, Fz a → H a ≠ none := fun a h => (F.fz a h).2
/-- behind an operation over new objects -/
theorem Fm.aft {Q : Res → Env → Prop} {Q' : VK} (F : Fm K Fz O H env σ fp) (fl : Bool)
    (hq : ∀ r V H' Fz' fp' ft, Stp Fz H O Fz' H' → (fl = true → Kp Fz' fp fp' H H') → Fm K Fz' O H' env σ fp' → RR K Fz' H' σ r V ft → Tm Fz' O H' fp' ft → Q r env → Q' V H') : Aft K Fz H (fun u => Q (.val u) env) Q' :=
  fun u U Fz' H' ft n o q => hq (.val u) U H' Fz' fp ft (F.nwStp n) (fun _ => F.nwKp n) (F.nw n) o (F.nwTm n) q
theorem sim_op (ha : SimE K W pn fl ta pa) (hb : SimE K W pn fl2 tb pb) (hs : S2 K r g) : SimE K W pn (fl && fl2) (tOp r ta tb) (pOp g pa pb) := by
  intro Wp env σ H Fz O fp pv Q Q' F P hp hx hq
  refine sim_bin (R := fun x y H2 => r x y H2 Q') ha hb F P hp hx fun ra rb e2 V1 V2 H2 Fz2 fp2 f1 f2 s k F2 r1 r2 t q => ?_
  split at q
  · rename_i v w hv hw
    refine hs Fz2 H2 v w V1 V2 _ Q' F2.tr (r1.peek F2 hv) (r2.peek F2 hw) q (F2.aft true fun r V H' Fz' fp' ft s' k' F' o t' q' => ?_)
    exact hq r e2 V H' Fz' fp' ft (s.trans s' fun _ h => h) (fun e => (k e).trans (k' rfl) s') F' o t' q'
  · exact q.elim
theorem sim_un {r : V → Hp → VK → Prop} {g : G1} (ha : SimE K W pn fl ta pa) (hs : S1 K r g) : SimE K W pn fl (fun σ H Q => ta σ H fun x H1 => r x H1 Q) (pUn g pa) := by
  intro Wp env σ H Fz O fp pv Q Q' F P hp hx hq
  refine ha Wp env σ H Fz O fp pv _ _ F P hp hx fun ra e1 V1 H1 Fz1 fp1 f1 s k F1 r1 t q => ?_
  split at q
  · rename_i v hv
    refine hs Fz1 H1 v V1 _ Q' F1.tr (r1.peek F1 hv) q (F1.aft true fun r V H' Fz' fp' ft s' k' F' o t' q' => ?_)
    exact hq r e1 V H' Fz' fp' ft (s.trans s' fun _ h => h) (fun e => (k e).trans (k' rfl) s') F' o t' q'
  · exact q.elim
theorem sim_anil : SimA K W pn true tNil aNil := by
  intro Wp env σ H Fz O fp pv Q Q' F P hp hx hq
  exact hq [] env [] H Fz fp [] Stp.refl (fun _ => Kp.refl) F ⟨rfl, rfl⟩ Tm.nil hp
theorem sim_acons {tr : TA} {pr : PAr} (ha : SimE K W pn fl ta pa) (hb : SimA K W pn fl2 tr pr) : SimA K W pn (fl && fl2) (tCons ta tr) (aCons pa pr) := by
  intro Wp env σ H Fz O fp pv Q Q' F P hp hx hq
  refine ha Wp env σ H Fz O fp pv _ _ F P hp hx fun ra e1 V1 H1 Fz1 fp1 f1 s1 k1 F1 r1 t1 q1 => ?_
  refine hb Wp e1 σ H1 Fz1 (Oft O f1) fp1 pv _ _ (F1.ext t1) P q1 (hx.step s1 fun _ h => .inl h) fun rs e2 Vs H2 Fz2 fp2 f2 s2 k2 F2 r2 t2 q2 => ?_
  refine hq (ra :: rs) e2 (V1 :: Vs) H2 Fz2 fp2 (f1 ++ f2) (s1.trans s2 fun _ h => .inl h) (fun e => ?_) (F2.weak fun _ h => .inl h) ⟨V1, Vs, f1, f2, rfl, rfl, r1.carry s2, r2⟩ ((t1.carry s2 F2).app t2) q2
  obtain ⟨e1, e2⟩ := Bool.and_eq_true_iff.mp e
  exact (k1 e1).trans (k2 e2) s2
theorem RRs.peek : ∀ {rs : List Res} {Vs : List V} {ft : List Addr} {vs : List Val}, Fm K Fz O H env σ fp → RRs K Fz H σ rs Vs ft → rds env rs = some vs → OwAs K Fz H vs Vs
  | [], _, _, _, F, x, e => by
    obtain ⟨e1, _⟩ := x
    subst e1
    cases e
    exact .nil
  | r :: rs, _, _, _, F, x, e => by
    obtain ⟨V, Ws, f1, f2, e1, e2, x1, x2⟩ := x
    subst e1
    unfold rds at e
    split at e
    · rename_i v vs hv hvs
      cases e
      exact .cons (x1.peek F hv) (RRs.peek F x2 hvs)
    · cases e
theorem sim_cb {rn : List V → Hp → VK → Prop} {gn : GN} {tA : TA} {pA : PAr} (ha : SimA K W pn fl tA pA) (hs : SN K rn gn) : SimE K W pn fl (tCB rn tA) (pCB gn pA) := by
  intro Wp env σ H Fz O fp pv Q Q' F P hp hx hq
  refine ha Wp env σ H Fz O fp pv _ _ F P hp hx fun rs e1 Vs H1 Fz1 fp1 f1 s k F1 r1 t q => ?_
  split at q
  · rename_i vs hv
    refine hs Fz1 H1 vs Vs _ Q' F1.tr (RRs.peek F1 r1 hv) q (F1.aft true fun r V H' Fz' fp' ft s' k' F' o t' q' => ?_)
    exact hq r e1 V H' Fz' fp' ft (s.trans s' fun _ h => h) (fun e => (k e).trans (k' rfl) s') F' o t' q'
  · exact q.elim
/-! tests -/
theorem Ow.bl {b : Bool} {V : V} (o : OwA K Fz H (.bl b) V) : V = .bl b := by
  obtain ⟨f, o⟩ := o
  exact o.2
theorem Ow.int {i : Int} {V : V} (o : OwA K Fz H (.int i) V) : V = .int i := by
  obtain ⟨f, o⟩ := o
  exact o.2
theorem Ow.str {i : Str} {V : V} (o : OwA K Fz H (.str i) V) : V = .str i := by
  obtain ⟨f, o⟩ := o
  exact o.2
theorem Ow.non {V : V} (o : OwA K Fz H .non V) : V = .non := by
  obtain ⟨f, o⟩ := o
  exact o.2
theorem sim_test (ha : SimE K W pn fl te pe) : SimT K W pn fl (tTest te) (pTest pe) := by
  intro Wp env σ H Fz O fp pv Q Q' F P hp hx hq
  refine ha Wp env σ H Fz O fp pv _ _ F P hp hx fun ra e1 V1 H1 Fz1 fp1 f1 s k F1 r1 t q => ?_
  split at q
  · rename_i b hv
    exact ⟨b, Ow.bl (r1.peek F1 hv), hq b e1 H1 Fz1 fp1 s k F1 q⟩
  · exact q.elim
theorem sim_B (ha : SimE K W pn fl te pe) : SimT K W pn fl (tB te) (pTest pe) := sim_test ha
theorem tru_of {v : Val} {V : V} {b : Bool} (o : OwA K Fz H v V) (e : truth v = some b) (hf : fits v) : TruV K V H b := by
  obtain ⟨f, o⟩ := o
  cases v with
  | non => cases e; cases o.2; rfl
  | bl b => cases e; cases o.2; rfl
  | int i => cases e; cases o.2; rfl
  | str x => cases e; cases o.2; exact ⟨hf, rfl⟩
  | tup xs =>
    cases e
    obtain ⟨_, a, vs, e, t, l⟩ := o
    subst e
    refine .inr (.inl ⟨vs, t.sq, ?_⟩)
    have z := l.len
    cases xs <;> cases vs <;> first | rfl | cases z
  | lst o' xs =>
    cases e
    cases o' with
    | true =>
      obtain ⟨a, vs, e, ef, ha, l⟩ := o
      subst e
      refine .inl ⟨vs, .of ha, ?_⟩
      have z := l.len
      cases xs <;> cases vs <;> first | rfl | cases z
    | false =>
      obtain ⟨_, _, a, vs, e, t, l⟩ := o
      subst e
      refine .inl ⟨vs, t.sq, ?_⟩
      have z := l.len
      cases xs <;> cases vs <;> first | rfl | cases z
  | _ => cases e
theorem sim_tru (ha : SimE K W pn fl te pe) : SimT K W pn fl (fun σ H Q => te σ H fun x H' => ∃ k, TruV K x H' k ∧ Q k H') (pTru pe) := by
  intro Wp env σ H Fz O fp pv Q Q' F P hp hx hq
  refine ha Wp env σ H Fz O fp pv _ _ F P hp hx fun ra e1 V1 H1 Fz1 fp1 f1 s k F1 r1 t q => ?_
  split at q
  · rename_i v hv
    split at q
    · rename_i b hb
      exact ⟨b, tru_of (r1.peek F1 hv) hb q.1, hq b e1 H1 Fz1 fp1 s k F1 q.2⟩
    · exact q.elim
  · exact q.elim
theorem sim_and (ha : SimT K W pn fl tt pt) (hb : SimT K W pn fl2 tu pu) : SimT K W pn (fl && fl2) (tAnd tt tu) (pAnd pt pu) := by
  intro Wp env σ H Fz O fp pv Q Q' F P hp hx hq
  refine ha Wp env σ H Fz O fp pv _ _ F P hp hx fun c e1 H1 Fz1 fp1 s k F1 q => ?_
  cases c with
  | true =>
    refine hb Wp e1 σ H1 Fz1 O fp1 pv _ _ F1 P q (hx.step s fun _ h => h) fun d e2 H2 Fz2 fp2 s2 k2 F2 q2 => ?_
    refine hq d e2 H2 Fz2 fp2 (s.trans s2 fun _ h => h) (fun e => ?_) F2 q2
    obtain ⟨z1, z2⟩ := Bool.and_eq_true_iff.mp e
    exact (k z1).trans (k2 z2) s2
  | false => exact hq false e1 H1 Fz1 fp1 s (fun e => k (Bool.and_eq_true_iff.mp e).1) F1 q
theorem sim_or (ha : SimT K W pn fl tt pt) (hb : SimT K W pn fl2 tu pu) : SimT K W pn (fl && fl2) (tOr tt tu) (pOr pt pu) := by
  intro Wp env σ H Fz O fp pv Q Q' F P hp hx hq
  refine ha Wp env σ H Fz O fp pv _ _ F P hp hx fun c e1 H1 Fz1 fp1 s k F1 q => ?_
  cases c with
  | false =>
    refine hb Wp e1 σ H1 Fz1 O fp1 pv _ _ F1 P q (hx.step s fun _ h => h) fun d e2 H2 Fz2 fp2 s2 k2 F2 q2 => ?_
    refine hq d e2 H2 Fz2 fp2 (s.trans s2 fun _ h => h) (fun e => ?_) F2 q2
    obtain ⟨z1, z2⟩ := Bool.and_eq_true_iff.mp e
    exact (k z1).trans (k2 z2) s2
  | true => exact hq true e1 H1 Fz1 fp1 s (fun e => k (Bool.and_eq_true_iff.mp e).1) F1 q
theorem sim_not (ha : SimT K W pn fl tt pt) : SimT K W pn fl (tNot tt) (pNot pt) := by
  intro Wp env σ H Fz O fp pv Q Q' F P hp hx hq
  exact ha Wp env σ H Fz O fp pv _ _ F P hp hx fun c e1 H1 Fz1 fp1 s k F1 q => hq (!c) e1 H1 Fz1 fp1 s k F1 q
theorem sim_if (hc : SimT K W pn fl tt pt) (ha : SimE K W pn fl2 ta pa) (hb : SimE K W pn fl3 tb pb) : SimE K W pn (fl && (fl2 && fl3)) (tIf tt ta tb) (pIf pt pa pb) := by
  intro Wp env σ H Fz O fp pv Q Q' F P hp hx hq
  refine hc Wp env σ H Fz O fp pv _ _ F P hp hx fun c e1 H1 Fz1 fp1 s k F1 q => ?_
  cases c with
  | true =>
    refine ha Wp e1 σ H1 Fz1 O fp1 pv _ _ F1 P q (hx.step s fun _ h => h) fun r e2 V H2 Fz2 fp2 ft s2 k2 F2 o t q2 => ?_
    refine hq r e2 V H2 Fz2 fp2 ft (s.trans s2 fun _ h => h) (fun e => ?_) F2 o t q2
    obtain ⟨z1, z2⟩ := Bool.and_eq_true_iff.mp e
    obtain ⟨z2, z3⟩ := Bool.and_eq_true_iff.mp z2
    exact (k z1).trans (k2 z2) s2
  | false =>
    refine hb Wp e1 σ H1 Fz1 O fp1 pv _ _ F1 P q (hx.step s fun _ h => h) fun r e2 V H2 Fz2 fp2 ft s2 k2 F2 o t q2 => ?_
    refine hq r e2 V H2 Fz2 fp2 ft (s.trans s2 fun _ h => h) (fun e => ?_) F2 o t q2
    obtain ⟨z1, z2⟩ := Bool.and_eq_true_iff.mp e
    obtain ⟨z2, z3⟩ := Bool.and_eq_true_iff.mp z2
    exact (k z1).trans (k2 z3) s2
theorem sim_andV (ha : SimE K W pn fl ta pa) (hb : SimE K W pn fl2 tb pb) : SimE K W pn (fl && fl2) (tAndV ta tb) (pAndV pa pb) := by
  intro Wp env σ H Fz O fp pv Q Q' F P hp hx hq
  refine ha Wp env σ H Fz O fp pv _ _ F P hp hx fun ra e1 V1 H1 Fz1 fp1 f1 s k F1 r1 t q => ?_
  split at q
  · rename_i b hv
    refine ⟨b, Ow.bl (r1.peek F1 hv), ?_⟩
    cases b with
    | true =>
      refine hb Wp e1 σ H1 Fz1 O fp1 pv _ _ F1 P q (hx.step s fun _ h => h) fun r e2 V H2 Fz2 fp2 ft s2 k2 F2 o t q2 => ?_
      refine hq r e2 V H2 Fz2 fp2 ft (s.trans s2 fun _ h => h) (fun e => ?_) F2 o t q2
      obtain ⟨z1, z2⟩ := Bool.and_eq_true_iff.mp e
      exact (k z1).trans (k2 z2) s2
    | false => exact hq (.val (.bl false)) e1 (.bl false) H1 Fz1 fp1 [] s (fun e => k (Bool.and_eq_true_iff.mp e).1) F1 ⟨rfl, rfl⟩ Tm.nil q
  · exact q.elim
theorem sim_orV (ha : SimE K W pn fl ta pa) (hb : SimE K W pn fl2 tb pb) : SimE K W pn (fl && fl2) (tOrV ta tb) (pOrV pa pb) := by
  intro Wp env σ H Fz O fp pv Q Q' F P hp hx hq
  refine ha Wp env σ H Fz O fp pv _ _ F P hp hx fun ra e1 V1 H1 Fz1 fp1 f1 s k F1 r1 t q => ?_
  split at q
  · rename_i b hv
    refine ⟨b, Ow.bl (r1.peek F1 hv), ?_⟩
    cases b with
    | false =>
      refine hb Wp e1 σ H1 Fz1 O fp1 pv _ _ F1 P q (hx.step s fun _ h => h) fun r e2 V H2 Fz2 fp2 ft s2 k2 F2 o t q2 => ?_
      refine hq r e2 V H2 Fz2 fp2 ft (s.trans s2 fun _ h => h) (fun e => ?_) F2 o t q2
      obtain ⟨z1, z2⟩ := Bool.and_eq_true_iff.mp e
      exact (k z1).trans (k2 z2) s2
    | true => exact hq (.val (.bl true)) e1 (.bl true) H1 Fz1 fp1 [] s (fun e => k (Bool.and_eq_true_iff.mp e).1) F1 ⟨rfl, rfl⟩ Tm.nil q
  · exact q.elim
theorem sim_notV (ha : SimE K W pn fl ta pa) : SimE K W pn fl (tNotV ta) (pNotV pa) := by
  intro Wp env σ H Fz O fp pv Q Q' F P hp hx hq
  refine ha Wp env σ H Fz O fp pv _ _ F P hp hx fun ra e1 V1 H1 Fz1 fp1 f1 s k F1 r1 t q => ?_
  split at q
  · rename_i b hv
    exact ⟨b, Ow.bl (r1.peek F1 hv), hq (.val (.bl (!b))) e1 (.bl (!b)) H1 Fz1 fp1 [] s k F1 ⟨rfl, rfl⟩ Tm.nil q⟩
  · exact q.elim
theorem sim_chain (ha : SimE K W pn fl ta pa) (hb : SimE K W pn fl2 tb pb) (hc : SimE K W pn fl3 tc pc) (hs : S2 K r g) (hs' : S2 K r' g') : SimE K W pn (fl && (fl2 && fl3)) (tChain r r' ta tb tc) (pChain g g' pa pb pc) := by
  intro Wp env σ H Fz O fp pv Q Q' F P hp hx hq
  refine sim_bin (R := fun x y H2 => r x y H2 fun z H3 => ∃ k, z = .bl k ∧ (if k = true then tc σ H3 fun w' H4 => r' y w' H4 Q' else Q' (.bl false) H3)) ha hb F P hp hx fun ra rb e2 V1 V2 H2 Fz2 fp2 f1 f2 s k F2 r1 r2 t q => ?_
  split at q
  · rename_i v w hv hw
    refine hs Fz2 H2 v w V1 V2 _ _ F2.tr (r1.peek F2 hv) (r2.peek F2 hw) q ?_
    intro u U Fz3 H3 ft n o q3
    have F3 := F2.nw n
    split at q3
    · rename_i b
      refine ⟨b, Ow.bl ⟨_, o⟩, ?_⟩
      cases b with
      | true =>
        have t2 := t.right
        have n2 : Stp Fz2 H2 (Oft O f2) Fz3 H3 := ⟨n.mono, fun a h => n.keep a (h.elim (fun z => F2.tr a z) fun z => z.elim (F2.oo a) fun z => (t2.nf a z).2.2)⟩
        have F3x : Fm K Fz3 (Oft O f2) H3 e2 σ fp2 := (F2.ext t2).nw n
        have r2' := r2.carry n2
        refine hc Wp e2 σ H3 Fz3 (Oft O f2) fp2 pv _ _ F3x P q3 (hx.step (s.trans n2 fun _ h => .inl h) fun _ h => .inl h) fun rc e4 V4 H4 Fz4 fp4 f4 s4 k4 F4 r4 t4 q4 => ?_
        split at q4
        · rename_i w' x hw' hx'
          have F4' := F4.weak (O := O) fun _ h => .inl h
          refine hs' Fz4 H4 w' x V2 V4 _ Q' F4.tr ((r2'.carry s4).peek F4 hw') (r4.peek F4 hx') q4 (F4'.aft true fun r V H' Fz' fp' ft s' k' F' o t' q' => ?_)
          refine hq r e4 V H' Fz' fp' ft (((s.trans n2 fun _ h => .inl h).trans s4 fun _ h => .inl h).trans s' fun _ h => h) (fun e => ?_) F' o t' q'
          obtain ⟨z1, z2⟩ := Bool.and_eq_true_iff.mp e
          obtain ⟨z2, z3⟩ := Bool.and_eq_true_iff.mp z2
          exact ((((k (Bool.and_eq_true_iff.mpr ⟨z1, z2⟩)).trans (F2.nwKp n) n2).trans (k4 z3) s4).trans (k' rfl) s')
        · exact q4.elim
      | false =>
        refine hq (.val (.bl false)) e2 (.bl false) H3 Fz3 fp2 [] (s.trans (F2.nwStp n) fun _ h => h) (fun e => ?_) F3 ⟨rfl, rfl⟩ Tm.nil q3
        obtain ⟨z1, z2⟩ := Bool.and_eq_true_iff.mp e
        obtain ⟨z2, z3⟩ := Bool.and_eq_true_iff.mp z2
        exact (k (Bool.and_eq_true_iff.mpr ⟨z1, z2⟩)).trans (F2.nwKp n) (F2.nwStp n)
    · exact q3.elim
  · exact q.elim
end
end Qv
set_option Elab.async false
set_option linter.all false
set_option maxRecDepth 100000
set_option maxHeartbeats 2000000
namespace Qv
open PySem PySem.Spec L2
section
variable {K : PySem.W.Frag} {Fz Fz' Fz2 O O' : Addr → Prop} {H H' H2 : Hp} {env env' : Env} {σ σ' : L2.St} {fp fp' : Nat → List Addr} {ft : List Addr} {pn : List Nat} {pv : Nat → V} {W : WX} {Wp : PX}
variable {fl fl2 fl3 : Bool} {ta tb tc te : TE} {pa pb pc pe : PEx} {r r' : R2} {g g' : G2} {tt tu : TT} {pt pu : PTe}

abbrev Fft (Fz : Addr → Prop) (ft : List Addr) : Addr → Prop := fun a => Fz a ∨ a ∈ ft
/-- temporaries are frozen -/
theorem Fm.frz (F : Fm K Fz O H env σ fp) (t : Tm Fz O H fp ft) : Fm K (Fft Fz ft) O H env σ fp where
  len := F.len
  sl := fun i v e => by
    obtain ⟨V, s, o⟩ := F.sl i v e
    exact ⟨V, s, Ow.st (fun _ h => .inl h) (fun _ _ => rfl) v V _ (fun _ _ => rfl) o⟩
  dj := F.dj
  nd := F.nd
  nf := fun i a h => ⟨fun z => z.elim (F.nf i a h).1 fun z => t.ds a z i h, (F.nf i a h).2⟩
  fz := fun a h => h.elim (F.fz a) fun z => (t.nf a z).2
  oo := F.oo
def drp (fp : Nat → List Addr) (i : Nat) : Nat → List Addr := fun j => if j = i then [] else fp j
def put (fp : Nat → List Addr) (i : Nat) (f : List Addr) : Nat → List Addr := fun j => if j = i then f else fp j
/-- a slot's value is frozen -/
theorem Fm.frzSlot {i : Nat} {v : Val} {V : V} (F : Fm K Fz O H env σ fp) (e : env[i]? = some (some v)) (s : σ[i]? = some (some V)) :
    Fm K (Fft Fz (fp i)) O H (env.set i (some (freeze v))) σ (drp fp i) ∧ Fzn K (Fft Fz (fp i)) H (freeze v) V ∧ Stp Fz H O (Fft Fz (fp i)) H ∧ Kp (Fft Fz (fp i)) fp (drp fp i) H H := by
  obtain ⟨V', s', o⟩ := F.sl i v e
  rw [s] at s'
  cases s'
  have z : Fzn K (Fft Fz (fp i)) H (freeze v) V := Ow.frz (fun _ h => .inl h) v V (fp i) (fun _ h => .inr h) o
  refine ⟨⟨by rw [List.length_set]; exact F.len, fun j w ej => ?_, fun j k a h1 h2 => ?_, fun j => ?_, fun j a h => ?_, fun a h => ?_, F.oo⟩, z, ⟨fun _ h => .inl h, fun _ _ => rfl⟩, fun j a h => ⟨rfl, ?_⟩⟩
  · by_cases hj : i = j
    · subst hj
      have hi : i < env.length := (List.getElem?_eq_some_iff.mp e).1
      rw [List.getElem?_set_self hi] at ej
      cases ej
      refine ⟨V, s, ?_⟩
      unfold drp
      rw [if_pos rfl]
      exact z.ow
    · rw [List.getElem?_set_ne hj] at ej
      obtain ⟨V2, s2, o2⟩ := F.sl j w ej
      refine ⟨V2, s2, ?_⟩
      unfold drp
      rw [if_neg (fun q => hj q.symm)]
      exact Ow.st (fun _ h => .inl h) (fun _ _ => rfl) w V2 _ (fun _ _ => rfl) o2
  · unfold drp at h1 h2
    split at h1
    · cases h1
    · split at h2
      · cases h2
      · exact F.dj j k a h1 h2
  · unfold drp
    split
    · exact List.nodup_nil
    · exact F.nd j
  · unfold drp at h
    split at h
    · cases h
    · rename_i hj
      exact ⟨fun q => q.elim (F.nf j a h).1 fun q => hj (F.dj j i a h q), (F.nf j a h).2⟩
  · exact h.elim (F.fz a) fun q => (F.nf i a q).2
  · unfold drp
    by_cases hj : j = i
    · subst hj
      exact .inr (.inr h)
    · rw [if_neg hj]
      exact .inl h
theorem esc_ok {r : Res} {V : V} {k : Val → Env → Prop} (F : Fm K Fz O H env σ fp) (x : RR K Fz H σ r V ft) (t : Tm Fz O H fp ft) (h : esc r env k) :
    ∃ v env' Fz' fp' ft', Stp Fz H O Fz' H ∧ Kp Fz' fp fp' H H ∧ Fm K Fz' O H env' σ fp' ∧ Ow K Fz' H v V ft' ∧ Tm Fz' O H fp' ft' ∧ k v env' := by
  cases r with
  | val v => exact ⟨v, env, Fz, fp, ft, .refl, .refl, F, x, t, h⟩
  | pl i =>
    unfold esc at h
    dsimp only at h
    split at h
    · rename_i v e
      obtain ⟨F1, z, s, k1⟩ := F.frzSlot e x.2
      exact ⟨_, _, _, _, [], s, k1, F1, z.ow, .nil, h⟩
    · exact h.elim
theorem escs_ok : ∀ {rs : List Res} {Vs : List V} {k : List Val → Env → Prop} {Fz O : Addr → Prop} {env : Env} {fp : Nat → List Addr} {ft : List Addr}, Fm K Fz O H env σ fp → RRs K Fz H σ rs Vs ft → Tm Fz O H fp ft → escs rs env k →
    ∃ vs env' Fz' fp' ft', Stp Fz H O Fz' H ∧ Kp Fz' fp fp' H H ∧ Fm K Fz' O H env' σ fp' ∧ OwL K Fz' H vs Vs ft' ∧ Tm Fz' O H fp' ft' ∧ k vs env'
  | [], Vs, k, Fz, O, env, fp, ft, F, x, t, h => by
    obtain ⟨e1, e2⟩ := x
    subst e1 e2
    exact ⟨[], env, Fz, fp, [], .refl, .refl, F, ⟨rfl, rfl⟩, .nil, h⟩
  | r :: rs, Vs, k, Fz, O, env, fp, ft, F, x, t, h => by
    obtain ⟨V, Ws, f1, f2, e1, e2, x1, x2⟩ := x
    subst e1 e2
    have t2 := t.right
    have tx : Tm Fz (Oft O f2) H fp f1 := ⟨t.left.nd, fun a h => ⟨(t.left.nf a h).1, fun z => z.elim (t.left.nf a h).2.1 fun z => (List.nodup_append.mp t.nd).2.2 a h a z rfl, (t.left.nf a h).2.2⟩, t.left.ds⟩
    obtain ⟨v, e1, Fz1, fp1, g1, s1, k1, F1, o1, u1, q1⟩ := esc_ok (F.ext t2) x1 tx h
    have x2' := x2.carry (H' := H) (Fz' := Fz1) (fun _ _ => rfl) s1.mono fun _ _ => rfl
    have u1' : Tm Fz1 O H fp1 g1 := ⟨u1.nd, fun a h => ⟨(u1.nf a h).1, fun z => (u1.nf a h).2.1 (.inl z), (u1.nf a h).2.2⟩, u1.ds⟩
    have F1' : Fm K Fz1 (Oft O g1) H e1 σ fp1 := (F1.weak fun _ h => .inl h).ext u1'
    have t2' : Tm Fz1 (Oft O g1) H fp1 f2 := ⟨t2.nd, fun a h => ⟨fun z => (F1.fz a z).1 (.inr h), fun z => z.elim (t2.nf a h).2.1 fun z => (u1.nf a z).2.1 (.inr h), (t2.nf a h).2.2⟩, fun a h i z => (F1.nf i a z).2.1 (.inr h)⟩
    obtain ⟨vs, e2, Fz2, fp2, g2, s2, k2, F2, o2, u2, q2⟩ := escs_ok F1' x2' t2' q1
    refine ⟨v :: vs, e2, Fz2, fp2, g1 ++ g2, ⟨fun a h => s2.mono a (s1.mono a h), fun _ _ => rfl⟩, k1.trans k2 s2, F2.weak fun _ h => .inl h, ⟨V, Ws, g1, g2, rfl, rfl, ?_, o2⟩, (u1'.carry s2 F2).app u2, q2⟩
    exact Ow.st s2.mono (fun _ _ => rfl) v V g1 (fun _ _ => rfl) o1

/-! new objects -/
theorem nw_f {p : Addr} {o : HO} (F : ∀ a, Fz a → H a ≠ none) (hp : H p = none) : Nw Fz H (Fft Fz [p]) (upd H p o) [] where
  keep := fun a h => upd_ne fun e => h (by rw [e]; exact hp)
  mono := fun _ h => .inl h
  newf := fun a h => h.elim .inl fun z => by
    have e : a = p := by simpa using z
    subst e
    exact .inr ⟨hp, by rw [upd_same]; exact fun z => by cases z⟩
  nd := List.nodup_nil
  tmp := fun a h => by cases h
theorem nw_o {p : Addr} {o : HO} (F : ∀ a, Fz a → H a ≠ none) (hp : H p = none) : Nw Fz H Fz (upd H p o) [p] where
  keep := fun a h => upd_ne fun e => h (by rw [e]; exact hp)
  mono := fun _ h => h
  newf := fun a h => .inl h
  nd := by simp
  tmp := fun a h => by
    have e : a = p := by simpa using h
    subst e
    exact ⟨hp, by rw [upd_same]; exact fun z => (by cases z), fun z => F a z hp⟩
theorem FznL.nw {xs : List Val} {vs : List V} (h : FznL K Fz H xs vs) (F : ∀ a, Fz a → H a ≠ none) (n : Nw Fz H Fz' H' ft) : FznL K Fz' H' xs vs := FznL.st n.mono (fun a z => n.keep a (F a z)) xs vs h
theorem Fzn.nw {x : Val} {v : V} (h : Fzn K Fz H x v) (F : ∀ a, Fz a → H a ≠ none) (n : Nw Fz H Fz' H' ft) : Fzn K Fz' H' x v := Fzn.st n.mono (fun a z => n.keep a (F a z)) x v h
/-- a new tuple, a new list of frozen values -/
theorem new_tup {xs : List Val} {vs : List V} {p : Addr} (h : FznL K Fz H xs vs) (F : ∀ a, Fz a → H a ≠ none) (hp : H p = none) : Nw Fz H (Fft Fz [p]) (upd H p (.tup vs)) [] ∧ Ow K (Fft Fz [p]) (upd H p (.tup vs)) (.tup xs) (.ref p) [] :=
  ⟨nw_f F hp, rfl, p, vs, rfl, .inl ⟨.inr (by simp), .inl upd_same⟩, h.nw F (nw_f F hp)⟩
theorem new_lst {xs : List Val} {vs : List V} {p : Addr} (h : FznL K Fz H xs vs) (F : ∀ a, Fz a → H a ≠ none) (hp : H p = none) : Nw Fz H Fz (upd H p (.lst vs)) [p] ∧ Ow K Fz (upd H p (.lst vs)) (.lst true xs) (.ref p) [p] :=
  ⟨nw_o F hp, p, vs, rfl, rfl, upd_same, h.nw F (nw_o F hp)⟩
theorem sim_tup {tA : TA} {pA : PAr} (ha : SimA K W pn fl tA pA) : SimE K W pn fl (tTup tA) (pTup pA) := by
  intro Wp env σ H Fz O fp pv Q Q' F P hp hx hq
  refine ha Wp env σ H Fz O fp pv _ _ F P hp hx fun rs e1 Vs H1 Fz1 fp1 f1 s k F1 r1 t q => ?_
  obtain ⟨vs, e2, Fz2, fp2, g, s2, k2, F2, o, u, ql, q2⟩ := escs_ok F1 r1 t q
  have F3 := F2.frz u
  have l3 : FznL K (Fft Fz2 g) H1 (freezeL vs) Vs := OwL.frz (fun _ h => .inl h) vs Vs g (fun _ h => .inr h) o
  have s3 : Stp Fz2 H1 O (Fft Fz2 g) H1 := ⟨fun _ h => .inl h, fun _ _ => rfl⟩
  have k3 : Kp (Fft Fz2 g) fp2 fp2 H1 H1 := .refl
  refine ⟨?_, fun p hp => ?_⟩
  · have l := l3.len
    have l2 : (freezeL vs).length = vs.length := by
      clear l l3 F3 s3 k3 o q2 ql
      induction vs with
      | nil => rfl
      | cons a r ih => show (freezeL r).length + 1 = r.length + 1; rw [ih]
    omega
  · obtain ⟨n, on⟩ := new_tup l3 F3.tr hp
    exact hq (.val (.tup (freezeL vs))) e2 _ _ _ fp2 [] (((s.trans s2 fun _ h => h).trans s3 fun _ h => h).trans (F3.nwStp n) fun _ h => h) (fun e => (((k e).trans k2 s2).trans k3 s3).trans (F3.nwKp n) (F3.nwStp n)) (F3.nw n) on (F3.nwTm n) q2
theorem sim_lst {tA : TA} {pA : PAr} (ha : SimA K W pn fl tA pA) : SimE K W pn fl (tLst tA) (pLst pA) := by
  intro Wp env σ H Fz O fp pv Q Q' F P hp hx hq
  refine ha Wp env σ H Fz O fp pv _ _ F P hp hx fun rs e1 Vs H1 Fz1 fp1 f1 s k F1 r1 t q => ?_
  obtain ⟨vs, e2, Fz2, fp2, g, s2, k2, F2, o, u, ql, q2⟩ := escs_ok F1 r1 t q
  have F3 := F2.frz u
  have l3 : FznL K (Fft Fz2 g) H1 (freezeL vs) Vs := OwL.frz (fun _ h => .inl h) vs Vs g (fun _ h => .inr h) o
  have s3 : Stp Fz2 H1 O (Fft Fz2 g) H1 := ⟨fun _ h => .inl h, fun _ _ => rfl⟩
  have k3 : Kp (Fft Fz2 g) fp2 fp2 H1 H1 := .refl
  refine ⟨?_, fun p hp => ?_⟩
  · have l := l3.len
    have l2 : (freezeL vs).length = vs.length := by
      clear l l3 F3 s3 k3 o q2 ql
      induction vs with
      | nil => rfl
      | cons a r ih => show (freezeL r).length + 1 = r.length + 1; rw [ih]
    omega
  · obtain ⟨n, on⟩ := new_lst l3 F3.tr hp
    exact hq (.val (.lst true (freezeL vs))) e2 _ _ _ fp2 [p] (((s.trans s2 fun _ h => h).trans s3 fun _ h => h).trans (F3.nwStp n) fun _ h => h) (fun e => (((k e).trans k2 s2).trans k3 s3).trans (F3.nwKp n) (F3.nwStp n)) (F3.nw n) on (F3.nwTm n) q2

/-! ### statements -/
def pNext : PSt := fun _ D env => D.nx env
def pSeq (p q : PSt) : PSt := fun W D env => p W { D with nx := q W D } env
def pBreak : PSt := fun _ D env => D.bk env
def pCont : PSt := fun _ D env => D.ct env
def pDrop (pe : PEx) : PSt := fun W D env => pe W env fun _ e1 => D.nx e1
def pRet (pe : PEx) : PSt := fun W D env => pe W env fun r e1 => esc r e1 D.rt
def pRetN : PSt := fun _ D env => D.rt .non env
def pIfS (pt : PTe) (p q : PSt) : PSt := fun W D env => pt W env fun b e1 => if b = true then p W D e1 else q W D e1
def pNever : PSt := fun _ _ _ => False
/-- name = e -/
def pSet (i : Nat) (pe : PEx) : PSt := fun W D env => pe W env fun r e1 => esc r e1 fun v e2 => i < e2.length ∧ D.nx (e2.set i (some v))

theorem SimS.of {t : TS} {p : PSt} {D : PEnd} {D' : Ends} (h : SimS K W pn t p) (F : Fm K Fz O H env σ fp) (P : Pin pn pv σ) (hp : p Wp D env) (hx : ExH K W Wp pn pv O Fz H)
    (nx : ∀ env' σ' H' Fz' fp', Stp Fz H O Fz' H' → Fm K Fz' O H' env' σ' fp' → Pin pn pv σ' → D.nx env' → D'.nx σ' H')
    (rt : ∀ v V env' σ' H' Fz' fp' ft, Stp Fz H O Fz' H' → Fm K Fz' O H' env' σ' fp' → Pin pn pv σ' → Ow K Fz' H' v V ft → Tm Fz' O H' fp' ft → D.rt v env' → D'.rt V H')
    (bk : ∀ env' σ' H' Fz' fp', Stp Fz H O Fz' H' → Fm K Fz' O H' env' σ' fp' → Pin pn pv σ' → D.bk env' → D'.bk σ' H')
    (ct : ∀ env' σ' H' Fz' fp', Stp Fz H O Fz' H' → Fm K Fz' O H' env' σ' fp' → Pin pn pv σ' → D.ct env' → D'.ct σ' H') : t D' σ H :=
  h Wp D env σ H Fz O fp pv D' F P hp hx nx rt bk ct
theorem sim_next : SimS K W pn tNext pNext := by
  intro Wp D env σ H Fz O fp pv D' F P hp hx nx rt bk ct
  exact nx env σ H Fz fp .refl F P hp
theorem sim_break : SimS K W pn tBreak pBreak := by
  intro Wp D env σ H Fz O fp pv D' F P hp hx nx rt bk ct
  exact bk env σ H Fz fp .refl F P hp
theorem sim_cont : SimS K W pn tCont pCont := by
  intro Wp D env σ H Fz O fp pv D' F P hp hx nx rt bk ct
  exact ct env σ H Fz fp .refl F P hp
theorem sim_never : SimS K W pn tNever pNever := by
  intro Wp D env σ H Fz O fp pv D' F P hp hx nx rt bk ct
  exact hp
theorem sim_seq {t u : TS} {p q : PSt} (h1 : SimS K W pn t p) (h2 : SimS K W pn u q) : SimS K W pn (tSeq t u) (pSeq p q) := by
  intro Wp D env σ H Fz O fp pv D' F P hp hx nx rt bk ct
  refine h1 Wp _ env σ H Fz O fp pv _ F P hp hx (fun e1 σ1 H1 Fz1 fp1 s F1 P1 z => ?_) rt bk ct
  exact h2 Wp D e1 σ1 H1 Fz1 O fp1 pv D' F1 P1 z (hx.step s fun _ h => h) (fun e2 σ2 H2 Fz2 fp2 s2 => nx e2 σ2 H2 Fz2 fp2 (s.trans s2 fun _ h => h)) (fun v V e2 σ2 H2 Fz2 fp2 ft s2 => rt v V e2 σ2 H2 Fz2 fp2 ft (s.trans s2 fun _ h => h))
    (fun e2 σ2 H2 Fz2 fp2 s2 => bk e2 σ2 H2 Fz2 fp2 (s.trans s2 fun _ h => h)) fun e2 σ2 H2 Fz2 fp2 s2 => ct e2 σ2 H2 Fz2 fp2 (s.trans s2 fun _ h => h)
theorem sim_drop (ha : SimE K W pn fl te pe) : SimS K W pn (tDrop te) (pDrop pe) := by
  intro Wp D env σ H Fz O fp pv D' F P hp hx nx rt bk ct
  exact ha Wp env σ H Fz O fp pv _ _ F P hp hx fun r e1 V H1 Fz1 fp1 ft s k F1 o t q => nx e1 σ H1 Fz1 fp1 s F1 P q
theorem sim_ret (ha : SimE K W pn fl te pe) : SimS K W pn (tRet te) (pRet pe) := by
  intro Wp D env σ H Fz O fp pv D' F P hp hx nx rt bk ct
  refine ha Wp env σ H Fz O fp pv _ _ F P hp hx fun r e1 V H1 Fz1 fp1 ft s k F1 o t q => ?_
  obtain ⟨v, e2, Fz2, fp2, g, s2, k2, F2, o2, u, q2⟩ := esc_ok F1 o t q
  exact rt v V e2 σ H1 Fz2 fp2 g (s.trans s2 fun _ h => h) F2 P o2 u q2
theorem sim_retN : SimS K W pn tRetN pRetN := by
  intro Wp D env σ H Fz O fp pv D' F P hp hx nx rt bk ct
  exact rt .non .non env σ H Fz fp [] .refl F P ⟨rfl, rfl⟩ .nil hp
theorem sim_ifS {t u : TS} {p q : PSt} (hc : SimT K W pn fl tt pt) (h1 : SimS K W pn t p) (h2 : SimS K W pn u q) : SimS K W pn (tIfS tt t u) (pIfS pt p q) := by
  intro Wp D env σ H Fz O fp pv D' F P hp hx nx rt bk ct
  refine hc Wp env σ H Fz O fp pv _ _ F P hp hx fun c e1 H1 Fz1 fp1 s k F1 q => ?_
  cases c with
  | true =>
    exact h1 Wp D e1 σ H1 Fz1 O fp1 pv D' F1 P q (hx.step s fun _ h => h) (fun e2 σ2 H2 Fz2 fp2 s2 => nx e2 σ2 H2 Fz2 fp2 (s.trans s2 fun _ h => h)) (fun v V e2 σ2 H2 Fz2 fp2 ft s2 => rt v V e2 σ2 H2 Fz2 fp2 ft (s.trans s2 fun _ h => h))
      (fun e2 σ2 H2 Fz2 fp2 s2 => bk e2 σ2 H2 Fz2 fp2 (s.trans s2 fun _ h => h)) fun e2 σ2 H2 Fz2 fp2 s2 => ct e2 σ2 H2 Fz2 fp2 (s.trans s2 fun _ h => h)
  | false =>
    exact h2 Wp D e1 σ H1 Fz1 O fp1 pv D' F1 P q (hx.step s fun _ h => h) (fun e2 σ2 H2 Fz2 fp2 s2 => nx e2 σ2 H2 Fz2 fp2 (s.trans s2 fun _ h => h)) (fun v V e2 σ2 H2 Fz2 fp2 ft s2 => rt v V e2 σ2 H2 Fz2 fp2 ft (s.trans s2 fun _ h => h))
      (fun e2 σ2 H2 Fz2 fp2 s2 => bk e2 σ2 H2 Fz2 fp2 (s.trans s2 fun _ h => h)) fun e2 σ2 H2 Fz2 fp2 s2 => ct e2 σ2 H2 Fz2 fp2 (s.trans s2 fun _ h => h)
/-- a value goes into a slot -/
theorem Fm.set {i : Nat} {v : Val} {V : V} (F : Fm K Fz O H env σ fp) (o : Ow K Fz H v V ft) (t : Tm Fz O H fp ft) : Fm K Fz O H (env.set i (some v)) (σ.set i (some V)) (put fp i ft) where
  len := by rw [List.length_set, List.length_set]; exact F.len
  sl := fun j w ej => by
    by_cases hj : i = j
    · subst hj
      have hi : i < env.length := by
        have z := (List.getElem?_eq_some_iff.mp ej).1
        rw [List.length_set] at z
        exact z
      rw [List.getElem?_set_self hi] at ej
      cases ej
      refine ⟨V, List.getElem?_set_self (by rw [← F.len]; exact hi), ?_⟩
      unfold put
      rw [if_pos rfl]
      exact o
    · rw [List.getElem?_set_ne hj] at ej
      obtain ⟨V2, s2, o2⟩ := F.sl j w ej
      refine ⟨V2, by rw [List.getElem?_set_ne hj]; exact s2, ?_⟩
      unfold put
      rw [if_neg (fun q => hj q.symm)]
      exact o2
  dj := fun j k a h1 h2 => by
    unfold put at h1 h2
    split at h1 <;> split at h2
    · rename_i e1 e2
      rw [e1, e2]
    · exact absurd h2 (t.ds a h1 k)
    · exact absurd h1 (t.ds a h2 j)
    · exact F.dj j k a h1 h2
  nd := fun j => by
    unfold put
    split
    · exact t.nd
    · exact F.nd j
  nf := fun j a h => by
    unfold put at h
    split at h
    · exact t.nf a h
    · exact F.nf j a h
  fz := F.fz
  oo := F.oo
theorem Pin.set {i : Nat} {x : Option V} (P : Pin pn pv σ) (h : i ∉ pn) : Pin pn pv (σ.set i x) := fun j hj => by
  have e : i ≠ j := fun e => h (by rw [e]; exact hj)
  rw [List.getElem?_set_ne e]
  exact P j hj
theorem sim_set {i : Nat} (ha : SimE K W pn fl te pe) (hi : i ∉ pn) : SimS K W pn (tAsg te (gName i)) (pSet i pe) := by
  intro Wp D env σ H Fz O fp pv D' F P hp hx nx rt bk ct
  refine ha Wp env σ H Fz O fp pv _ _ F P hp hx fun r e1 V H1 Fz1 fp1 ft s k F1 o t q => ?_
  obtain ⟨v, e2, Fz2, fp2, g, s2, k2, F2, o2, u, _, q2⟩ := esc_ok F1 o t q
  exact nx _ _ H1 Fz2 _ (s.trans s2 fun _ h => h) (F2.set o2 u) (P.set hi) q2

/-! ### while -/
def pWhN (pt : PTe) (pb : PSt) : Nat → PSt
  | 0 => fun _ _ _ => False
  | n + 1 => fun W D env => pt W env fun b e1 => if b = true then pb W { D with nx := pWhN pt pb n W D, ct := pWhN pt pb n W D, bk := D.nx } e1 else D.nx e1
def pWhile (pt : PTe) (pb : PSt) : PSt := fun W D env => ∃ n, pWhN pt pb n W D env
theorem sim_while {t : TS} {p : PSt} (hc : SimT K W pn fl tt pt) (h1 : SimS K W pn t p) : SimS K W pn (tWhile tt t) (pWhile pt p) := by
  intro Wp D env σ H Fz O fp pv D' F P hp hx nx rt bk ct
  obtain ⟨n, hp⟩ := hp
  refine ⟨fun m σ' H' => ∃ env' Fz' fp', Stp Fz H O Fz' H' ∧ Fm K Fz' O H' env' σ' fp' ∧ Pin pn pv σ' ∧ pWhN pt p m Wp D env', ⟨n, env, Fz, fp, .refl, F, P, hp⟩, ?_⟩
  rintro m σ0 H0 ⟨e0, Fz0, fp0, s0, F0, P0, q0⟩
  cases m with
  | zero => exact q0.elim
  | succ m =>
    refine hc Wp e0 σ0 H0 Fz0 O fp0 pv _ _ F0 P0 q0 (hx.step s0 fun _ h => h) fun b e1 H1 Fz1 fp1 s1 k F1 q => ?_
    have s01 := s0.trans s1 fun _ h => h
    cases b with
    | false => exact nx e1 σ0 H1 Fz1 fp1 s01 F1 P0 q
    | true =>
      refine ⟨fun σ' H' => ∃ env' Fz' fp', Stp Fz H O Fz' H' ∧ Fm K Fz' O H' env' σ' fp' ∧ Pin pn pv σ' ∧ pWhN pt p m Wp D env', fun σ' H' z => ⟨m, Nat.lt_succ_self m, z⟩, ?_⟩
      exact h1 Wp _ e1 σ0 H1 Fz1 O fp1 pv _ F1 P0 q (hx.step s01 fun _ h => h) (fun e2 σ2 H2 Fz2 fp2 s2 F2 P2 z => ⟨e2, Fz2, fp2, s01.trans s2 fun _ h => h, F2, P2, z⟩)
        (fun v V e2 σ2 H2 Fz2 fp2 ft s2 => rt v V e2 σ2 H2 Fz2 fp2 ft (s01.trans s2 fun _ h => h)) (fun e2 σ2 H2 Fz2 fp2 s2 F2 P2 z => nx e2 σ2 H2 Fz2 fp2 (s01.trans s2 fun _ h => h) F2 P2 z)
        fun e2 σ2 H2 Fz2 fp2 s2 F2 P2 z => ⟨e2, Fz2, fp2, s01.trans s2 fun _ h => h, F2, P2, z⟩
end
end Qv
set_option Elab.async false
set_option linter.all false
set_option maxRecDepth 100000
set_option maxHeartbeats 2000000
namespace Qv
open PySem PySem.Spec L2
abbrev PGt := Val → Env → (Env → Prop) → Prop
abbrev PGts := List Val → Env → (Env → Prop) → Prop
abbrev PIt := PX → Env → (List Val → Env → Prop) → Prop
section
variable (K : PySem.W.Frag)
/-- a target: only the slots ts change -/
def SimG (pn ts : List Nat) (g : TG) (p : PGt) : Prop :=
  ∀ (v : Val) (V : V) (env : Env) (σ : L2.St) (H : Hp) (Fz O : Addr → Prop) (fp : Nat → List Addr) (ft : List Addr) (pv : Nat → L2.V) (Q : Env → Prop) (Q' : L2.St → Hp → Prop),
    Fm K Fz O H env σ fp → Pin pn pv σ → Ow K Fz H v V ft → Tm Fz O H fp ft → p v env Q →
    (∀ env' σ' fp', Fm K Fz O H env' σ' fp' → Pin pn pv σ' → (σ'.length = σ.length ∧ ∀ i, i ∉ ts → σ'[i]? = σ[i]?) → Q env' → Q' σ' H) → g V σ H Q'
def SimGs (pn ts : List Nat) (g : TGs) (p : PGts) : Prop :=
  ∀ (vs : List Val) (Vs : List V) (env : Env) (σ : L2.St) (H : Hp) (Fz O : Addr → Prop) (fp : Nat → List Addr) (pv : Nat → L2.V) (Q : Env → Prop) (Q' : L2.St → Hp → Prop),
    Fm K Fz O H env σ fp → Pin pn pv σ → FznL K Fz H vs Vs → p vs env Q →
    (∀ env' σ' fp', Fm K Fz O H env' σ' fp' → Pin pn pv σ' → (σ'.length = σ.length ∧ ∀ i, i ∉ ts → σ'[i]? = σ[i]?) → Q env' → Q' σ' H) → g Vs σ H Q'
/-- what an iterator gives -/
def ItS (Fz : Addr → Prop) (H0 : Hp) (J : It) (xs : List Val) : Prop :=
  ∀ Fz' H', (∀ a, Fz a → Fz' a) → (∀ a, Fz a → H' a = H0 a) → (∀ a, Fz' a → H' a ≠ none) →
    (∀ i x, xs[i]? = some x → J.go i H' ∧ ∀ V H2, J.yld i H' V H2 → ∃ Fz2, Nw Fz' H' Fz2 H2 [] ∧ Fzn K Fz2 H2 x V) ∧ J.stop xs.length H'
def SimI (W : WX) (pn : List Nat) (t : TI) (p : PIt) : Prop :=
  ∀ (Wp : PX) (env : Env) (σ : L2.St) (H : Hp) (Fz O : Addr → Prop) (fp : Nat → List Addr) (pv : Nat → V) (Q : List Val → Env → Prop) (R : It → Hp → Prop),
    Fm K Fz O H env σ fp → Pin pn pv σ → p Wp env Q → ExH K W Wp pn pv O Fz H →
    (∀ xs env' J H' Fz' fp', Stp Fz H O Fz' H' → Fm K Fz' O H' env' σ fp' → ItS K Fz' H' J xs → Q xs env' → R J H') → t σ H R
end
def gnm (i : Nat) : PGt := fun v env Q => i < env.length ∧ Q (env.set i (some v))
def gtp (n : Nat) (ps : PGts) : PGt := fun v env Q => match v with
  | .tup xs => xs.length = n ∧ ps xs env Q
  | _ => False
def gnil : PGts := fun vs env Q => vs = [] ∧ Q env
def gcons (p : PGt) (ps : PGts) : PGts := fun vs env Q => match vs with
  | x :: xs => p x env fun e1 => ps xs e1 Q
  | [] => False
/-- target = e -/
def pAsg (pe : PEx) (pg : PGt) : PSt := fun W D env => pe W env fun r e1 => esc r e1 fun v e2 => pg v e2 D.nx
def pForL (pg : PGt) (pb : PSt) : List Val → PSt
  | [] => fun _ D env => D.nx env
  | x :: xs => fun W D env => pg x env fun e1 => pb W { D with nx := pForL pg pb xs W D, ct := pForL pg pb xs W D, bk := D.nx } e1
def pFor (pi : PIt) (pg : PGt) (pb : PSt) : PSt := fun W D env => pi W env fun xs e1 => pForL pg pb xs W D e1
/-- what a value gives when it is walked -/
def items : Val → Option (List Val)
  | .tup xs => some xs
  | .lst _ xs => some xs
  | .str x => some (x.cps.toList.map fun c => .str ⟨#[c]⟩)
  | _ => none
def iAny (pe : PEx) : PIt := fun W env Q => pe W env fun r e1 => esc r e1 fun v e2 => match items v with
  | some xs => Q xs e2
  | none => False
section
variable {K : PySem.W.Frag} {Fz Fz' Fz2 O O' : Addr → Prop} {H H' H2 : Hp} {env env' : Env} {σ σ' : L2.St} {fp fp' : Nat → List Addr} {ft : List Addr} {pn ts us : List Nat} {pv : Nat → V} {W : WX} {Wp : PX}
variable {fl fl2 fl3 : Bool} {ta tb tc te : TE} {pa pb pc pe : PEx} {tt tu : TT} {pt pu : PTe}
theorem sim_gnm {i : Nat} (hi : i ∉ pn) : SimG K pn [i] (gName i) (gnm i) := by
  intro v V env σ H Fz O fp ft pv Q Q' F P o t hp hq
  exact hq _ _ _ (F.set o t) (P.set hi) ⟨List.length_set, fun j hj => List.getElem?_set_ne fun e => hj (by rw [e]; simp)⟩ hp.2
theorem sim_gnil : SimGs K pn [] gNil gnil := by
  intro vs Vs env σ H Fz O fp pv Q Q' F P o hp hq
  obtain ⟨e, hp⟩ := hp
  subst e
  exact ⟨o, hq _ _ _ F P ⟨rfl, fun _ _ => rfl⟩ hp⟩
theorem sim_gcons {g : TG} {gs : TGs} {p : PGt} {ps : PGts} (h1 : SimG K pn ts g p) (h2 : SimGs K pn us gs ps) : SimGs K pn (ts ++ us) (gCons g gs) (gcons p ps) := by
  intro vs Vs env σ H Fz O fp pv Q Q' F P o hp hq
  cases vs with
  | nil => exact hp.elim
  | cons x xs =>
    obtain ⟨V, Ws, e, o1, o2⟩ := o
    refine ⟨V, Ws, e, ?_⟩
    refine h1 x V env σ H Fz O fp [] pv _ _ F P o1.ow .nil hp fun e1 σ1 fp1 F1 P1 c1 q1 => ?_
    refine h2 xs Ws e1 σ1 H Fz O fp1 pv _ _ F1 P1 o2 q1 fun e2 σ2 fp2 F2 P2 c2 q2 => ?_
    refine hq e2 σ2 fp2 F2 P2 ⟨c2.1.trans c1.1, fun i hi => ?_⟩ q2
    rw [c2.2 i (fun z => hi (List.mem_append_right _ z)), c1.2 i (fun z => hi (List.mem_append_left _ z))]
theorem sim_gtp {n : Nat} {gs : TGs} {ps : PGts} (h : SimGs K pn ts gs ps) : SimG K pn ts (gTup K n gs) (gtp n ps) := by
  intro v V env σ H Fz O fp ft pv Q Q' F P o t hp hq
  cases v with
  | tup xs =>
    obtain ⟨_, a, vs, e, f, l⟩ := o
    obtain ⟨en, hp⟩ := hp
    refine ⟨a, vs, e, f.sq, by rw [l.len]; exact en, ?_⟩
    exact h xs vs env σ H Fz O fp pv Q Q' F P l hp hq
  | _ => exact hp.elim
theorem sim_asg {g : TG} {p : PGt} (ha : SimE K W pn fl te pe) (hg : SimG K pn ts g p) : SimS K W pn (tAsg te g) (pAsg pe p) := by
  intro Wp D env σ H Fz O fp pv D' F P hp hx nx rt bk ct
  refine ha Wp env σ H Fz O fp pv _ _ F P hp hx fun r e1 V H1 Fz1 fp1 ft s k F1 o t q => ?_
  obtain ⟨v, e2, Fz2, fp2, g', s2, k2, F2, o2, u, q2⟩ := esc_ok F1 o t q
  exact hg v V e2 σ H1 Fz2 O fp2 g' pv _ _ F2 P o2 u q2 fun e3 σ3 fp3 F3 P3 c q3 => nx e3 σ3 H1 Fz2 fp3 (s.trans s2 fun _ h => h) F3 P3 q3
/-! ### for -/
theorem sim_for {wi : TI} {pi : PIt} {g : TG} {p : PGt} {t : TS} {b : PSt} (hi : SimI K W pn wi pi) (hg : SimG K pn ts g p) (hb : SimS K W pn t b) : SimS K W pn (tFor wi g t) (pFor pi p b) := by
  intro Wp D env σ H Fz O fp pv D' F P hp hx nx rt bk ct
  refine hi Wp env σ H Fz O fp pv _ _ F P hp hx fun xs e1 J H1 Fz1 fp1 s1 F1 J1 q => ?_
  refine ⟨fun i m σ' H' => m = xs.length - i ∧ i ≤ xs.length ∧ ∃ env' Fz' fp', Stp Fz1 H1 O Fz' H' ∧ Fm K Fz' O H' env' σ' fp' ∧ Pin pn pv σ' ∧ pForL p b (xs.drop i) Wp D env',
    ⟨xs.length, by simp, Nat.zero_le _, e1, Fz1, fp1, .refl, F1, P, by simpa using q⟩, ?_⟩
  rintro i m σ' H' ⟨rfl, hle, e2, Fz2, fp2, s2, F2, P2, q2⟩
  obtain ⟨go, st⟩ := J1 Fz2 H' s2.mono (fun a h => s2.same a (.inl h)) F2.tr
  have s12 := s1.trans s2 fun _ h => h
  by_cases hlt : i < xs.length
  · right
    have e : xs[i]? = some xs[i] := by simp [hlt]
    have ed : xs.drop i = xs[i] :: xs.drop (i + 1) := List.drop_eq_getElem_cons hlt
    obtain ⟨g1, g2⟩ := go i _ e
    rw [ed] at q2
    refine ⟨g1, fun σ3 H3 => ∃ env' Fz' fp', Stp Fz1 H1 O Fz' H3 ∧ Fm K Fz' O H3 env' σ3 fp' ∧ Pin pn pv σ3 ∧ pForL p b (xs.drop (i + 1)) Wp D env', fun σ3 H3 z => ⟨xs.length - (i + 1), by omega, rfl, hlt, z⟩, fun V H3 y => ?_⟩
    obtain ⟨Fz3, n, o⟩ := g2 V H3 y
    have F3 := F2.nw n
    have s3 := s2.trans (F2.nwStp n) fun _ h => h
    refine hg _ V e2 σ' H3 Fz3 O fp2 [] pv _ _ F3 P2 o.ow .nil q2 fun e4 σ4 fp4 F4 P4 c4 q4 => ?_
    have s13 := s12.trans (F2.nwStp n) fun _ h => h
    refine hb Wp _ e4 σ4 H3 Fz3 O fp4 pv _ F4 P4 q4 (hx.step s13 fun _ h => h) (fun e5 σ5 H5 Fz5 fp5 s5 F5 P5 z => ⟨e5, Fz5, fp5, s3.trans s5 fun _ h => h, F5, P5, z⟩)
      (fun v V e5 σ5 H5 Fz5 fp5 ft s5 => rt v V e5 σ5 H5 Fz5 fp5 ft (s13.trans s5 fun _ h => h)) (fun e5 σ5 H5 Fz5 fp5 s5 F5 P5 z => nx e5 σ5 H5 Fz5 fp5 (s13.trans s5 fun _ h => h) F5 P5 z)
      fun e5 σ5 H5 Fz5 fp5 s5 F5 P5 z => ⟨e5, Fz5, fp5, s3.trans s5 fun _ h => h, F5, P5, z⟩
  · left
    have e : i = xs.length := by omega
    subst e
    refine ⟨st, nx e2 σ' H' Fz2 fp2 s12 F2 P2 ?_⟩
    rw [List.drop_length] at q2
    exact q2
/-! ### comprehensions -/
def wipeE (env : Env) : List Nat → Env
  | [] => env
  | v :: vs => (wipeE env vs).set v none
def unwipe (env orig : Env) : List Nat → Env
  | [] => env
  | v :: vs => (unwipe env orig vs).set v (orig.getD v none)
def dropAll (fp : Nat → List Addr) (own : List Nat) : Nat → List Addr := fun j => if j ∈ own then [] else fp j
theorem wipeE_len (env : Env) : ∀ vs : List Nat, (wipeE env vs).length = env.length
  | [] => rfl
  | v :: vs => by unfold wipeE; rw [List.length_set, wipeE_len env vs]
theorem wipeE_some {i : Nat} {x : Val} : ∀ {vs : List Nat}, (wipeE env vs)[i]? = some (some x) → env[i]? = some (some x) ∧ i ∉ vs
  | [], h => ⟨h, by simp⟩
  | v :: vs, h => by
    unfold wipeE at h
    by_cases hi : v = i
    · subst hi
      by_cases hv : v < (wipeE env vs).length
      · rw [List.getElem?_set_self hv] at h; cases h
      · rw [List.getElem?_eq_none (by rw [List.length_set]; omega)] at h; cases h
    · rw [List.getElem?_set_ne hi] at h
      obtain ⟨h1, h2⟩ := wipeE_some h
      exact ⟨h1, by simp [h2]; exact fun e => hi e.symm⟩
theorem wipe_get {i : Nat} : ∀ {vs : List Nat}, i ∉ vs → (wipe σ vs)[i]? = σ[i]?
  | [], _ => rfl
  | v :: vs, h => by
    unfold wipe
    rw [List.getElem?_set_ne (fun e => h (by rw [e]; simp)), wipe_get fun z => h (List.mem_cons_of_mem _ z)]
theorem wipe_own {i : Nat} : ∀ {vs : List Nat}, i ∈ vs → i < σ.length → (wipe σ vs)[i]? = some none
  | [], h, _ => by cases h
  | v :: vs, h, hl => by
    unfold wipe
    by_cases e : v = i
    · subst e
      rw [List.getElem?_set_self (by rw [wipe_length]; exact hl)]
    · rw [List.getElem?_set_ne e]
      exact wipe_own ((List.mem_cons.mp h).resolve_left fun z => e z.symm) hl
theorem wipe_eq {own : List Nat} (hl : σ'.length = σ.length) (h : ∀ i, i ∉ own → σ'[i]? = σ[i]?) : wipe σ' own = wipe σ own := by
  apply List.ext_getElem?
  intro i
  by_cases hi : i ∈ own
  · by_cases hb : i < σ.length
    · rw [wipe_own hi (by omega), wipe_own hi hb]
    · rw [List.getElem?_eq_none (by rw [wipe_length]; omega), List.getElem?_eq_none (by rw [wipe_length]; omega)]
  · rw [wipe_get hi, wipe_get hi, h i hi]
theorem Fm.wipe (F : Fm K Fz O H env σ fp) (own : List Nat) : Fm K Fz O H (wipeE env own) (wipe σ own) (dropAll fp own) where
  len := by rw [wipeE_len, wipe_length]; exact F.len
  sl := fun i v e => by
    obtain ⟨e1, e2⟩ := wipeE_some e
    obtain ⟨V, s, o⟩ := F.sl i v e1
    refine ⟨V, by rw [wipe_get e2]; exact s, ?_⟩
    unfold dropAll
    rw [if_neg e2]
    exact o
  dj := fun i j a h1 h2 => by
    unfold dropAll at h1 h2
    split at h1 <;> split at h2 <;> first | (cases h1; done) | (cases h2; done) | exact F.dj i j a h1 h2
  nd := fun i => by
    unfold dropAll
    split
    · exact List.nodup_nil
    · exact F.nd i
  nf := fun i a h => by
    unfold dropAll at h
    split at h
    · cases h
    · exact F.nf i a h
  fz := F.fz
  oo := F.oo
/-- the own names' slots hold nothing that is owned -/
def ownOk (env : Env) (own : List Nat) : Prop := ∀ i ∈ own, ∀ v, env[i]? = some (some v) → v.owned = false
theorem unwipe_len (orig : Env) : ∀ vs : List Nat, (unwipe env orig vs).length = env.length
  | [] => rfl
  | v :: vs => by unfold unwipe; rw [List.length_set, unwipe_len orig vs]
theorem unwipe_some {orig : Env} {i : Nat} {x : Val} : ∀ {vs : List Nat}, (unwipe env orig vs)[i]? = some (some x) → (i ∉ vs ∧ env[i]? = some (some x)) ∨ (i ∈ vs ∧ orig[i]? = some (some x))
  | [], h => .inl ⟨by simp, h⟩
  | v :: vs, h => by
    unfold unwipe at h
    by_cases hi : v = i
    · subst hi
      by_cases hv : v < (unwipe env orig vs).length
      · rw [List.getElem?_set_self hv] at h
        refine .inr ⟨by simp, ?_⟩
        have h2 : orig.getD v none = some x := Option.some.inj h
        rw [List.getD_eq_getElem?_getD] at h2
        cases q : orig[v]? with
        | none => rw [q] at h2; cases h2
        | some y => rw [q] at h2; exact congrArg some h2
      · rw [List.getElem?_eq_none (by rw [List.length_set]; omega)] at h; cases h
    · rw [List.getElem?_set_ne hi] at h
      rcases unwipe_some h with ⟨h1, h2⟩ | ⟨h1, h2⟩
      · exact .inl ⟨by simp [h1]; exact fun e => hi e.symm, h2⟩
      · exact .inr ⟨List.mem_cons_of_mem _ h1, h2⟩
def pLcL (pg : PGt) (pt : PTe) (pe : PEx) (own : List Nat) : List Val → List Val → Env → (List Val → Env → Prop) → Prop
  | [], acc, env, Q => Q acc env
  | x :: xs, acc, env, Q => pg x env fun e1 => pt (fun _ _ => False) e1 fun b e2 => if b = true then pe (fun _ _ => False) e2 fun r e3 => esc r e3 fun v e4 => acc.length < sizeLine ∧ pLcL pg pt pe own xs (acc ++ [freeze v]) (wipeE e4 own) Q else pLcL pg pt pe own xs acc (wipeE e2 own) Q
def pLc (pi : PIt) (pg : PGt) (pt : PTe) (pe : PEx) (own : List Nat) : PEx := fun W env Q => pi W env fun xs e1 => ownOk e1 own ∧ pLcL pg pt pe own xs [] (wipeE e1 own) fun acc e2 => Q (.val (.lst true acc)) (unwipe e2 e1 own)
abbrev W0 : WX := fun _ _ _ _ => False
theorem exh0 : ExH K W0 (fun _ _ => False) pn pv O Fz H := fun _ _ _ _ _ _ _ _ _ _ _ _ z => z
theorem FznL.app : ∀ {xs : List Val} {vs : List V} {x : Val} {v : V}, FznL K Fz H xs vs → Fzn K Fz H x v → FznL K Fz H (xs ++ [x]) (vs ++ [v])
  | [], _, x, v, h, z => by
    cases h
    exact ⟨v, [], rfl, z, rfl⟩
  | y :: ys, _, x, v, h, z => by
    obtain ⟨w, r, e, h1, h2⟩ := h
    subst e
    exact ⟨w, r ++ [v], rfl, h1, FznL.app h2 z⟩
theorem sim_lc {wi : TI} {pi : PIt} {g : TG} {p : PGt} {own : List Nat} (hi : SimI K W pn wi pi) (hg : SimG K [] ts g p) (ht : SimT K W0 [] fl tt pt) (he : SimE K W0 [] fl2 te pe) (hts : ∀ i ∈ ts, i ∈ own) : SimE K W pn false (tLc wi g tt te own) (pLc pi p pt pe own) := by
  intro Wp env σ H Fz O fp pv Q Q' F P hp hx hq
  refine hi Wp env σ H Fz O fp pv _ _ F P hp hx fun xs e1 J H1 Fz1 fp1 s1 F1 J1 q => ?_
  obtain ⟨hok, q⟩ := q
  intro D hD
  -- D, the new list
  have hDF : ∀ a, Fz1 a → a ≠ D := fun a h z => F1.tr a h (by rw [z]; exact hD)
  have n1 : Nw Fz1 H1 Fz1 (upd H1 D (.lst [])) [D] := nw_o F1.tr hD
  have FD := F1.nw n1
  have tD : Tm Fz1 O (upd H1 D (.lst [])) fp1 [D] := F1.nwTm n1
  have FD1 := (FD.ext tD).wipe own
  have sD := F1.nwStp n1
  -- what is hidden
  have hid : ∀ i ∈ own, ∀ v, e1[i]? = some (some v) → ∃ V, σ[i]? = some (some V) ∧ Fzn K Fz1 H1 v V := fun i hi v e => by
    obtain ⟨V, s, o⟩ := F1.sl i v e
    exact ⟨V, s, (o.fzn (hok i hi v e)).2⟩
  refine ⟨fun i m H' => m = xs.length - i ∧ i ≤ xs.length ∧ ∃ env' Fz' fp' acc accV, Stp Fz1 (upd H1 D (.lst [])) O Fz' H' ∧ Fm K Fz' (Oft O [D]) H' env' (wipe σ own) fp' ∧ H' D = some (.lst accV) ∧ FznL K Fz' H' acc accV ∧ pLcL p pt pe own (xs.drop i) acc env' fun acc e2 => Q (.val (.lst true acc)) (unwipe e2 e1 own),
    ⟨xs.length, by simp, Nat.zero_le _, wipeE e1 own, Fz1, _, [], [], .refl, FD1, upd_same, rfl, by simpa using q⟩, ?_⟩
  rintro i m H' ⟨rfl, hle, e2, Fz2, fp2, acc, accV, s2, F2, hDv, hacc, q2⟩
  have agree : ∀ a, Fz1 a → H' a = H1 a := fun a h => (s2.same a (.inl h)).trans (upd_ne (hDF a h))
  obtain ⟨go, st⟩ := J1 Fz2 H' s2.mono agree F2.tr
  by_cases hlt : i < xs.length
  · right
    have e : xs[i]? = some xs[i] := by simp [hlt]
    have ed : xs.drop i = xs[i] :: xs.drop (i + 1) := List.drop_eq_getElem_cons hlt
    obtain ⟨g1, g2⟩ := go i _ e
    rw [ed] at q2
    refine ⟨g1, fun H3 => ∃ env' Fz' fp' acc accV, Stp Fz1 (upd H1 D (.lst [])) O Fz' H3 ∧ Fm K Fz' (Oft O [D]) H3 env' (wipe σ own) fp' ∧ H3 D = some (.lst accV) ∧ FznL K Fz' H3 acc accV ∧ pLcL p pt pe own (xs.drop (i + 1)) acc env' fun acc e2 => Q (.val (.lst true acc)) (unwipe e2 e1 own),
      fun H3 z => ⟨xs.length - (i + 1), by omega, rfl, hlt, z⟩, fun V H3 y => ?_⟩
    obtain ⟨Fz3, n, o⟩ := g2 V H3 y
    have F3 := F2.nw n
    have s3 := s2.trans (F2.nwStp n) fun _ h => .inl h
    refine hg _ V e2 (wipe σ own) H3 Fz3 _ fp2 [] (fun _ => .non) _ _ F3 (fun j hj => by cases hj) o.ow .nil q2 fun e4 σ4 fp4 F4 P4 c4 q4 => ?_
    have ew : wipe σ4 own = wipe σ own := by
      rw [wipe_eq c4.1 (fun j hj => c4.2 j fun z => hj (hts j z))]
      exact wipe_eq (wipe_length _ _) fun j hj => wipe_get hj
    refine ⟨ew, ?_⟩
    have D3 : H3 D = some (.lst accV) := (n.keep D (by rw [hDv]; exact fun z => by cases z)).trans hDv
    have l3 : FznL K Fz3 H3 acc accV := hacc.nw F2.tr n
    refine ht (fun _ _ => False) e4 σ4 H3 Fz3 _ fp4 (fun _ => .non) _ _ F4 (fun j hj => by cases hj) q4 exh0 fun b e5 H5 Fz5 fp5 s5 k5 F5 q5 => ?_
    have D5 : H5 D = some (.lst accV) := (s5.same D (.inr (.inr (by simp)))).trans D3
    have l5 : FznL K Fz5 H5 acc accV := FznL.st s5.mono (fun a h => s5.same a (.inl h)) _ _ l3
    have s35 := s3.trans s5 fun _ h => .inl h
    cases b with
    | false =>
      have F6 := F5.wipe own
      rw [ew] at F6
      exact ⟨_, Fz5, _, acc, accV, s35, F6, D5, l5, q5⟩
    | true =>
      refine he (fun _ _ => False) e5 σ4 H5 Fz5 _ fp5 (fun _ => .non) _ _ F5 (fun j hj => by cases hj) q5 exh0 fun r e6 U H6 Fz6 fp6 f6 s6 k6 F6 r6 t6 q6 => ?_
      obtain ⟨v, e7, Fz7, fp7, g7, s7, k7, F7, o7, u7, hlen, q7⟩ := esc_ok F6 r6 t6 q6
      have D6 : H6 D = some (.lst accV) := (s6.same D (.inr (.inr (by simp)))).trans D5
      have l7 : FznL K Fz7 H6 acc accV := FznL.st s7.mono (fun _ _ => rfl) _ _ (FznL.st s6.mono (fun a h => s6.same a (.inl h)) _ _ l5)
      -- the item is frozen
      have F8 := F7.frz u7
      have z8 : Fzn K (Fft Fz7 g7) H6 (freeze v) U := Ow.frz (fun _ h => .inl h) v U g7 (fun _ h => .inr h) o7
      have l8 : FznL K (Fft Fz7 g7) H6 acc accV := FznL.st (fun _ h => .inl h) (fun _ _ => rfl) _ _ l7
      have nD : ¬ Fft Fz7 g7 D := fun z => (F8.fz D z).1 (.inr (by simp))
      have la : FznL K (Fft Fz7 g7) H6 (acc ++ [freeze v]) (accV ++ [U]) := l8.app z8
      refine ⟨accV, D6, by rw [l8.len]; exact hlen, ?_⟩
      have s9 : Stp Fz1 (upd H1 D (.lst [])) O (Fft Fz7 g7) H6 := ((s35.trans s6 fun _ h => .inl h).trans s7 fun _ h => .inl h).trans ⟨fun _ h => .inl h, fun _ _ => rfl⟩ fun _ h => h
      have nO : ¬ O D := fun z => F1.oo D z hD
      have keep : ∀ a, a ≠ D → upd H6 D (.lst (accV ++ [U])) a = H6 a := fun a h => upd_ne h
      have F9 : Fm K (Fft Fz7 g7) (Oft O [D]) (upd H6 D (.lst (accV ++ [U]))) e7 σ4 fp7 := ⟨F8.len, fun j w ej => by
          obtain ⟨V2, s2', o2⟩ := F8.sl j w ej
          exact ⟨V2, s2', Ow.st (fun _ h => h) (fun a h => keep a fun z => nD (by rw [← z]; exact h)) w V2 _ (fun a h => keep a fun z => (F8.nf j a h).2.1 (.inr (by rw [z]; simp))) o2⟩,
        F8.dj, F8.nd, fun j a h => ⟨(F8.nf j a h).1, (F8.nf j a h).2.1, by rw [keep a fun z => (F8.nf j a h).2.1 (.inr (by rw [z]; simp))]; exact (F8.nf j a h).2.2⟩,
        fun a h => ⟨(F8.fz a h).1, by rw [keep a fun z => nD (by rw [← z]; exact h)]; exact (F8.fz a h).2⟩,
        fun a h => by
          by_cases e : a = D
          · rw [e, upd_same]; exact fun z => by cases z
          · rw [keep a e]; exact F8.oo a h⟩
      have F10 := F9.wipe own
      rw [ew] at F10
      refine ⟨_, Fft Fz7 g7, _, acc ++ [freeze v], accV ++ [U], ⟨s9.mono, fun a h => ?_⟩, F10, upd_same, FznL.st (fun _ h => h) (fun a h => keep a fun z => nD (by rw [← z]; exact h)) _ _ la, q7⟩
      have ne : a ≠ D := h.elim (fun z => hDF a z) fun z w => nO (by rw [← w]; exact z)
      rw [keep a ne]
      exact s9.same a h
  · left
    have e : i = xs.length := by omega
    subst e
    rw [List.drop_length] at q2
    refine ⟨st, ?_⟩
    have sF : Stp Fz H O Fz2 H' := (s1.trans sD fun _ h => h).trans s2 fun _ h => h
    have DF2 : ¬ Fz2 D := fun z => (F2.fz D z).1 (.inr (by simp))
    have FE : Fm K Fz2 O H' (unwipe e2 e1 own) σ (dropAll fp2 own) := ⟨by rw [unwipe_len, F2.len, wipe_length], fun j w ej => by
        rcases unwipe_some ej with ⟨h1, h2⟩ | ⟨h1, h2⟩
        · obtain ⟨V2, s2', o2⟩ := F2.sl j w h2
          refine ⟨V2, by rw [wipe_get h1] at s2'; exact s2', ?_⟩
          unfold dropAll
          rw [if_neg h1]
          exact o2
        · obtain ⟨V2, s2', o2⟩ := hid j h1 w h2
          refine ⟨V2, s2', ?_⟩
          unfold dropAll
          rw [if_pos h1]
          exact (Fzn.st s2.mono agree w V2 o2).ow,
      fun j k a h1 h2 => by
        unfold dropAll at h1 h2
        split at h1 <;> split at h2 <;> first | (cases h1; done) | (cases h2; done) | exact F2.dj j k a h1 h2,
      fun j => by
        unfold dropAll
        split
        · exact List.nodup_nil
        · exact F2.nd j,
      fun j a h => by
        unfold dropAll at h
        split at h
        · cases h
        · exact ⟨(F2.nf j a h).1, fun z => (F2.nf j a h).2.1 (.inl z), (F2.nf j a h).2.2⟩,
      fun a h => ⟨fun z => (F2.fz a h).1 (.inl z), (F2.fz a h).2⟩, fun a h => F2.oo a (.inl h)⟩
    have tE : Tm Fz2 O H' (dropAll fp2 own) [D] := ⟨by simp, fun a h => by
        have e : a = D := by simpa using h
        subst e
        exact ⟨DF2, fun z => F1.oo _ z hD, by rw [hDv]; exact fun z => by cases z⟩, fun a h j z => by
        have e : a = D := by simpa using h
        subst e
        unfold dropAll at z
        split at z
        · cases z
        · exact (F2.nf j _ z).2.1 (.inr (by simp))⟩
    exact hq (.val (.lst true acc)) _ (.ref D) H' Fz2 _ [D] sF (fun z => by cases z) FE ⟨D, accV, rfl, rfl, hDv, hacc⟩ tE q2
end
end Qv
set_option Elab.async false
set_option linter.all false
set_option maxRecDepth 100000
set_option maxHeartbeats 2000000
namespace Qv
open PySem PySem.Spec L2
/-- what a def is, over its arguments: exceptions and results with the lent arguments as they are then -/
abbrev FSp := List Val → (Exc → Env → Prop) → (Val → Env → Prop) → Prop
def lend (m : Bool) (r : Res) (env : Env) (k : Val → Option Nat → Env → Prop) : Prop := match r with
  | .val v => k v none env
  | .pl i => match env[i]? with
    | some (some v) => if m = true then k v (some i) (env.set i none) else k (freeze v) none (env.set i (some (freeze v)))
    | _ => False
def prep : List Bool → List Res → Env → (List Val → List (Option Nat) → Env → Prop) → Prop
  | _, [], env, k => k [] [] env
  | ms, r :: rs, env, k => lend (ms.headD false) r env fun v l e1 => prep ms.tail rs e1 fun vs ls e2 => k (v :: vs) (l :: ls) e2
def wb : List (Option Nat) → Env → Env → Env
  | some i :: ls, some v :: fs, env => wb ls fs (env.set i (some v))
  | some _ :: ls, none :: fs, env => wb ls fs env
  | none :: ls, _ :: fs, env => wb ls fs env
  | _, _, env => env
def fins : List Bool → Env → Env
  | [], _ => []
  | m :: ms, e :: env => (if m = true then e else none) :: fins ms env
  | _ :: ms, [] => none :: fins ms []
def startE (n : Nat) (args : List Val) : Env := args.map some ++ List.replicate (n - args.length) none
def pCall (f : FSp) (ms : List Bool) (dv : List Val) (pa : PAr) : PEx := fun W env Q => pa W env fun rs e1 => prep ms rs e1 fun vs ls e2 =>
  f (vs ++ dv) (fun exc fin => W exc (wb ls fin e2)) fun v fin => Q (.val v) (wb ls fin e2)
def fspOf (n : Nat) (ms : List Bool) (p : PSt) : FSp := fun args Qe Qr => p (fun exc env => Qe exc (fins ms env)) { nx := fun env => Qr .non (fins ms env), rt := fun v env => Qr v (fins ms env) } (startE n args)
def spOf (K : PySem.W.Frag) (ms : List Bool) (f : FSp) : Sp := fun Vs H Q E => ∃ (args : List Val) (Fz O : Addr → Prop) (fp : Nat → List Addr) (Qe : Exc → Env → Prop) (Qr : Val → Env → Prop),
  args.length = ms.length ∧ Fm K Fz O H (args.map some) (Vs.map some) fp ∧ f args Qe Qr ∧
  (∀ v V H' Fz' fp' ft fin, Stp Fz H O Fz' H' → Fm K Fz' O H' fin (Vs.map some) fp' → Ow K Fz' H' v V ft → Tm Fz' O H' fp' ft → Qr v fin → Q V H') ∧
  (∀ exc cls d H' Fz' fp' fin, Stp Fz H O Fz' H' → Fm K Fz' O H' fin (Vs.map some) fp' → ExcR K Fz' H' exc cls d → Qe exc fin → E cls d H')
section
variable {K : PySem.W.Frag} {Fz Fz' Fz2 O O' : Addr → Prop} {H H' H2 : Hp} {env env' : Env} {σ σ' : L2.St} {fp fp' : Nat → List Addr} {ft : List Addr} {pn ts us : List Nat} {pv : Nat → V} {W : WX} {Wp : PX}
variable {fl fl2 fl3 : Bool}
theorem Fm.take {i : Nat} (F : Fm K Fz O H env σ fp) : Fm K Fz O H (env.set i none) σ (drp fp i) ∧ Tm Fz O H (drp fp i) (fp i) := by
  refine ⟨⟨by rw [List.length_set]; exact F.len, fun j w ej => ?_, fun j k a h1 h2 => ?_, fun j => ?_, fun j a h => ?_, F.fz, F.oo⟩, F.nd i, fun a h => F.nf i a h, fun a h j z => ?_⟩
  · by_cases hj : i = j
    · subst hj
      have hi : i < env.length := by
        have z := (List.getElem?_eq_some_iff.mp ej).1
        rw [List.length_set] at z
        exact z
      rw [List.getElem?_set_self hi] at ej
      cases ej
    · rw [List.getElem?_set_ne hj] at ej
      obtain ⟨V2, s2, o2⟩ := F.sl j w ej
      refine ⟨V2, s2, ?_⟩
      unfold drp
      rw [if_neg (fun q => hj q.symm)]
      exact o2
  · unfold drp at h1 h2
    split at h1
    · cases h1
    · split at h2
      · cases h2
      · exact F.dj j k a h1 h2
  · unfold drp
    split
    · exact List.nodup_nil
    · exact F.nd j
  · unfold drp at h
    split at h
    · cases h
    · exact F.nf j a h
  · unfold drp at z
    split at z
    · cases z
    · rename_i hj
      exact hj (F.dj j i a z h)
theorem lend_ok {m : Bool} {r : Res} {V : V} {k : Val → Option Nat → Env → Prop} (F : Fm K Fz O H env σ fp) (x : RR K Fz H σ r V ft) (t : Tm Fz O H fp ft) (h : lend m r env k) :
    ∃ v l e2 Fz2 fp2 ft2, (∀ a, Fz a → Fz2 a) ∧ Fm K Fz2 O H e2 σ fp2 ∧ Ow K Fz2 H v V ft2 ∧ Tm Fz2 O H fp2 ft2 ∧ (∀ i, l = some i → σ[i]? = some (some V)) ∧ (m = false → l = none ∧ Kp Fz2 fp fp2 H H) ∧ k v l e2 := by
  cases r with
  | val v => exact ⟨v, none, env, Fz, fp, ft, fun _ h => h, F, x, t, (fun _ e => by cases e), (fun _ => ⟨rfl, .refl⟩), h⟩
  | pl i =>
    unfold lend at h
    dsimp only at h
    split at h
    · rename_i v e
      obtain ⟨V', s', o⟩ := F.sl i v e
      have s := x.2
      rw [s] at s'
      cases s'
      split at h
      · rename_i hm
        obtain ⟨F1, t1⟩ := F.take (i := i)
        exact ⟨v, some i, _, Fz, _, fp i, fun _ h => h, F1, o, t1, (fun j ej => by cases ej; exact s), (fun e => by rw [hm] at e; cases e), h⟩
      · obtain ⟨F1, z, s1, k1⟩ := F.frzSlot e s
        exact ⟨_, none, _, _, _, [], s1.mono, F1, z.ow, .nil, (fun _ e => by cases e), (fun _ => ⟨rfl, k1⟩), h⟩
    · exact h.elim
def noLent (ms : List Bool) : Bool := ms.all (!·)
theorem prep_ok : ∀ {rs : List Res} {ms : List Bool} {Vs : List V} {k : List Val → List (Option Nat) → Env → Prop} {Fz O : Addr → Prop} {env : Env} {fp : Nat → List Addr} {ft : List Addr}, Fm K Fz O H env σ fp → RRs K Fz H σ rs Vs ft → Tm Fz O H fp ft → prep ms rs env k →
    ∃ vs ls e2 Fz2 fp2 fA, (∀ a, Fz a → Fz2 a) ∧ Fm K Fz2 O H e2 σ fp2 ∧ OwL K Fz2 H vs Vs fA ∧ Tm Fz2 O H fp2 fA ∧ (∀ (j i : Nat), ls[j]? = some (some i) → ∃ V, Vs[j]? = some V ∧ σ[i]? = some (some V)) ∧ (noLent ms = true → (∀ l ∈ ls, l = none) ∧ Kp Fz2 fp fp2 H H) ∧ k vs ls e2
  | [], ms, Vs, k, Fz, O, env, fp, ft, F, x, t, h => by
    obtain ⟨e1, e2⟩ := x
    subst e1 e2
    exact ⟨[], [], env, Fz, fp, [], fun _ h => h, F, ⟨rfl, rfl⟩, .nil, (fun j i e => by cases j <;> cases e), (fun _ => ⟨(fun _ h => by cases h), .refl⟩), h⟩
  | r :: rs, ms, Vs, k, Fz, O, env, fp, ft, F, x, t, h => by
    obtain ⟨V, Ws, f1, f2, e1, e2, x1, x2⟩ := x
    subst e1 e2
    have t2 := t.right
    have tx : Tm Fz (Oft O f2) H fp f1 := ⟨t.left.nd, fun a h => ⟨(t.left.nf a h).1, fun z => z.elim (t.left.nf a h).2.1 fun z => (List.nodup_append.mp t.nd).2.2 a h a z rfl, (t.left.nf a h).2.2⟩, t.left.ds⟩
    obtain ⟨v, l, e1, Fz1, fp1, g1, s1, F1, o1, u1, l1, k1, q1⟩ := lend_ok (F.ext t2) x1 tx h
    have x2' := x2.carry (H' := H) (Fz' := Fz1) (fun _ _ => rfl) s1 fun _ _ => rfl
    have u1' : Tm Fz1 O H fp1 g1 := ⟨u1.nd, fun a h => ⟨(u1.nf a h).1, fun z => (u1.nf a h).2.1 (.inl z), (u1.nf a h).2.2⟩, u1.ds⟩
    have F1' : Fm K Fz1 (Oft O g1) H e1 σ fp1 := (F1.weak fun _ h => .inl h).ext u1'
    have t2' : Tm Fz1 (Oft O g1) H fp1 f2 := ⟨t2.nd, fun a h => ⟨fun z => (F1.fz a z).1 (.inr h), fun z => z.elim (t2.nf a h).2.1 fun z => (u1.nf a z).2.1 (.inr h), (t2.nf a h).2.2⟩, fun a h i z => (F1.nf i a z).2.1 (.inr h)⟩
    obtain ⟨vs, ls, e2, Fz2, fp2, g2, s2, F2, o2, u2, l2, k2, q2⟩ := prep_ok F1' x2' t2' q1
    have st2 : Stp Fz1 H (Oft O g1) Fz2 H := ⟨s2, fun _ _ => rfl⟩
    refine ⟨v :: vs, l :: ls, e2, Fz2, fp2, g1 ++ g2, fun a h => s2 a (s1 a h), F2.weak fun _ h => .inl h, ⟨V, Ws, g1, g2, rfl, rfl, ?_, o2⟩, (u1'.carry st2 F2).app u2, fun j i e => ?_, fun hn => ?_, q2⟩
    · exact Ow.st s2 (fun _ _ => rfl) v V g1 (fun _ _ => rfl) o1
    · cases j with
      | zero => exact ⟨V, rfl, l1 i (Option.some.inj e)⟩
      | succ j => exact l2 j i e
    · have hm : ms.headD false = false ∧ noLent ms.tail = true := by
        cases ms with
        | nil => exact ⟨rfl, rfl⟩
        | cons m ms =>
          obtain ⟨z1, z2⟩ := Bool.and_eq_true_iff.mp (show ((!m) && noLent ms) = true from hn)
          exact ⟨(by cases m <;> first | rfl | cases z1), z2⟩
      obtain ⟨a1, b1⟩ := k1 hm.1
      obtain ⟨a2, b2⟩ := k2 hm.2
      refine ⟨fun y hy => ?_, b1.trans b2 (O := O) ⟨s2, fun _ _ => rfl⟩⟩
      rcases List.mem_cons.mp hy with rfl | hy
      · exact a1
      · exact a2 y hy
/-- owned values in a row, each with its own addresses -/
theorem OwL.split : ∀ {vs : List Val} {Vs : List V} {f : List Addr}, OwL K Fz H vs Vs f → f.Nodup → ∃ fA : Nat → List Addr, Vs.length = vs.length ∧ (∀ j v, vs[j]? = some v → ∃ V, Vs[j]? = some V ∧ Ow K Fz H v V (fA j)) ∧ (∀ i j a, a ∈ fA i → a ∈ fA j → i = j) ∧ (∀ i, (fA i).Nodup) ∧ ∀ i a, a ∈ fA i → a ∈ f
  | [], _, _, o, _ => by
    obtain ⟨e1, e2⟩ := o
    subst e1 e2
    exact ⟨fun _ => [], rfl, fun j v e => (by cases j <;> cases e), fun i j a h => (by cases h), fun _ => List.nodup_nil, fun i a h => (by cases h)⟩
  | v :: vs, _, f, o, hn => by
    obtain ⟨V, Ws, f1, f2, e1, e2, o1, o2⟩ := o
    subst e1 e2
    obtain ⟨n1, n2, n3⟩ := List.nodup_append.mp hn
    obtain ⟨fA, hl, h1, h2, h3, h4⟩ := OwL.split o2 n2
    refine ⟨fun j => match j with
      | 0 => f1
      | j + 1 => fA j, by simp [hl], fun j w e => ?_, fun i j a hi hj => ?_, fun i => ?_, fun i a h => ?_⟩
    · cases j with
      | zero => cases e; exact ⟨V, rfl, o1⟩
      | succ j => exact h1 j w e
    · cases i with
      | zero => cases j with
        | zero => rfl
        | succ j => exact absurd rfl (n3 a hi a (h4 j a hj))
      | succ i => cases j with
        | zero => exact absurd rfl (n3 a hj a (h4 i a hi))
        | succ j => rw [h2 i j a hi hj]
    · cases i with
      | zero => exact n1
      | succ i => exact h3 i
    · cases i with
      | zero => exact List.mem_append_left _ h
      | succ i => exact List.mem_append_right _ (h4 i a h)
theorem FznL.ows : ∀ {xs : List Val} {vs : List V}, FznL K Fz H xs vs → OwL K Fz H xs vs []
  | [], _, h => ⟨h, rfl⟩
  | x :: xs, _, h => by
    obtain ⟨v, r, e, h1, h2⟩ := h
    exact ⟨v, r, [], [], e, rfl, h1.ow, FznL.ows h2⟩
theorem OwL.app : ∀ {vs ws : List Val} {Vs Ws : List V} {f g : List Addr}, OwL K Fz H vs Vs f → OwL K Fz H ws Ws g → OwL K Fz H (vs ++ ws) (Vs ++ Ws) (f ++ g)
  | [], _, _, _, _, _, o, o' => by
    obtain ⟨e1, e2⟩ := o
    subst e1 e2
    exact o'
  | v :: vs, ws, _, Ws, _, g, o, o' => by
    obtain ⟨V, Us, f1, f2, e1, e2, o1, o2⟩ := o
    subst e1 e2
    exact ⟨V, Us ++ Ws, f1, f2 ++ g, rfl, by rw [List.append_assoc], o1, OwL.app o2 o'⟩
/-- the lent values come back -/
theorem wb_ok : ∀ {ls : List (Option Nat)} {fin : Env} {Vs : List V} {fF : Nat → List Addr} {env : Env} {fp : Nat → List Addr}, Fm K Fz O H env σ fp →
    (∀ j v, fin[j]? = some (some v) → ∃ V, Vs[j]? = some V ∧ Ow K Fz H v V (fF j)) → (∀ i j a, a ∈ fF i → a ∈ fF j → i = j) → (∀ j, Tm Fz O H fp (fF j)) →
    (∀ (j i : Nat), ls[j]? = some (some i) → ∃ V, Vs[j]? = some V ∧ σ[i]? = some (some V)) → ∃ fp', Fm K Fz O H (wb ls fin env) σ fp' ∧ ∀ i a, a ∈ fp' i → a ∈ fp i ∨ ∃ j, a ∈ fF j
  | [], fin, Vs, fF, env, fp, F, _, _, _, _ => ⟨fp, by unfold wb; exact F, fun i a h => .inl h⟩
  | l :: ls, [], Vs, fF, env, fp, F, _, _, _, _ => ⟨fp, by cases l <;> (unfold wb; exact F), fun i a h => .inl h⟩
  | none :: ls, x :: fin, Vs, fF, env, fp, F, h1, h2, h3, h4 => by
    unfold wb
    cases Vs with
    | nil =>
      obtain ⟨fp', a1, a2⟩ := wb_ok (ls := ls) (fin := fin) (Vs := []) (fF := fun j => fF (j + 1)) F (fun j v e => h1 (j + 1) v e) (fun i j a hi hj => by have z := h2 _ _ a hi hj; omega) (fun j => h3 _) (fun j i e => h4 (j + 1) i e)
      exact ⟨fp', a1, fun i a h => (a2 i a h).imp id fun ⟨j, z⟩ => ⟨j + 1, z⟩⟩
    | cons V Vs =>
      obtain ⟨fp', a1, a2⟩ := wb_ok (ls := ls) (fin := fin) (Vs := Vs) (fF := fun j => fF (j + 1)) F (fun j v e => h1 (j + 1) v e) (fun i j a hi hj => by have z := h2 _ _ a hi hj; omega) (fun j => h3 _) (fun j i e => h4 (j + 1) i e)
      exact ⟨fp', a1, fun i a h => (a2 i a h).imp id fun ⟨j, z⟩ => ⟨j + 1, z⟩⟩
  | some i :: ls, none :: fin, Vs, fF, env, fp, F, h1, h2, h3, h4 => by
    unfold wb
    obtain ⟨V, e, s⟩ := h4 0 i rfl
    cases Vs with
    | nil => cases e
    | cons V Vs =>
      obtain ⟨fp', a1, a2⟩ := wb_ok (ls := ls) (fin := fin) (Vs := Vs) (fF := fun j => fF (j + 1)) F (fun j v e => h1 (j + 1) v e) (fun i j a hi hj => by have z := h2 _ _ a hi hj; omega) (fun j => h3 _) (fun j i e => h4 (j + 1) i e)
      exact ⟨fp', a1, fun i a h => (a2 i a h).imp id fun ⟨j, z⟩ => ⟨j + 1, z⟩⟩
  | some i :: ls, some v :: fin, Vs, fF, env, fp, F, h1, h2, h3, h4 => by
    unfold wb
    obtain ⟨V, e, s⟩ := h4 0 i rfl
    obtain ⟨V', e', o⟩ := h1 0 v rfl
    rw [e] at e'
    cases e'
    cases Vs with
    | nil => cases e
    | cons V0 Vs =>
      cases e
      have F1 := F.set (i := i) o (h3 0)
      have es : σ.set i (some V) = σ := by
        apply List.ext_getElem?
        intro j
        by_cases hj : i = j
        · subst hj
          rw [List.getElem?_set_self (List.getElem?_eq_some_iff.mp s).1, s]
        · rw [List.getElem?_set_ne hj]
      rw [es] at F1
      obtain ⟨fp', a1, a2⟩ := wb_ok (ls := ls) (fin := fin) (Vs := Vs) (fF := fun j => fF (j + 1)) F1 (fun j v e => h1 (j + 1) v e) (fun i j a hi hj => by have z := h2 _ _ a hi hj; omega)
        (fun j => ⟨(h3 (j + 1)).nd, (h3 (j + 1)).nf, fun a ha k z => by
          unfold put at z
          split at z
          · have w := h2 _ _ a ha z
            omega
          · exact (h3 (j + 1)).ds a ha k z⟩) (fun j i e => h4 (j + 1) i e)
      refine ⟨fp', a1, fun k a h => ?_⟩
      rcases a2 k a h with z | ⟨j, z⟩
      · unfold put at z
        split at z
        · exact .inr ⟨0, z⟩
        · exact .inl z
      · exact .inr ⟨j + 1, z⟩
theorem wb_none : ∀ {ls : List (Option Nat)} {fin env : Env}, (∀ l ∈ ls, l = none) → wb ls fin env = env
  | [], _, _, _ => by unfold wb; rfl
  | l :: ls, [], _, h => by cases l <;> (unfold wb; rfl)
  | l :: ls, x :: fin, env, h => by
    cases h l (by simp)
    unfold wb
    exact wb_none fun y hy => h y (List.mem_cons_of_mem _ hy)
theorem sim_call {f : FSp} {ms : List Bool} {dv : List Val} {dvs : List V} {tA : TA} {pA : PAr} (ha : SimA K W pn fl tA pA) (hd : ∀ Fz H, FznL K Fz H dv dvs) (hml : ∀ vs Qe Qr, f vs Qe Qr → vs.length = ms.length) :
    SimE K W pn (fl && noLent ms) (tCallSD (spOf K ms f) dvs (WE W) tA) (pCall f ms dv pA) := by
  intro Wp env σ H Fz O fp pv Q Q' F P hp hx hq
  refine ha Wp env σ H Fz O fp pv _ _ F P hp hx fun rs e1 Vs H1 Fz1 fp1 f1 s k F1 r1 t q => ?_
  obtain ⟨vs, ls, e2, Fz2, fp2, fA0, m2, F2, o2, u2, l2, k2, q2⟩ := prep_ok F1 r1 t q
  have oA : OwL K Fz2 H1 (vs ++ dv) (Vs ++ dvs) (fA0 ++ []) := o2.app (hd Fz2 H1).ows
  rw [List.append_nil] at oA
  obtain ⟨fA, hlA, a1, a2, a3, a4⟩ := oA.split u2.nd
  -- the callee's frame: what is the caller's own is outside
  have s2 : Stp Fz1 H1 O Fz2 H1 := ⟨m2, fun _ _ => rfl⟩
  have FA : Fm K Fz2 (fun a => O a ∨ ∃ i, a ∈ fp2 i) H1 ((vs ++ dv).map some) ((Vs ++ dvs).map some) fA := ⟨by rw [List.length_map, List.length_map, hlA], fun j w e => by
      rw [List.getElem?_map] at e
      cases z : (vs ++ dv)[j]? with
      | none => rw [z] at e; cases e
      | some w' =>
        rw [z] at e
        cases e
        obtain ⟨V, e2, o⟩ := a1 j w z
        exact ⟨V, by rw [List.getElem?_map, e2] <;> rfl, o⟩, a2, a3,
    fun j a h => ⟨(u2.nf a (a4 j a h)).1, fun z => z.elim (u2.nf a (a4 j a h)).2.1 fun ⟨i, z⟩ => u2.ds a (a4 j a h) i z, (u2.nf a (a4 j a h)).2.2⟩,
    fun a h => ⟨fun z => z.elim (F2.fz a h).1 fun ⟨i, z⟩ => (F2.nf i a z).1 h, (F2.fz a h).2⟩, fun a h => h.elim (F2.oo a) fun ⟨i, z⟩ => (F2.nf i a z).2.2⟩
  have hlV : Vs.length = vs.length := by
    obtain ⟨_, z, _⟩ := o2.split u2.nd
    exact z
  have back : ∀ {H' : Hp} {Fz' : Addr → Prop} {fp' : Nat → List Addr} {fin : Env}, Stp Fz2 H1 (fun a => O a ∨ ∃ i, a ∈ fp2 i) Fz' H' → Fm K Fz' (fun a => O a ∨ ∃ i, a ∈ fp2 i) H' fin ((Vs ++ dvs).map some) fp' → ∃ fp3, Fm K Fz' O H' (wb ls fin e2) σ fp3 ∧ (∀ i a, a ∈ fp3 i → a ∈ fp2 i ∨ ∃ j, a ∈ fp' j) ∧ (noLent ms = true → fp3 = fp2) := by
    intro H' Fz' fp' fin s' F'
    have F2' : Fm K Fz' O H' e2 σ fp2 := ⟨F2.len, fun j w e => by
        obtain ⟨V, z, o⟩ := F2.sl j w e
        exact ⟨V, z, Ow.st s'.mono (fun a h => s'.same a (.inl h)) w V _ (fun a h => s'.same a (.inr (.inr ⟨j, h⟩))) o⟩, F2.dj, F2.nd,
      fun j a h => ⟨fun z => (F'.fz a z).1 (.inr ⟨j, h⟩), (F2.nf j a h).2.1, by rw [s'.same a (.inr (.inr ⟨j, h⟩))]; exact (F2.nf j a h).2.2⟩,
      fun a h => ⟨fun z => (F'.fz a h).1 (.inl z), (F'.fz a h).2⟩, fun a h => F'.oo a (.inl h)⟩
    by_cases hn : noLent ms = true
    · obtain ⟨z, _⟩ := k2 hn
      exact ⟨fp2, by rw [wb_none z]; exact F2', fun i a h => .inl h, fun _ => rfl⟩
    · obtain ⟨fp3, b1, b2⟩ := wb_ok (ls := ls) (fin := fin) (Vs := Vs ++ dvs) (fF := fp') F2' (fun j v e => by
          obtain ⟨V, z, o⟩ := F'.sl j v e
          rw [List.getElem?_map] at z
          cases y : (Vs ++ dvs)[j]? with
          | none => rw [y] at z; cases z
          | some V' => rw [y] at z; cases z; exact ⟨_, rfl, o⟩) F'.dj (fun j => ⟨F'.nd j, fun a h => ⟨(F'.nf j a h).1, fun z => (F'.nf j a h).2.1 (.inl z), (F'.nf j a h).2.2⟩, fun a h i z => (F'.nf j a h).2.1 (.inr ⟨i, z⟩)⟩)
          (fun j i e => by
            obtain ⟨V, z1, z2⟩ := l2 j i e
            exact ⟨V, by rw [List.getElem?_append_left (List.getElem?_eq_some_iff.mp z1).1]; exact z1, z2⟩)
      exact ⟨fp3, b1, b2, fun z => absurd z hn⟩
  refine ⟨vs ++ dv, Fz2, _, fA, _, _, hml _ _ _ q2, FA, q2, ?_, ?_⟩
  · intro v V H' Fz' fp' ft fin s' F' o t' z
    obtain ⟨fp3, b1, b2, b3⟩ := back s' F'
    have s'' : Stp Fz2 H1 O Fz' H' := ⟨s'.mono, fun a h => s'.same a (h.imp id .inl)⟩
    refine hq (.val v) _ V H' Fz' fp3 ft ((s.trans s2 fun _ h => h).trans s'' fun _ h => h) (fun e => ?_) b1 o ⟨t'.nd, fun a h => ⟨(t'.nf a h).1, fun z => (t'.nf a h).2.1 (.inl z), (t'.nf a h).2.2⟩, fun a h i z => (b2 i a z).elim (fun z => (t'.nf a h).2.1 (.inr ⟨i, z⟩)) fun ⟨j, z⟩ => t'.ds a h j z⟩ z
    obtain ⟨e1, e2⟩ := Bool.and_eq_true_iff.mp e
    rw [b3 e2]
    refine ((k e1).trans (k2 e2).2 s2).trans (fun i a h => ⟨s'.same a (.inr (.inr ⟨i, h⟩)), .inl h⟩) s''
  · intro exc cls d H' Fz' fp' fin s' F' x z
    obtain ⟨fp3, b1, b2, b3⟩ := back s' F'
    have s'' : Stp Fz2 H1 O Fz' H' := ⟨s'.mono, fun a h => s'.same a (h.imp id .inl)⟩
    exact hx exc _ cls d σ H' Fz' fp3 ((s.trans s2 fun _ h => h).trans s'' fun _ h => h) b1 P x z
/-! ### a def keeps its promise -/
theorem fins_len : ∀ (ms : List Bool) (env : Env), (fins ms env).length = ms.length
  | [], _ => rfl
  | m :: ms, e :: env => by unfold fins; rw [List.length_cons, List.length_cons, fins_len ms env]
  | m :: ms, [] => by unfold fins; rw [List.length_cons, List.length_cons, fins_len ms []]
theorem fins_some : ∀ {ms : List Bool} {env : Env} {j : Nat} {v : Val}, (fins ms env)[j]? = some (some v) → ms[j]? = some true ∧ env[j]? = some (some v)
  | [], _, j, v, h => by cases j <;> cases h
  | m :: ms, e :: env, 0, v, h => by
    unfold fins at h
    have h2 : (if m = true then e else none) = some v := Option.some.inj h
    split at h2
    · rename_i hm
      exact ⟨by rw [hm] <;> rfl, by rw [h2] <;> rfl⟩
    · cases h2
  | m :: ms, e :: env, j + 1, v, h => by
    unfold fins at h
    exact fins_some (ms := ms) (env := env) h
  | m :: ms, [], 0, v, h => by unfold fins at h; cases h
  | m :: ms, [], j + 1, v, h => by
    unfold fins at h
    obtain ⟨h1, h2⟩ := fins_some (ms := ms) (env := []) (j := j) h
    cases h2
/-- the places of the lent parameters -/
def lentAt (ms : List Bool) : List Nat := (List.range ms.length).filter fun j => ms.getD j false
theorem lentAt_mem {ms : List Bool} {j : Nat} : j ∈ lentAt ms ↔ ms[j]? = some true := by
  unfold lentAt
  rw [List.mem_filter, List.mem_range, List.getD_eq_getElem?_getD]
  constructor
  · rintro ⟨h1, h2⟩
    cases e : ms[j]? with
    | none => rw [e] at h2; cases h2
    | some b => rw [e] at h2; exact congrArg some h2
  · intro h
    exact ⟨(List.getElem?_eq_some_iff.mp h).1, by rw [h] <;> rfl⟩
theorem fspOf_len {n : Nat} {ms : List Bool} {p : PSt} {args : List Val} {Qe : Exc → Env → Prop} {Qr : Val → Env → Prop} (h : fspOf n ms p args Qe Qr) : True := trivial
/-- the same, over so many arguments alone -/
def fspN (n : Nat) (ms : List Bool) (p : PSt) : FSp := fun args Qe Qr => args.length = ms.length ∧ fspOf n ms p args Qe Qr
theorem fspN_len {n : Nat} {ms : List Bool} {p : PSt} : ∀ vs Qe Qr, fspN n ms p vs Qe Qr → vs.length = ms.length := fun _ _ _ h => h.1
theorem fn_sim {N : List Str} {ms : List Bool} {t : TS} {p : PSt} {Vs : List V} {H : Hp} {Q : VK} {E : XK} (hm : ms.length ≤ N.length) (h : SimS K (fun cls d _ H => E cls d H) (lentAt ms) t p) (hs : spOf K ms (fspN N.length ms p) Vs H Q E) :
    t { nx := fun _ H' => Q .non H', rt := Q } (L2.start N Vs) H := by
  obtain ⟨args, Fz, O, fp, Qe, Qr, hl, F, ⟨_, hf⟩, hr, he⟩ := hs
  have hlV : Vs.length = args.length := by
    have z := F.len
    rw [List.length_map, List.length_map] at z
    exact z.symm
  have F0 : Fm K Fz O H (startE N.length args) (L2.start N Vs) fp := by
    refine ⟨?_, fun j v e => ?_, F.dj, F.nd, F.nf, F.fz, F.oo⟩
    · unfold startE L2.start
      rw [List.length_append, List.length_append, List.length_map, List.length_map, List.length_replicate, List.length_replicate, hlV]
    · skip
      unfold startE at e
      by_cases hj : j < args.length
      · rw [List.getElem?_append_left (by rw [List.length_map]; exact hj)] at e
        obtain ⟨V, z, o⟩ := F.sl j v e
        refine ⟨V, ?_, o⟩
        unfold L2.start
        rw [List.getElem?_append_left (by rw [List.length_map]; omega)]
        exact z
      · rw [List.getElem?_append_right (by rw [List.length_map]; omega), List.getElem?_replicate] at e
        split at e <;> cases e
  have P0 : Pin (lentAt ms) (fun j => Vs.getD j .non) (L2.start N Vs) := fun j hj => by
    have z := (List.getElem?_eq_some_iff.mp (lentAt_mem.mp hj)).1
    unfold L2.start
    have hj2 : j < Vs.length := by omega
    show (_ : L2.St)[j]? = some (some (Vs.getD j .non))
    rw [List.getElem?_append_left (by rw [List.length_map]; omega), List.getElem?_map, List.getD_eq_getElem?_getD, List.getElem?_eq_getElem hj2] <;> rfl
  have fin : ∀ {env' : Env} {σ' : L2.St} {H' : Hp} {Fz' : Addr → Prop} {fp' : Nat → List Addr}, Fm K Fz' O H' env' σ' fp' → Pin (lentAt ms) (fun j => Vs.getD j .non) σ' → Fm K Fz' O H' (fins ms env') (Vs.map some) fp' := by
    intro env' σ' H' Fz' fp' F' P'
    refine ⟨by rw [fins_len, List.length_map, hlV, hl], fun j v e => ?_, F'.dj, F'.nd, F'.nf, F'.fz, F'.oo⟩
    obtain ⟨h1, h2⟩ := fins_some e
    obtain ⟨V, z, o⟩ := F'.sl j v h2
    have z2 := P' j (lentAt_mem.mpr h1)
    rw [z] at z2
    have hj2 : j < Vs.length := by
      have y := (List.getElem?_eq_some_iff.mp h1).1
      omega
    refine ⟨V, ?_, o⟩
    have z3 : some (some V) = some (some (Vs.getD j .non)) := z2
    rw [List.getD_eq_getElem?_getD, List.getElem?_eq_getElem hj2] at z3
    cases z3
    rw [List.getElem?_map, List.getElem?_eq_getElem hj2] <;> rfl
  refine h _ _ (startE N.length args) (L2.start N Vs) H Fz O fp (fun j => Vs.getD j .non) _ F0 P0 hf ?_ ?_ ?_ ?_ ?_
  · intro exc env' cls d σ' H' Fz' fp' s F' P' x z
    exact he exc cls d H' Fz' fp' _ s (fin F' P') x z
  · intro env' σ' H' Fz' fp' s F' P' z
    exact hr .non .non H' Fz' fp' [] _ s (fin F' P') ⟨rfl, rfl⟩ .nil z
  · intro v V env' σ' H' Fz' fp' ft s F' P' o t' z
    exact hr v V H' Fz' fp' ft _ s (fin F' P') o t' z
  · intro env' σ' H' Fz' fp' s F' P' z
    exact z.elim
  · intro env' σ' H' Fz' fp' s F' P' z
    exact z.elim
theorem fn_ok {P : Program} {w : World} {mg : Str → Option Value} {base : Heap} {x qual : Str} {params : Arguments} {body : List Stmt} {scope : Scope} {dvs : List V} {kws : List (Str × V)} {f : Addr} {fd : FuncData} {N ps : List Str} {k : Nat} {ms : List Bool} {p : PSt}
    (F : FunD K x qual params body scope dvs kws f fd) (S : FnScope N ps scope) (hm : ms.length = ps.length) (hN : ms.length ≤ N.length)
    (hbody : ∀ (cdv : Value) (A : Around) (outer : List PySem.Env) (s : Shared) (H : Hp) (E : XK), Room k (A.deeper (PyProof.Rows.envOfC qual scope s.heap.objs.size f cdv)) →
      ∃ t, PSs (cxOf (L2.CX P w) P w K mg base N qual scope f cdv A outer s H E) body t ∧ SimS K (fun cls d _ H => E cls d H) (lentAt ms) t p) :
    FnOk P w K mg base (L2.CX P w) (k + 1) f fd ps (spOf K ms (fspN N.length ms p)) := by
  refine F.ok S (fun vs H Q E h => ?_) (fun cdv A outer s H vs Q E hr h => ?_)
  · obtain ⟨args, Fz, O, fp, Qe, Qr, hl, Fm1, _⟩ := h
    have z := Fm1.len
    rw [List.length_map, List.length_map] at z
    omega
  · obtain ⟨t, h1, h2⟩ := hbody cdv A outer s H E hr
    exact ⟨t, h1, fn_sim hN h2 h⟩
end
end Qv
set_option Elab.async false
set_option linter.all false
set_option maxRecDepth 100000
set_option maxHeartbeats 2000000
namespace Qv
open PySem PySem.Spec PyProof.Rows L2
/-! ### a def's promise where nothing is being shown around it (repr asks that) -/
structure FnG (P : Program) (w : World) (K : PySem.W.Frag) (mg : Str → Option Value) (base : Heap) (k : Nat) (f : Addr) (fd : FuncData) (ps : List Str) (sp : Sp) : Prop where
  len : ∀ vs H Q E, sp vs H Q E → vs.length = ps.length
  run : ∀ (A : Around) (fr : List PySem.Env) (s : Shared) (H : Hp) (ar : Args) (us : List Value) (vs : List V) (Q : VK) (E : XK), Room k A → A.guards = some [] → Env0 P w K mg base A fr s H → BindsTo s fd ar (ps.zip us) → Vals vs us → sp vs H Q E →
    codeAny (model P w) A (.call (.ref f) ar) (CR (L2.CX P w) fr P w H s Q E) s
section
variable {P : Program} {w : World} {K : PySem.W.Frag} {mg : Str → Option Value} {base : Heap}
theorem FnG.mono {j k : Nat} {f : Addr} {fd : FuncData} {ps : List Str} {sp : Sp} (F : FnG P w K mg base j f fd ps sp) (h : j ≤ k) : FnG P w K mg base k f fd ps sp :=
  ⟨F.len, fun A fr s H ar us vs Q E hr => F.run A fr s H ar us vs Q E (hr.mono h)⟩
theorem FnG.of {x qual : Str} {params : Arguments} {body : List Stmt} {scope : Scope} {dvs : List V} {kws : List (Str × V)} {f : Addr} {fd : FuncData} {N ps : List Str} {k : Nat} {sp : Sp} (F : FunD K x qual params body scope dvs kws f fd) (S : FnScope N ps scope)
    (len : ∀ vs H Q E, sp vs H Q E → vs.length = ps.length)
    (hbody : ∀ (cdv : Value) (A : Around) (fr : List PySem.Env) (s : Shared) (H : Hp) (vs : List V) (Q : VK) (E : XK), Room k (A.deeper (PyProof.Rows.envOfC qual scope s.heap.objs.size f cdv)) → A.guards = some [] → sp vs H Q E →
      ∃ t, PSs (cxOf (L2.CX P w) P w K mg base N qual scope f cdv A fr s H E) body t ∧ t { nx := fun _ H' => Q .non H', rt := Q } (L2.start N vs) H) : FnG P w K mg base (k + 1) f fd ps sp := by
  obtain ⟨oc, od, dV, kV, doc, pm, an, cdv, ct, osl, efd, lk, hcd, _, _⟩ := F.ex
  subst efd
  refine ⟨len, fun A fr s H ar us vs Q E hr hg e0 hb r hsp => ?_⟩
  have n0 := len vs H Q E hsp
  have in0 : K.In s.heap := e0.mod.kin.keeps fun b o z => (e0.bs b o z).1
  have par : ∀ y ∈ ps.zip us, scope.names.lookup y.1 = some .local ∨ (scope.names.lookup y.1 = some .cell ∧ ((cellsFrom (s.heap.objs.size + 1) scope.names []).lookup y.1).isSome = true) := by
    rintro ⟨n, v⟩ hy
    exact (S.par n (List.of_mem_zip hy).1).imp id fun z => ⟨z, PySem.W.cellsFrom_some _ _ _ (.inl z)⟩
  apply codeAny_call_function hr.depth (in0 _ _ lk) rfl S.co S.gen rfl (PySem.W.codeRec_of in0 hcd)
  apply hb
  refine wpAny_newFunctionEnv_cells S.kind par fun env he s1 x => ?_
  subst he
  refine ⟨(e0.mod.nolimit.keeps fun b o z => (e0.bs b o z).1).keeps x.toInCall.keep, codeAny_func ?_⟩
  obtain ⟨t, ht, hq⟩ := hbody cdv A fr s H vs Q E (hr.deeper _) hg hsp
  refine wpAny_mono (ht.run [] s1 _ H _ (inv_start S hr.hd e0 n0 r x) hq) (fun fl s' hs => ?_) fun e s' hs => hs
  cases fl with
  | next => obtain ⟨σ', H', J, q⟩ := hs; exact ⟨.non, H', J.os, J.bare, J.base, J.hok, rfl, q⟩
  | ret u => obtain ⟨v, σ', H', J, rv, q⟩ := hs; exact ⟨v, H', J.os, J.bare, J.base, J.hok, rv, q⟩
  | brk => obtain ⟨_, _, _, q⟩ := hs; exact q.elim
  | cont => obtain ⟨_, _, _, q⟩ := hs; exact q.elim
end
section
variable {X : Cx} {k : Nat} {f : Addr} {fd : FuncData} {ps : List Str} {sp : Sp} {dvs : List V} {ds : List Value} {E : L2.St → XK} {x : Str} {p pos : Pos} {e : Expr} {es : List Expr} {t : TA}
theorem run_G {pins : List (Addr × Obj)} {σ : L2.St} {H : Hp} {s : Shared} {Q : VK} {us : List Value} {vs : List V} (F : FnG X.prog X.w X.K X.mg X.base k f fd ps sp) (hr : Room k X.A) (hg : X.A.guards = some []) (hb : Binds X.K fd ps ds) (hd : Vals dvs ds) (hx : PassesAt (L2.CX X.prog X.w) X σ (E σ))
    (I : Inv X pins σ H s) (r : Vals vs us) (h : sp (vs ++ dvs) H Q (E σ)) : wpAny (model X.prog X.w) X.A (call (.ref f) us) (EP X pins σ Q) X.xe s := by
  have both : Vals (vs ++ dvs) (us ++ ds) := Vals.append r hd
  have n0 : (us ++ ds).length = ps.length := (Vals.length both).symm.trans (F.len _ _ _ _ h)
  refine wpAny_call (codeAny_mono (F.run X.A X.stack s H ⟨us, []⟩ _ _ Q (E σ) hr hg I.env0 (hb s us I.kIn n0) both h) fun q s' hq => ?_)
  match q, hq with
  | .error e, hq => exact hx pins H s e s' I hq
  | .ok (.ret u), hq => exact I.after hq
  | .ok .next, hq => exact hq.elim
  | .ok .brk, hq => exact hq.elim
  | .ok .cont, hq => exact hq.elim
/-- f(e, ..) -/
theorem pe_callG (F : FnG X.prog X.w X.K X.mg X.base k f fd ps sp) (hr : Room k X.A) (hgu : X.A.guards = some []) (hg : Gl X x) (hm : X.mg x = some (.ref f)) (hk : PySem.W.keepIn X.K (.ref f) = true) (hb : Binds X.K fd ps ds) (hd : Vals dvs ds) (hx : ∀ σ, PassesAt (L2.CX X.prog X.w) X σ (E σ))
    (ha : PA X (e :: es) t) (hdb : (x == ("__debug__" : Str)) = false := by decide) (he : starEach (e :: es) X.env = (false, eval e X.env) :: starEach es X.env := by rfl) (hpl : (backTo pos (starEach es X.env)).any (·.1) = false := by rfl) :
    PE X (.Call (.Name x p) (e :: es) [] pos) (tCallSD sp dvs E t) :=
  ⟨fun pins s σ H Q I h => wpAny_Call_Name_kw (ld_glob I hg hm (PySem.W.callWith_K (h₀ := X.base) I.ok.mod.kin hk (thn (ha.run pos pins s σ H _ I h) fun us s1 hh => by
    obtain ⟨vs, H1, I1, r, q⟩ := hh
    exact ⟨I1.kIn, run_G F hr hgu hb hd (hx σ) I1 r q⟩) he hpl) hdb)⟩
end
/-! ### the law's end -/
theorem law_callG {P : Program} {w : World} {K : PySem.W.Frag} {mg mb : Str → Option Value} {k : Nat} {fa a : Addr} {fd : FuncData} {x : Str} {sp : Sp} {s1 : Shared} {vs : List Value} {ns : List Int}
    (KX : K.In s1.heap) (hns : s1.heap.Ns mainGlobals mg) (hb : s1.heap.Ns builtinsNs mb) (hbb : ∀ x : Str, x ≠ "__name__" → mb x = bootBuiltins x) (hlim : s1.heap.NoLimit) (hg : s1.gens = #[])
    (ha : s1.heap.get? a = some { cls := .type "list", data := .seq vs.toArray }) (hi : IntsAre vs ns) (hl : ns.length ≤ sizeLine) (hr : Room k callerA)
    (F : ∀ base : Heap, K.In base → base.Ns mainGlobals mg → FnG P w K mg base k fa fd [x] sp) (hbind : ∀ (s : Shared) (u : Value), BindsTo s fd ⟨[u], []⟩ [(x, u)])
    (hsp : ∀ H : Hp, Only H → SqL K H a (ns.map V.int) → sp [.ref a] H (fun v _ => v = .bl true) fun _ _ _ => False) :
    codeAny (model P w) callerA (.call (.ref fa) ⟨[.ref a], []⟩) (fun r s' => r = .ok (.ret (.bool true)) ∧ OldK s1.heap s'.heap ∧ s'.os = s1.os ∧ AllBare s'.gens) s1 := by
  have rv := vals_ints hi
  -- the abstract heap at the entry: the script, locked, where it is not the top's own
  obtain ⟨H, hO, hS, hok, hA, hK⟩ : ∃ H : Hp, Only H ∧ SqL K H a (ns.map V.int) ∧ HOk P w H s1.heap ∧ (∀ b, H b ≠ none → b = a) ∧ (H a ≠ none → K.lookup a = none) := by
    cases hk : K.lookup a with
    | some o =>
      have e : o = { cls := .type "list", data := .seq vs.toArray } := Option.some.inj ((KX a o hk).symm.trans ha)
      subst e
      exact ⟨fun _ => none, fun _ => .inl rfl, .inr ⟨_, vs.toArray, _, hk, rfl, rfl, rfl, by rw [List.size_toArray, hi.length]; exact hl, by simpa using rv⟩, fun b u z => (by cases z), fun b z => absurd rfl z, fun z => absurd rfl z⟩
    | none =>
      refine ⟨upd (fun _ => none) a (.frz { cls := .type "list", data := .seq vs.toArray } (.lst (ns.map V.int))), fun b => ?_, .inl (.inr ⟨_, upd_same⟩), fun b u z => ?_, fun b z => ?_, fun _ => rfl⟩
      · by_cases e : b = a
        · subst e; exact .inr ⟨_, _, upd_same⟩
        · exact .inl (upd_ne e)
      · by_cases e : b = a
        · subst e
          rw [upd_same] at z
          cases z
          exact ⟨ha, by rw [List.length_map]; exact hl, vs, _, rv, ha⟩
        · rw [upd_ne e] at z; cases z
      · by_cases e : b = a
        · exact e
        · exact absurd (upd_ne e) z
  have dicts : ∀ {b : Addr} {m : Str → Option Value}, s1.heap.Ns b m → (hidT s1.heap H).Ns b m := by
    rintro b m ⟨o, es, ep, e, d, r⟩
    refine ⟨o, es, ep, hidT_get e ?_, d, r⟩
    cases q : H b with
    | none => rfl
    | some u =>
      have eb := hA b (by rw [q]; exact fun z => by cases z)
      rw [eb, ha] at e
      cases e
      exact absurd d (fun z => by cases z)
  have kin : K.In (hidT s1.heap H) := fun b o e => hidT_get (KX b o e) (by
    cases q : H b with
    | none => rfl
    | some u =>
      have eb := hA b (by rw [q]; exact fun z => by cases z)
      rw [eb, hK (by rw [← eb, q]; exact fun z => by cases z)] at e
      cases e)
  have lim2 : (hidT s1.heap H).NoLimit := by
    obtain ⟨mc, h1, h2⟩ := hlim
    exact ⟨mc, dicts h1, h2⟩
  have e0 : Env0 P w K mg (hidT s1.heap H) callerA [] s1 H := ⟨rfl, ⟨kin, dicts hns, ⟨mb, dicts hb, hbb⟩, lim2⟩, fun b o e => of_hidT e, Nat.le_of_eq (hidT_size _ _), trivial, (fun b hb => by cases hb), hok, .of_eq hg⟩
  refine codeAny_mono ((F _ kin (dicts hns)).run callerA [] s1 H ⟨[.ref a], []⟩ [.ref a] [.ref a] _ _ hr rfl e0 (hbind s1 (.ref a)) (.cons rfl .nil) (hsp H hO hS)) fun r s' h => ?_
  match r, h with
  | .error e, h =>
    obtain ⟨_, _, _, _, _, _, _, _, _, _, _, _, z⟩ := h
    exact z.elim
  | .ok .next, h => exact h.elim
  | .ok .brk, h => exact h.elim
  | .ok .cont, h => exact h.elim
  | .ok (.ret u), h =>
    obtain ⟨v, H', os, bare, un, hok', r', q⟩ := h
    have ev : v = .bl true := q
    subst ev
    have eu : u = Value.bool true := r'
    subst eu
    refine ⟨rfl, OldK.of_keep fun b o e => ?_, os, bare⟩
    cases q : H b with
    | none => exact un.keep b o e q (fun z => by cases z) (fun z => by cases z)
    | some u =>
      obtain ⟨ob, xs, z⟩ := (hO b).resolve_left (by rw [q]; exact fun z => by cases z)
      have h1 := (hok b _ z).1
      have h2 := (hok' b _ (un.frzs b ob _ z)).1
      rw [e] at h1
      cases h1
      exact h2
theorem walk_G {l : PySem.W.OpenLaw} {n k : Nat} {q : Program} {loose : List Str} {XP : (Str → Option Value) → Heap → Prop} {YP : World → Heap → Prop} {d : DefRec} {x : Str}
    (hn : l.most = some n) (hn2 : n ≤ sizeLine) (hdf : d.params.defaults = []) (hr : Room k callerA)
    (F : ∀ (w : World) (mg : Str → Option Value) (fa : Addr) (h : Heap), YP w h → h.Ns mainGlobals mg → mg d.name = some (.ref fa) →
      ∃ (K : PySem.W.Frag) (fd : FuncData) (sp : Sp), K.In h ∧ (∀ (s : Shared) (u : Value), BindsTo s fd ⟨[u], []⟩ [(x, u)]) ∧
        (∀ (H : Hp) (a : Addr) (ns : List Int), ns.length ≤ n → (∀ z ∈ ns, Builtin.Int.intBits z ≤ 1048576) → Only H → SqL K H a (ns.map V.int) → sp [.ref a] H (fun v _ => v = .bl true) fun _ _ _ => False) ∧
        ∀ base : Heap, K.In base → base.Ns mainGlobals mg → FnG l.prog w K mg base k fa fd [x] sp) :
    PySem.W.WalkO q loose XP YP l.row.toRowW d [] (fun f vs => PySem.call f vs) := by
  apply Att.attach_callB hn hdf
  intro w s0 s1 mg mb fa o pm cd doc a vs ns G Y ho hd hcd hmg hobj hints hlen hbits hg
  obtain ⟨K, fd, sp, KX, hb, hsp, hF⟩ := F w mg fa _ Y G.T.g hmg
  exact law_callG KX G.T.g G.T.b G.T.builtins G.T.nolimit hg hobj hints (Nat.le_trans hlen hn2) hr hF hb fun H hO hS => hsp H a ns hlen hbits hO hS
end Qv
set_option Elab.async false
set_option linter.all false
set_option maxRecDepth 100000
set_option maxHeartbeats 4000000
namespace Qv
open PySem PySem.Spec L2
/-! ### plain data -/
mutual
def Val.dat : Val → PyData
  | .bl b => .bool b
  | .int i => .int i
  | .str x => .str x
  | .tup xs => .tuple (datL xs)
  | .lst _ xs => .list (datL xs)
  | .non => .none
  | .ty _ => .none
  | .atm _ => .none
  | .dic _ _ _ => .dict []
  | .obj _ _ _ _ => .none
  | .exc _ _ _ => .none
  | .glo _ => .none
def datL : List Val → List PyData
  | [] => []
  | x :: xs => x.dat :: datL xs
end
mutual
def Val.plain : Val → Bool
  | .bl _ => true
  | .int _ => true
  | .str _ => true
  | .tup xs => plainL xs
  | .lst _ xs => plainL xs
  | .non => true
  | .ty _ => false
  | .atm _ => false
  | .dic _ ks _ => ks.isEmpty
  | .obj _ _ _ _ => false
  | .exc _ _ _ => false
  | .glo _ => false
def plainL : List Val → Bool
  | [] => true
  | x :: xs => x.plain && plainL xs
end
mutual
def Val.nod : Val → Bool
  | .tup xs => nodL xs
  | .lst _ xs => nodL xs
  | .dic _ _ _ => false
  | .bl _ => true
  | .int _ => true
  | .str _ => true
  | .non => true
  | .ty _ => false
  | .atm _ => false
  | .obj _ _ _ _ => false
  | .exc _ _ _ => false
  | .glo _ => false
def nodL : List Val → Bool
  | [] => true
  | x :: xs => x.nod && nodL xs
end
section
variable {K : PySem.W.Frag} {Fz Fz' O : Addr → Prop} {H H' : Hp}
mutual
theorem Fzn.dp : ∀ (v : Val) (V : V), Fzn K Fz H v V → v.nod = true → Dp K H V v.dat
  | .non, _, h, _ => by cases h; exact .non
  | .bl b, _, h, _ => by cases h; exact .bl b
  | .int i, _, h, _ => by cases h; exact .int i
  | .str x, _, h, _ => by cases h; exact .str x
  | .tup xs, _, h, p => by
    obtain ⟨a, vs, e, t, l⟩ := h
    subst e
    exact .tup t.sq (FznL.dp xs vs l p)
  | .lst o xs, _, h, p => by
    obtain ⟨_, a, vs, e, t, l⟩ := h
    subst e
    exact .lst t.sq (FznL.dp xs vs l p)
  | .ty _, _, _, p => by cases p
  | .atm _, _, _, p => by cases p
  | .dic _ _ _, _, _, p => by cases p
  | .obj _ _ _ _, _, _, p => by cases p
  | .exc _ _ _, _, _, p => by cases p
  | .glo _, _, _, p => by cases p
theorem FznL.dp : ∀ (xs : List Val) (vs : List V), FznL K Fz H xs vs → nodL xs = true → DpAll K H vs (datL xs)
  | [], _, h, _ => by cases h; exact .nil
  | x :: xs, _, h, p => by
    obtain ⟨v, r, e, h1, h2⟩ := h
    subst e
    obtain ⟨p1, p2⟩ := Bool.and_eq_true_iff.mp (show (x.nod && nodL xs) = true from p)
    exact .cons (Fzn.dp x v h1 p1) (FznL.dp xs r h2 p2)
end
theorem OwA.dp {v : Val} {V : V} (o : OwA K Fz H v V) (p : v.nod = true) : Dp K H V v.dat := by
  obtain ⟨f, o⟩ := o
  cases hv : v.owned with
  | false => exact Fzn.dp v V (o.fzn hv).2 p
  | true =>
    cases v with
    | lst b xs =>
      cases b with
      | true =>
        obtain ⟨a, vs, e, ef, ha, l⟩ := o
        subst e
        exact .lst (.of ha) (FznL.dp xs vs l p)
      | false => cases hv
    | dic _ _ _ => cases p
    | obj _ _ _ _ => cases p
    | exc _ _ _ => cases p
    | glo _ => cases p
    | _ => cases hv
/-- the sequence at an operand -/
theorem OwA.tup {xs : List Val} {V : V} (o : OwA K Fz H (.tup xs) V) : ∃ a vs, V = .ref a ∧ FT K Fz H a vs ∧ FznL K Fz H xs vs := by
  obtain ⟨f, o⟩ := o
  exact o.2
theorem OwA.lst {b : Bool} {xs : List Val} {V : V} (o : OwA K Fz H (.lst b xs) V) : ∃ a vs, V = .ref a ∧ SqL K H a vs ∧ FznL K Fz H xs vs := by
  obtain ⟨f, o⟩ := o
  cases b with
  | true =>
    obtain ⟨a, vs, e, ef, ha, l⟩ := o
    exact ⟨a, vs, e, .of ha, l⟩
  | false =>
    obtain ⟨_, _, a, vs, e, t, l⟩ := o
    exact ⟨a, vs, e, t.sq, l⟩
theorem OwA.dic {b : Bool} {ks : List Key} {xs : List Val} {V : V} (o : OwA K Fz H (.dic b ks xs) V) : ∃ a vs, V = .ref a ∧ H a = some (.dK (ks.zip vs)) ∧ ks.length = vs.length ∧ FznL K Fz H xs vs := by
  obtain ⟨f, o⟩ := o
  cases b with
  | true =>
    obtain ⟨a, vs, e, ef, ha, n, l⟩ := o
    exact ⟨a, vs, e, ha, n, l⟩
  | false =>
    obtain ⟨_, _, a, vs, e, z, r, n, l⟩ := o
    exact ⟨a, vs, e, r, n, l⟩
theorem FznL.get : ∀ {xs : List Val} {vs : List V} {i : Nat} {x : Val}, FznL K Fz H xs vs → xs[i]? = some x → ∃ v, vs[i]? = some v ∧ Fzn K Fz H x v
  | [], _, i, x, _, e => by cases i <;> cases e
  | y :: ys, _, 0, x, h, e => by
    obtain ⟨v, r, e1, h1, h2⟩ := h
    subst e1
    cases e
    exact ⟨v, rfl, h1⟩
  | y :: ys, _, i + 1, x, h, e => by
    obtain ⟨v, r, e1, h1, h2⟩ := h
    subst e1
    exact FznL.get (i := i) h2 e
theorem FznL.drop : ∀ {xs : List Val} {vs : List V} (n : Nat), FznL K Fz H xs vs → FznL K Fz H (xs.drop n) (vs.drop n)
  | xs, vs, 0, h => h
  | [], _, n + 1, h => by cases h; exact rfl
  | y :: ys, _, n + 1, h => by
    obtain ⟨v, r, e1, h1, h2⟩ := h
    subst e1
    exact FznL.drop n h2
theorem FznL.take : ∀ {xs : List Val} {vs : List V} (n : Nat), FznL K Fz H xs vs → FznL K Fz H (xs.take n) (vs.take n)
  | xs, vs, 0, h => rfl
  | [], _, n + 1, h => by cases h; exact rfl
  | y :: ys, _, n + 1, h => by
    obtain ⟨v, r, e1, h1, h2⟩ := h
    subst e1
    exact ⟨v, r.take n, rfl, h1, FznL.take n h2⟩
theorem FznL.cat : ∀ {xs ys : List Val} {vs ws : List V}, FznL K Fz H xs vs → FznL K Fz H ys ws → FznL K Fz H (xs ++ ys) (vs ++ ws)
  | [], _, _, _, h, z => by
    cases h
    exact z
  | y :: ys, _, _, ws, h, z => by
    obtain ⟨w, r, e, h1, h2⟩ := h
    subst e
    exact ⟨w, r ++ ws, rfl, h1, FznL.cat h2 z⟩
/-- a value that stood, handed on -/
theorem aft_old {Qp : Val → Prop} {Q' : VK} {u : Val} {U : V} (a : Aft K Fz H Qp Q') (o : Fzn K Fz H u U) (q : Qp u) : Q' U H := a u U Fz H [] .refl o.ow q
theorem aft_bl {Qp : Val → Prop} {Q' : VK} {b : Bool} (a : Aft K Fz H Qp Q') (q : Qp (.bl b)) : Q' (.bl b) H := aft_old (u := .bl b) a rfl q
theorem aft_int {Qp : Val → Prop} {Q' : VK} {b : Int} (a : Aft K Fz H Qp Q') (q : Qp (.int b)) : Q' (.int b) H := aft_old (u := .int b) a rfl q
theorem aft_str {Qp : Val → Prop} {Q' : VK} {b : Str} (a : Aft K Fz H Qp Q') (q : Qp (.str b)) : Q' (.str b) H := aft_old (u := .str b) a rfl q
theorem aft_tup {Qp : Val → Prop} {Q' : VK} {xs : List Val} {vs : List V} {p : Addr} (F : ∀ a, Fz a → H a ≠ none) (a : Aft K Fz H Qp Q') (l : FznL K Fz H xs vs) (hp : H p = none) (q : Qp (.tup xs)) : Q' (.ref p) (upd H p (.tup vs)) := by
  obtain ⟨n, o⟩ := new_tup l F hp
  exact a _ _ _ _ _ n o q
theorem aft_lst {Qp : Val → Prop} {Q' : VK} {xs : List Val} {vs : List V} {p : Addr} (F : ∀ a, Fz a → H a ≠ none) (a : Aft K Fz H Qp Q') (l : FznL K Fz H xs vs) (hp : H p = none) (q : Qp (.lst true xs)) : Q' (.ref p) (upd H p (.lst vs)) := by
  obtain ⟨n, o⟩ := new_lst l F hp
  exact a _ _ _ _ _ n o q
/-! ### arithmetic -/
def gI (C : Int → Int → Prop) (f : Int → Int → Val) : G2 := fun v w Q => match v, w with
  | .int i, .int j => C i j ∧ Q (f i j)
  | _, _ => False
def relF (f : Int → Int → Val) (g : Int → Int → V) : Prop := ∀ i j Fz H, Fzn K Fz H (f i j) (g i j)
theorem s_I {C : Int → Int → Prop} {f : Int → Int → Val} {g : Int → Int → V} (h : ∀ i j Fz H, Fzn K Fz H (f i j) (g i j)) : S2 K (rI C g) (gI C f) := by
  intro Fz H v w V W Qp Q' F o1 o2 q a
  cases v <;> try exact q.elim
  cases w <;> try exact q.elim
  exact ⟨_, _, Ow.int o1, Ow.int o2, q.1, aft_old a (h _ _ Fz H) q.2⟩
theorem s_I0 {f : Int → Int → Val} {g : Int → Int → V} (h : ∀ i j Fz H, Fzn K Fz H (f i j) (g i j)) : S2 K (rI0 g) (gI (fun _ _ => True) f) := by
  intro Fz H v w V W Qp Q' F o1 o2 q a
  cases v <;> try exact q.elim
  cases w <;> try exact q.elim
  exact ⟨_, _, Ow.int o1, Ow.int o2, aft_old a (h _ _ Fz H) q.2⟩
theorem s_or {r r' : R2} {g g' : G2} {G : G2} (h : S2 K r g) (h' : S2 K r' g') (hG : ∀ v w Q, G v w Q → g v w Q ∨ g' v w Q) : S2 K (fun x y H Q => r x y H Q ∨ r' x y H Q) G :=
  fun Fz H v w V W Qp Q' F o1 o2 q a => (hG v w Qp q).imp (fun q => h Fz H v w V W Qp Q' F o1 o2 q a) fun q => h' Fz H v w V W Qp Q' F o1 o2 q a
theorem s_imp {r : R2} {g G : G2} (h : S2 K r g) (hG : ∀ v w Q, G v w Q → g v w Q) : S2 K r G :=
  fun Fz H v w V W Qp Q' F o1 o2 q a => h Fz H v w V W Qp Q' F o1 o2 (hG v w Qp q) a
end
/-- + of lists, each to be read -/
def rCatR (K : PySem.W.Frag) : R2 := fun x y H Q => ∃ l b xs zs, x = .ref l ∧ y = .ref b ∧ SqL K H l xs ∧ SqL K H b zs ∧ xs.length + zs.length ≤ sizeLine ∧ ∀ p, H p = none → Q (.ref p) (upd H p (.lst (xs ++ zs)))
theorem op_catR {X : Cx} : OpR X (binaryOp .Add) (rCatR X.K) := by
  rintro pins s σ H x y v u Q I rx ry ⟨l, b, xs, zs, e1, e2, h1, h2, hz, q⟩
  subst e1 e2
  cases rx
  cases ry
  obtain ⟨i1, r1, ⟨⟨c1, d1, t1, sl1⟩, m1, g1, n1, k1, k2⟩, z1⟩ := I.list h1
  obtain ⟨i2, r2, ⟨⟨c2, d2, t2, sl2⟩, m2, g2, n2, k3, k4⟩, z2⟩ := I.list h2
  simp only at n1 k1 k2 n2 k3 k4
  subst n1 k1 k2 n2 k3 k4
  have hz1 : i1.length + i2.length ≤ sizeLine := by rw [← r1.length, ← r2.length]; exact hz
  refine PySem.concat_meets ⟨_, g1, rfl⟩ ⟨_, g2, rfl⟩ PySem.noFill_list_add PySem.seq_list_add PySem.F.slot_list_add PySem.F.entry_list_add (PySem.F.args_list_add_2 _ _) (PyProof.Rows.list_addW l b i1.toArray i2.toArray m1 m2 none none sl1 sl2 (by simpa using hz1)) ⟨g1, g2, ?_⟩
  have ea : i1.toArray ++ i2.toArray = (i1 ++ i2).toArray := by simp
  rw [ea]
  exact ⟨.ref _, _, I.lnew (t' := s.toks) (r1.append r2) (by rw [List.length_append]; omega), rfl, q _ I.fresh⟩
/-- a bool as a number -/
def b2 (k : Bool) : Int := if k = true then 1 else 0
def rBoolB (f : Int → Int → Int) : R2 := fun x y H Q => (∃ k j, x = .bl k ∧ y = .int j ∧ Q (.int (f (b2 k) j)) H) ∨ (∃ i k, x = .int i ∧ y = .bl k ∧ Q (.int (f i (b2 k))) H) ∨ ∃ k l, x = .bl k ∧ y = .bl l ∧ Q (.int (f (b2 k) (b2 l))) H
theorem op_addB {X : Cx} : OpR X (binaryOp .Add) (rBoolB fun i j => i + j) := by
  rintro pins s σ H x y v u Q I rx ry (⟨k, j, e1, e2, q⟩ | ⟨i, k, e1, e2, q⟩ | ⟨k, l, e1, e2, q⟩)
  · subst e1 e2
    cases rx
    obtain ⟨t, rfl⟩ := ry
    exact PySem.IntBool.add_bool_int ⟨.int _, H, I.tok _, ⟨_, rfl⟩, q⟩
  · subst e1 e2
    cases ry
    obtain ⟨t, rfl⟩ := rx
    exact add_int_bool ⟨.int _, H, I.tok _, ⟨_, rfl⟩, q⟩
  · subst e1 e2
    cases ry
    cases rx
    exact PyProof.Rows.add_bool ⟨.int _, H, I.tok _, ⟨_, rfl⟩, q⟩
theorem op_subB {X : Cx} : OpR X (binaryOp .Sub) (rBoolB fun i j => i - j) := by
  rintro pins s σ H x y v u Q I rx ry (⟨k, j, e1, e2, q⟩ | ⟨i, k, e1, e2, q⟩ | ⟨k, l, e1, e2, q⟩)
  · subst e1 e2
    cases rx
    obtain ⟨t, rfl⟩ := ry
    exact PySem.IntBool.sub_bool_int ⟨.int _, H, I.tok _, ⟨_, rfl⟩, q⟩
  · subst e1 e2
    cases ry
    obtain ⟨t, rfl⟩ := rx
    exact PySem.IntBool.sub_int_bool ⟨.int _, H, I.tok _, ⟨_, rfl⟩, q⟩
  · subst e1 e2
    cases ry
    cases rx
    exact PyProof.Rows.sub_bool ⟨.int _, H, I.tok _, ⟨_, rfl⟩, q⟩
def gNum (f : Int → Int → Int) : G2 := fun v w Q => match v, w with
  | .int i, .int j => Q (.int (f i j))
  | .bl k, .int j => Q (.int (f (b2 k) j))
  | .int i, .bl k => Q (.int (f i (b2 k)))
  | .bl k, .bl l => Q (.int (f (b2 k) (b2 l)))
  | _, _ => False
def gBoolB (f : Int → Int → Int) : G2 := fun v w Q => match v, w with
  | .bl k, .int j => Q (.int (f (b2 k) j))
  | .int i, .bl k => Q (.int (f i (b2 k)))
  | .bl k, .bl l => Q (.int (f (b2 k) (b2 l)))
  | _, _ => False
def gAdd : G2 := fun v w Q => match v, w with
  | .int i, .int j => Q (.int (i + j))
  | .str x, .str y => x.length + y.length ≤ sizeLine ∧ Q (.str (x ++ y))
  | .lst _ xs, .lst _ ys => xs.length + ys.length ≤ sizeLine ∧ Q (.lst true (xs ++ ys))
  | .tup xs, .tup ys => xs.length + ys.length ≤ sizeLine ∧ Q (.tup (xs ++ ys))
  | .bl k, .int j => Q (.int (b2 k + j))
  | .int i, .bl k => Q (.int (i + b2 k))
  | .bl k, .bl l => Q (.int (b2 k + b2 l))
  | _, _ => False
section
variable {K : PySem.W.Frag} {X : Cx}
def gAddS : G2 := fun v w Q => match v, w with
  | .str x, .str y => x.length + y.length ≤ sizeLine ∧ Q (.str (x ++ y))
  | _, _ => False
def gAddL : G2 := fun v w Q => match v, w with
  | .lst _ xs, .lst _ ys => xs.length + ys.length ≤ sizeLine ∧ Q (.lst true (xs ++ ys))
  | _, _ => False
def gAddT : G2 := fun v w Q => match v, w with
  | .tup xs, .tup ys => xs.length + ys.length ≤ sizeLine ∧ Q (.tup (xs ++ ys))
  | _, _ => False
theorem s_addS : S2 K (fun x y H Q => ∃ i j, x = .str i ∧ y = .str j ∧ i.length + j.length ≤ sizeLine ∧ Q (.str (i ++ j)) H) gAddS := by
  intro Fz H v w V W Qp Q' F o1 o2 q a
  cases v <;> try exact q.elim
  cases w <;> try exact q.elim
  exact ⟨_, _, Ow.str o1, Ow.str o2, q.1, aft_str a q.2⟩
theorem s_addL : S2 K (rCatR K) gAddL := by
  intro Fz H v w V W Qp Q' F o1 o2 q a
  cases v <;> try exact q.elim
  cases w <;> try exact q.elim
  obtain ⟨l, vs, e1, h1, l1⟩ := o1.lst
  obtain ⟨b, ws, e2, h2, l2⟩ := o2.lst
  exact ⟨l, b, vs, ws, e1, e2, h1, h2, by rw [l1.len, l2.len]; exact q.1, fun p hp => aft_lst F a (l1.cat l2) hp q.2⟩
theorem s_addT : S2 K (rCatA K) gAddT := by
  intro Fz H v w V W Qp Q' F o1 o2 q a
  cases v <;> try exact q.elim
  cases w <;> try exact q.elim
  rename_i xs ys
  obtain ⟨l, vs, e1, h1, l1⟩ := o1.tup
  obtain ⟨b, ws, e2, h2, l2⟩ := o2.tup
  subst e1 e2
  obtain ⟨q1, q2⟩ := q
  refine ⟨l, b, vs, ws, rfl, rfl, h1.sq, h2.sq, by rw [l1.len, l2.len]; exact q1, fun z => ?_, fun z1 z2 => ?_, fun _ _ p hp => aft_tup F a (l1.cat l2) hp q2⟩
  · subst z
    cases xs with
    | nil => exact aft_old (u := .tup ys) a ⟨b, ws, rfl, h2, l2⟩ q2
    | cons _ _ => have := l1.len; simp at this
  · subst z2
    cases ys with
    | nil => rw [List.append_nil] at q2; exact aft_old (u := .tup xs) a ⟨l, vs, rfl, h1, l1⟩ q2
    | cons _ _ => have := l2.len; simp at this
theorem s_boolB (f : Int → Int → Int) : S2 K (rBoolB f) (gBoolB f) := by
  intro Fz H v w V W Qp Q' F o1 o2 q a
  cases v <;> try exact q.elim
  all_goals (cases w <;> try exact q.elim)
  · exact .inr (.inr ⟨_, _, Ow.bl o1, Ow.bl o2, aft_int a q⟩)
  · exact .inl ⟨_, _, Ow.bl o1, Ow.int o2, aft_int a q⟩
  · exact .inr (.inl ⟨_, _, Ow.int o1, Ow.bl o2, aft_int a q⟩)
/-- + by values: ints, texts, lists, tuples, bools -/
abbrev rAddU (K : PySem.W.Frag) : R2 := fun x y H Q => rI0 (fun i j => .int (i + j)) x y H Q ∨ (fun x y H Q => rBoolB (fun i j => i + j) x y H Q ∨ (fun x y H Q => (∃ i j, x = V.str i ∧ y = V.str j ∧ i.length + j.length ≤ sizeLine ∧ Q (.str (i ++ j)) H) ∨ (fun x y H Q => rCatR K x y H Q ∨ rCatA K x y H Q) x y H Q) x y H Q) x y H Q
theorem op_addU : OpR X (binaryOp .Add) (rAddU X.K) := OpR.or op_add (OpR.or op_addB (OpR.or op_add_str (OpR.or op_catR op_catA)))
theorem s_addU : S2 K (rAddU K) gAdd := by
  refine s_or (s_I0 (f := fun i j => .int (i + j)) fun i j Fz H => rfl) (g' := fun v w Q => gBoolB (fun i j => i + j) v w Q ∨ gAddS v w Q ∨ gAddL v w Q ∨ gAddT v w Q) ?_ (fun v w Q h => ?_)
  · refine s_or (s_boolB _) (g' := fun v w Q => gAddS v w Q ∨ gAddL v w Q ∨ gAddT v w Q) ?_ fun _ _ _ h => h
    refine s_or s_addS (g' := fun v w Q => gAddL v w Q ∨ gAddT v w Q) ?_ fun _ _ _ h => h
    exact s_or s_addL s_addT fun _ _ _ h => h
  · cases v <;> try exact h.elim
    all_goals (cases w <;> try exact h.elim)
    · exact .inr (.inl h)
    · exact .inr (.inl h)
    · exact .inr (.inl h)
    · exact .inl ⟨trivial, h⟩
    · exact .inr (.inr (.inl h))
    · exact .inr (.inr (.inr (.inr h)))
    · exact .inr (.inr (.inr (.inl h)))
abbrev rSubU : R2 := fun x y H Q => rI0 (fun i j => .int (i - j)) x y H Q ∨ rBoolB (fun i j => i - j) x y H Q
theorem op_subU : OpR X (binaryOp .Sub) rSubU := OpR.or op_sub op_subB
def gSub : G2 := gNum fun i j => i - j
theorem s_sub : S2 K rSubU gSub := by
  refine s_or (s_I0 (f := fun i j => .int (i - j)) fun i j Fz H => rfl) (s_boolB _) (fun v w Q h => ?_)
  cases v <;> try exact h.elim
  all_goals (cases w <;> try exact h.elim)
  · exact .inr h
  · exact .inr h
  · exact .inr h
  · exact .inl ⟨trivial, h⟩
def gMul : G2 := gI CMulW fun i j => .int (i * j)
theorem s_mul : S2 K (rI CMulW fun i j => .int (i * j)) gMul := s_I fun i j Fz H => rfl
def gFdiv : G2 := gI CDivW fun i j => .int (i / j)
theorem s_fdiv : S2 K (rI CDivW fun i j => .int (i / j)) gFdiv := s_I fun i j Fz H => rfl
def gMod : G2 := gI (fun _ j => 0 < j) fun i j => .int (i % j)
theorem s_mod : S2 K (rI (fun _ j => 0 < j) fun i j => .int (i % j)) gMod := s_I fun i j Fz H => rfl
def gPow : G2 := gI CPow fun i j => .int (i ^ j.toNat)
theorem s_pow : S2 K (rI CPow fun i j => .int (i ^ j.toNat)) gPow := s_I fun i j Fz H => rfl
def gNeg : G1 := fun v Q => match v with
  | .int i => Q (.int (-i))
  | _ => False
theorem s_neg : S1 K (rU fun i => .int (-i)) gNeg := by
  intro Fz H v V Qp Q' F o q a
  cases v <;> try exact q.elim
  exact ⟨_, Ow.int o, aft_int a q⟩
/-! ### comparisons -/
def gCmp (f : Int → Int → Bool) (g : List Nat → List Nat → Bool) : G2 := fun v w Q => match v, w with
  | .int i, .int j => Q (.bl (f i j))
  | .str x, .str y => Q (.bl (g x.cps.toList y.cps.toList))
  | _, _ => False
def gLt : G2 := gCmp (fun i j => decide (i < j)) fun x y => decide (x < y)
def gLe : G2 := gCmp (fun i j => decide (i ≤ j)) fun x y => !decide (y < x)
def gGt : G2 := gCmp (fun i j => decide (j < i)) fun x y => decide (y < x)
def gGe : G2 := gCmp (fun i j => decide (j ≤ i)) fun x y => !decide (x < y)
theorem s_cmp {f : Int → Int → Bool} {g : List Nat → List Nat → Bool} : S2 K (fun x y H Q => rI0 (fun i j => .bl (f i j)) x y H Q ∨ ∃ i j, x = V.str i ∧ y = V.str j ∧ Q (.bl (g i.cps.toList j.cps.toList)) H) (gCmp f g) := by
  intro Fz H v w V W Qp Q' F o1 o2 q a
  cases v <;> try exact q.elim
  all_goals (cases w <;> try exact q.elim)
  · exact .inl ⟨_, _, Ow.int o1, Ow.int o2, aft_bl a q⟩
  · exact .inr ⟨_, _, Ow.str o1, Ow.str o2, aft_bl a q⟩
theorem op_ltU : OpR X (compareOp .Lt) (fun x y H Q => rI0 (fun i j => .bl (decide (i < j))) x y H Q ∨ ∃ i j, x = V.str i ∧ y = V.str j ∧ Q (.bl (decide (i.cps.toList < j.cps.toList))) H) := OpR.or op_lt op_lt_str
theorem op_leU : OpR X (compareOp .LtE) (fun x y H Q => rI0 (fun i j => .bl (decide (i ≤ j))) x y H Q ∨ ∃ i j, x = V.str i ∧ y = V.str j ∧ Q (.bl (!decide (j.cps.toList < i.cps.toList))) H) := OpR.or op_le op_le_str
theorem op_gtU : OpR X (compareOp .Gt) (fun x y H Q => rI0 (fun i j => .bl (decide (j < i))) x y H Q ∨ ∃ i j, x = V.str i ∧ y = V.str j ∧ Q (.bl (decide (j.cps.toList < i.cps.toList))) H) := OpR.or op_gt op_gt_str
theorem op_geU : OpR X (compareOp .GtE) (fun x y H Q => rI0 (fun i j => .bl (decide (j ≤ i))) x y H Q ∨ ∃ i j, x = V.str i ∧ y = V.str j ∧ Q (.bl (!decide (i.cps.toList < j.cps.toList))) H) := OpR.or op_ge op_ge_str
def gEq : G2 := fun v w Q => v.nod = true ∧ w.nod = true ∧ SeqAt.shaped v.dat = true ∧ SeqAt.shaped w.dat = true ∧ Q (.bl (PyData.eqv v.dat w.dat))
def gNe : G2 := fun v w Q => v.nod = true ∧ w.nod = true ∧ SeqAt.shaped v.dat = true ∧ SeqAt.shaped w.dat = true ∧ Q (.bl (!PyData.eqv v.dat w.dat))
theorem s_eq : S2 K (rEqD K) gEq := by
  intro Fz H v w V W Qp Q' F o1 o2 q a
  obtain ⟨p1, p2, s1, s2, q⟩ := q
  exact ⟨_, _, o1.dp p1, o2.dp p2, s1, s2, aft_bl a q⟩
theorem s_ne : S2 K (rNeD K) gNe := by
  intro Fz H v w V W Qp Q' F o1 o2 q a
  obtain ⟨p1, p2, s1, s2, q⟩ := q
  exact ⟨_, _, o1.dp p1, o2.dp p2, s1, s2, aft_bl a q⟩
def Val.isN : Val → Bool
  | .non => true
  | _ => false
/-- a is None -/
def gIsN : G2 := fun v w Q => w = .non ∧ Q (.bl v.isN)
def gNotN : G2 := fun v w Q => w = .non ∧ Q (.bl (!v.isN))
theorem isN_of {Fz : Addr → Prop} {H : Hp} {v : Val} {V : V} (o : OwA K Fz H v V) : decide (V = .non) = v.isN := by
  cases v with
  | non => rw [Ow.non o] <;> rfl
  | bl _ => rw [Ow.bl o] <;> rfl
  | int _ => rw [Ow.int o] <;> rfl
  | str _ => rw [Ow.str o] <;> rfl
  | ty _ => obtain ⟨f, o⟩ := o; cases o.2; rfl
  | atm _ => obtain ⟨f, o⟩ := o; cases o.2; rfl
  | tup _ => obtain ⟨a, _, e, _⟩ := o.tup; rw [e] <;> rfl
  | lst _ _ => obtain ⟨a, _, e, _⟩ := o.lst; rw [e] <;> rfl
  | dic _ _ _ => obtain ⟨a, _, e, _⟩ := o.dic; rw [e] <;> rfl
  | obj b _ _ _ =>
    obtain ⟨f, o⟩ := o
    cases b with
    | true => obtain ⟨a, _, _, _, e, _⟩ := o; rw [e] <;> rfl
    | false => obtain ⟨_, _, a, _, _, e, _⟩ := o; rw [e] <;> rfl
  | exc _ _ _ => obtain ⟨f, o⟩ := o; obtain ⟨_, a, _, _, e, _⟩ := o; rw [e] <;> rfl
  | glo _ => obtain ⟨f, o⟩ := o; cases o.2; rfl
theorem s_isN : S2 K (fun x y H Q => y = V.non ∧ Q (.bl (decide (x = V.non))) H) gIsN := by
  intro Fz H v w V W Qp Q' F o1 o2 q a
  obtain ⟨e, q⟩ := q
  subst e
  exact ⟨Ow.non o2, by rw [isN_of o1]; exact aft_bl a q⟩
theorem s_notN : S2 K (fun x y H Q => y = V.non ∧ Q (.bl (!decide (x = V.non))) H) gNotN := by
  intro Fz H v w V W Qp Q' F o1 o2 q a
  obtain ⟨e, q⟩ := q
  subst e
  exact ⟨Ow.non o2, by rw [isN_of o1]; exact aft_bl a q⟩
/-! ### in -/
def Val.flat : Val → Bool
  | .non => true
  | .bl _ => true
  | .int _ => true
  | .str _ => true
  | _ => false
def hasK (ks : List Key) (k : Key) : Bool := ks.any fun j => decide (j = k)
def keyOf : Val → Option Key
  | .int i => some (.inl i)
  | .str x => some (.inr x)
  | _ => none
def gIn (neg : Bool) : G2 := fun v w Q => match w with
  | .str y => (match v with
    | .str x => Q (.bl (if neg then !(!(Builtin.Str.occurrences y x 0 y.length 1).isEmpty) else !(Builtin.Str.occurrences y x 0 y.length 1).isEmpty))
    | _ => False)
  | .lst _ xs => v.flat = true ∧ xs.all Val.flat = true ∧ Q (.bl (if neg then !(xs.any fun y => PyData.eqv y.dat v.dat) else xs.any fun y => PyData.eqv y.dat v.dat))
  | .tup xs => v.flat = true ∧ xs.all Val.flat = true ∧ Q (.bl (if neg then !(xs.any fun y => PyData.eqv y.dat v.dat) else xs.any fun y => PyData.eqv y.dat v.dat))
  | .dic _ ks _ => ∃ k, keyOf v = some k ∧ Q (.bl (if neg then !hasK ks k else hasK ks k))
  | _ => False
theorem flat_of {Fz : Addr → Prop} {H : Hp} {v : Val} {V : V} (o : OwA K Fz H v V) (h : v.flat = true) : flatV V = true ∧ (match v with
    | .non => V = .non
    | .bl b => V = .bl b
    | .int i => V = .int i
    | .str x => V = .str x
    | _ => False) := by
  cases v with
  | non => cases Ow.non o; exact ⟨rfl, rfl⟩
  | bl _ => cases Ow.bl o; exact ⟨rfl, rfl⟩
  | int _ => cases Ow.int o; exact ⟨rfl, rfl⟩
  | str _ => cases Ow.str o; exact ⟨rfl, rfl⟩
  | _ => cases h
theorem eqV_of {Fz : Addr → Prop} {H : Hp} {v w : Val} {V W : L2.V} (o1 : OwA K Fz H v V) (o2 : OwA K Fz H w W) (h1 : v.flat = true) (h2 : w.flat = true) : eqV V W = PyData.eqv v.dat w.dat := by
  have z1 := (flat_of o1 h1).2
  have z2 := (flat_of o2 h2).2
  cases v <;> cases w <;> (try cases h1) <;> (try cases h2) <;> (dsimp only at z1 z2; subst z1 z2; simp [eqV, Val.dat, PyData.eqv])
theorem inV_of {Fz : Addr → Prop} {H : Hp} {v : Val} {V : V} (o : OwA K Fz H v V) (h : v.flat = true) : ∀ {xs : List Val} {vs : List L2.V}, FznL K Fz H xs vs → xs.all Val.flat = true → vs.all flatV = true ∧ inV V vs = xs.any fun y => PyData.eqv y.dat v.dat
  | [], _, l, _ => by cases l; exact ⟨rfl, rfl⟩
  | x :: xs, _, l, hx => by
    obtain ⟨w, r, e, l1, l2⟩ := l
    subst e
    rw [List.all_cons] at hx
    obtain ⟨x1, x2⟩ := Bool.and_eq_true_iff.mp hx
    obtain ⟨a1, a2⟩ := inV_of o h l2 x2
    have e := eqV_of ⟨_, l1.ow⟩ o x1 h
    refine ⟨by rw [List.all_cons, (flat_of ⟨_, l1.ow⟩ x1).1, a1] <;> rfl, ?_⟩
    unfold inV at a2 ⊢
    rw [List.any_cons, List.any_cons, e, a2]
theorem valV_isSome {κ : Type} [DecidableEq κ] : ∀ {ks : List κ} {vs : List L2.V} {k : κ}, ks.length = vs.length → (valV (ks.zip vs) k).isSome = ks.any fun j => decide (j = k)
  | [], vs, k, h => by cases vs <;> first | rfl | cases h
  | a :: ks, [], k, h => by cases h
  | a :: ks, v :: vs, k, h => by
    have ih := valV_isSome (ks := ks) (vs := vs) (k := k) (by simpa using h)
    show (valV ((a, v) :: ks.zip vs) k).isSome = _
    by_cases e : a = k
    · rw [valV_pos (p := (a, v)) e, List.any_cons, decide_eq_true e] <;> rfl
    · rw [valV_neg (p := (a, v)) e, List.any_cons, decide_eq_false e, ih] <;> rfl
theorem keyOf_of {Fz : Addr → Prop} {H : Hp} {v : Val} {V : V} {k : Key} (o : OwA K Fz H v V) (h : keyOf v = some k) : V = kV k := by
  cases v with
  | int i => cases h; exact Ow.int o
  | str x => cases h; exact Ow.str o
  | _ => cases h
/-- in a dict, by values -/
def rInD (neg : Bool) : R2 := fun x y H Q => ∃ a o, y = V.ref a ∧ DGet H a x o ∧ Q (.bl (if neg then !o.isSome else o.isSome)) H
theorem op_inD (hu : X.A.units + 1 < cLine) : OpR X (compareOp .In) (rInD false) := by
  rintro pins s σ H x y v u Q I rx ry ⟨a, o, e, g, q⟩
  subst e
  cases ry
  exact d_in hu I g rx fun s' I' => ⟨.bl _, H, I', rfl, q⟩
theorem op_notInD (hu : X.A.units + 1 < cLine) : OpR X (compareOp .NotIn) (rInD true) := by
  rintro pins s σ H x y v u Q I rx ry ⟨a, o, e, g, q⟩
  subst e
  cases ry
  exact d_notIn hu I g rx fun s' I' => ⟨.bl _, H, I', rfl, q⟩
abbrev rInU (K : PySem.W.Frag) (neg : Bool) (rs : R2) : R2 := fun x y H Q => rs x y H Q ∨ (fun x y H Q => rIn K neg x y H Q ∨ rInD neg x y H Q) x y H Q
abbrev rsIn : R2 := fun x y H Q => ∃ i j, x = V.str i ∧ y = V.str j ∧ Q (.bl (!(Builtin.Str.occurrences j i 0 j.length 1).isEmpty)) H
abbrev rsNin : R2 := fun x y H Q => ∃ i j, x = V.str i ∧ y = V.str j ∧ Q (.bl (!(!(Builtin.Str.occurrences j i 0 j.length 1).isEmpty))) H
theorem op_inU (hu : X.A.units + 1 < cLine) : OpR X (compareOp .In) (rInU X.K false rsIn) := OpR.or op_in_str (OpR.or op_in_seq (op_inD hu))
theorem op_ninU (hu : X.A.units + 1 < cLine) : OpR X (compareOp .NotIn) (rInU X.K true rsNin) := OpR.or op_notIn_str (OpR.or op_notIn_seq (op_notInD hu))
theorem s_inSeq {neg : Bool} {Fz : Addr → Prop} {H : Hp} {v : Val} {V : L2.V} {a : Addr} {xs : List Val} {vs : List L2.V} {Qp : Val → Prop} {Q' : VK} (o1 : OwA K Fz H v V) (h2 : SqL K H a vs ∨ SqT K H a vs) (l2 : FznL K Fz H xs vs) (h1 : v.flat = true) (hx : xs.all Val.flat = true)
    (q : Qp (.bl (if neg then !(xs.any fun y => PyData.eqv y.dat v.dat) else xs.any fun y => PyData.eqv y.dat v.dat))) (af : Aft K Fz H Qp Q') : rIn K neg V (.ref a) H Q' := by
  obtain ⟨z1, z2⟩ := inV_of o1 h1 l2 hx
  refine ⟨a, vs, rfl, h2, (flat_of o1 h1).1, z1, ?_⟩
  rw [z2]
  exact aft_bl af q
theorem s_inU {rs : R2} {neg : Bool} (hs : ∀ x y H Q, (∃ i j, x = V.str i ∧ y = V.str j ∧ Q (.bl (if neg then !(!(Builtin.Str.occurrences j i 0 j.length 1).isEmpty) else !(Builtin.Str.occurrences j i 0 j.length 1).isEmpty)) H) → rs x y H Q) : S2 K (rInU K neg rs) (gIn neg) := by
  intro Fz H v w V W Qp Q' F o1 o2 q a
  cases w with
  | str y =>
    cases v <;> try exact q.elim
    exact .inl (hs _ _ _ _ ⟨_, _, Ow.str o1, Ow.str o2, aft_bl a q⟩)
  | lst b xs =>
    obtain ⟨l, vs, e1, h1, l1⟩ := o2.lst
    subst e1
    exact .inr (.inl (s_inSeq o1 (.inl h1) l1 q.1 q.2.1 q.2.2 a))
  | tup xs =>
    obtain ⟨l, vs, e1, h1, l1⟩ := o2.tup
    subst e1
    exact .inr (.inl (s_inSeq o1 (.inr h1.sq) l1 q.1 q.2.1 q.2.2 a))
  | dic b ks xs =>
    obtain ⟨k, hk, q⟩ := q
    obtain ⟨l, vs, e1, h1, n, l1⟩ := o2.dic
    have ev := keyOf_of o1 hk
    subst e1 ev
    refine .inr (.inr ⟨l, valV (ks.zip vs) k, rfl, .inl ⟨_, k, .inl h1, rfl, rfl⟩, ?_⟩)
    rw [valV_isSome n]
    exact aft_bl a q
  | _ => exact q.elim
theorem s_in : S2 K (rInU K false rsIn) (gIn false) := s_inU fun _ _ _ _ h => h
theorem s_nin : S2 K (rInU K true rsNin) (gIn true) := s_inU fun _ _ _ _ h => h
end
end Qv
set_option Elab.async false
set_option linter.all false
set_option maxRecDepth 100000
set_option maxHeartbeats 4000000
namespace Qv
open PySem PySem.Spec L2
section
variable {K : PySem.W.Frag} {X : Cx} {Fz Fz' O : Addr → Prop} {H H' : Hp}
/-! ### a[i] -/
def getK : List Key → List Val → Key → Option Val
  | j :: ks, x :: xs, k => if j = k then some x else getK ks xs k
  | _, _, _ => none
def gIx : G2 := fun v w Q => match v, w with
  | .lst _ xs, .int i => (match atI xs i with
    | some u => Q u
    | none => False)
  | .tup xs, .int i => (match atI xs i with
    | some u => Q u
    | none => False)
  | .str z, .int i => z.length ≤ sizeLine ∧ (match atI z.cps.toList i with
    | some c => Q (.str ⟨#[c]⟩)
    | none => False)
  | .dic _ ks xs, w => (match keyOf w with
    | some k => (match getK ks xs k with
      | some u => Q u
      | none => False)
    | none => False)
  | _, _ => False
theorem atI_fzn {xs : List Val} {vs : List V} {i : Int} {u : Val} (l : FznL K Fz H xs vs) (e : atI xs i = some u) : ∃ v, atI vs i = some v ∧ Fzn K Fz H u v := by
  unfold atI at e ⊢
  rw [l.len]
  cases z : ixN xs.length i with
  | none => rw [z] at e; cases e
  | some j =>
    rw [z] at e
    exact l.get e
theorem getK_fzn : ∀ {ks : List Key} {xs : List Val} {vs : List V} {k : Key} {u : Val}, FznL K Fz H xs vs → getK ks xs k = some u → ∃ v, valV (ks.zip vs) k = some v ∧ Fzn K Fz H u v
  | [], xs, vs, k, u, l, e => by cases xs <;> cases e
  | j :: ks, [], vs, k, u, l, e => by cases e
  | j :: ks, x :: xs, _, k, u, l, e => by
    obtain ⟨v, r, e1, h1, h2⟩ := l
    subst e1
    unfold getK at e
    show ∃ w, valV ((j, v) :: ks.zip r) k = some w ∧ _
    split at e
    · rename_i hj
      cases e
      exact ⟨v, valV_pos (p := (j, v)) hj, h1⟩
    · rename_i hj
      obtain ⟨w, z1, z2⟩ := getK_fzn (ks := ks) h2 e
      exact ⟨w, by rw [valV_neg (p := (j, v)) hj]; exact z1, z2⟩
def rIxD : R2 := fun x y H Q => ∃ a v, x = V.ref a ∧ DGet H a y (some v) ∧ Q v H
theorem ix_dict (hu : X.A.units + 1 < cLine) : IxR X rIxD := by
  rintro value slice pins s σ H x y v u Q I rx ry ⟨a, w, e, g, q⟩ hs
  subst e
  cases rx
  exact PyProof.Rows.tail_any (dict_typeIs I g) PySem.F.slot_dict_getitem.lookup (d_getItem hu I g ry fun w' s' I' r => ⟨w, H, I', r, q⟩) hs
abbrev rIxU (K : PySem.W.Frag) : R2 := fun x y H Q => rIx K x y H Q ∨ rIxD x y H Q
theorem ix_U (hu : X.A.units + 1 < cLine) : IxR X (rIxU X.K) := IxR.or ix_seq (ix_dict hu)
theorem s_ix : S2 K (rIxU K) gIx := by
  intro Fz H v w V W Qp Q' F o1 o2 q a
  cases v with
  | lst b xs =>
    cases w <;> try exact q.elim
    rename_i i
    dsimp only [gIx] at q
    split at q
    · rename_i u hu
      obtain ⟨l, vs, e, h, z⟩ := o1.lst
      obtain ⟨y, hy, oy⟩ := atI_fzn z hu
      exact .inl (.inl ⟨l, vs, i, y, e, Ow.int o2, h, hy, aft_old a oy q⟩)
    · exact q.elim
  | tup xs =>
    cases w <;> try exact q.elim
    rename_i i
    dsimp only [gIx] at q
    split at q
    · rename_i u hu
      obtain ⟨l, vs, e, h, z⟩ := o1.tup
      obtain ⟨y, hy, oy⟩ := atI_fzn z hu
      exact .inl (.inr (.inl ⟨l, vs, i, y, e, Ow.int o2, h.sq, hy, aft_old a oy q⟩))
    · exact q.elim
  | str z =>
    cases w <;> try exact q.elim
    rename_i i
    dsimp only [gIx] at q
    obtain ⟨q1, q⟩ := q
    split at q
    · rename_i c hc
      exact .inl (.inr (.inr ⟨z, i, c, Ow.str o1, Ow.int o2, q1, hc, aft_str a q⟩))
    · exact q.elim
  | dic b ks xs =>
    dsimp only [gIx] at q
    split at q
    · rename_i k hk
      split at q
      · rename_i u hu
        obtain ⟨l, vs, e, h, n, z⟩ := o1.dic
        obtain ⟨y, hy, oy⟩ := getK_fzn z hu
        exact .inr ⟨l, y, e, .inl ⟨_, k, .inl h, keyOf_of o2 hk, hy.symm⟩, aft_old a oy q⟩
      · exact q.elim
    · exact q.elim
  | _ => exact q.elim
/-! ### slices -/
abbrev POp := PX → Env → (Option Int → Env → Prop) → Prop
def oNone : POp := fun _ env Q => Q none env
def oSome (pe : PEx) : POp := fun W env Q => pe W env fun r e1 => match rd e1 r with
  | some (.int i) => Q (some i) e1
  | _ => False
def cutL {α : Type} (xs : List α) (lo hi : Option Int) : List α := (xs.drop (HT.sIx xs.length 0 lo)).take (HT.sIx xs.length xs.length hi - HT.sIx xs.length 0 lo)
def gSl (v : Val) (lo hi : Option Int) (Q : Val → Prop) : Prop := match v with
  | .lst _ xs => Q (.lst true (cutL xs lo hi))
  | .tup xs => Q (.tup (cutL xs lo hi))
  | .str z => z.length ≤ sizeLine ∧ Q (.str (cutS z lo hi))
  | _ => False
def pSl (pe : PEx) (pl ph : POp) : PEx := fun W env Q => pe W env fun r e1 => pl W e1 fun lo e2 => ph W e2 fun hi e3 => match rd e3 r with
  | some v => gSl v lo hi fun u => Q (.val u) e3
  | none => False
abbrev rSlU (K : PySem.W.Frag) : V → Option Int → Option Int → Hp → VK → Prop := fun x lo hi H Q => rSlL K x lo hi H Q ∨ (fun x lo hi H Q => rSlA K x lo hi H Q ∨ rSlS x lo hi H Q) x lo hi H Q
theorem sl_U : SlR X (rSlU X.K) := SlR.or sl_list (SlR.or sl_tupA sl_str)
theorem FznL.cut {xs : List Val} {vs : List V} (l : FznL K Fz H xs vs) (lo hi : Option Int) : FznL K Fz H (cutL xs lo hi) (cutV vs lo hi) := by
  unfold cutL cutV
  rw [l.len]
  exact (l.drop _).take _
theorem s_sl {v : Val} {V : V} {lo hi : Option Int} {Qp : Val → Prop} {Q' : VK} (F : ∀ a, Fz a → H a ≠ none) (o : OwA K Fz H v V) (q : gSl v lo hi Qp) (a : Aft K Fz H Qp Q') : rSlU K V lo hi H Q' := by
  cases v with
  | lst b xs =>
    obtain ⟨l, vs, e, h, z⟩ := o.lst
    exact .inl ⟨l, vs, e, h, fun p hp => aft_lst F a (z.cut lo hi) hp q⟩
  | tup xs =>
    obtain ⟨l, vs, e, h, z⟩ := o.tup
    refine .inr (.inl ⟨l, vs, e, h.sq, fun w => ?_, fun _ p hp => aft_tup F a (z.cut lo hi) hp q⟩)
    have ec : cutL xs lo hi = xs := by
      unfold cutL
      rw [z.len] at w
      rw [w.1, w.2]
      simp
    have q2 : Qp (.tup (cutL xs lo hi)) := q
    rw [ec] at q2
    subst e
    exact aft_old (u := .tup xs) a ⟨l, vs, rfl, h, z⟩ q2
  | str z => exact .inr (.inr ⟨z, Ow.str o, q.1, aft_str a q.2⟩)
  | _ => exact q.elim
def SimO (K : PySem.W.Frag) (W : WX) (pn : List Nat) (fl : Bool) (t : TO) (p : POp) : Prop :=
  ∀ (Wp : PX) (env : Env) (σ : L2.St) (H : Hp) (Fz O : Addr → Prop) (fp : Nat → List Addr) (pv : Nat → V) (Q : Option Int → Env → Prop) (Q' : Option Int → Hp → Prop),
    Fm K Fz O H env σ fp → Pin pn pv σ → p Wp env Q → ExH K W Wp pn pv O Fz H →
    (∀ b env' H' Fz' fp', Stp Fz H O Fz' H' → (fl = true → Kp Fz' fp fp' H H') → Fm K Fz' O H' env' σ fp' → Q b env' → Q' b H') → t σ H Q'
variable {W : WX} {pn : List Nat} {fl fl2 fl3 : Bool} {ta tb te : TE} {pa pb pe : PEx} {tl th : TO} {pl ph : POp}
theorem sim_onone : SimO K W pn true tNoPart oNone := by
  intro Wp env σ H Fz O fp pv Q Q' F P hp hx hq
  exact hq none env H Fz fp .refl (fun _ => .refl) F hp
theorem sim_osome (ha : SimE K W pn fl te pe) : SimO K W pn fl (tPart te) (oSome pe) := by
  intro Wp env σ H Fz O fp pv Q Q' F P hp hx hq
  refine ha Wp env σ H Fz O fp pv _ _ F P hp hx fun ra e1 V1 H1 Fz1 fp1 f1 s k F1 r1 t q => ?_
  split at q
  · rename_i b hv
    exact ⟨b, Ow.int (r1.peek F1 hv), hq (some b) e1 H1 Fz1 fp1 s k F1 q⟩
  · exact q.elim
theorem sim_sl (ha : SimE K W pn fl te pe) (hl : SimO K W pn fl2 tl pl) (hh : SimO K W pn fl3 th ph) : SimE K W pn (fl && (fl2 && fl3)) (tSl (rSlU K) te tl th) (pSl pe pl ph) := by
  intro Wp env σ H Fz O fp pv Q Q' F P hp hx hq
  refine ha Wp env σ H Fz O fp pv _ _ F P hp hx fun ra e1 V1 H1 Fz1 fp1 f1 s1 k1 F1 r1 t1 q1 => ?_
  refine hl Wp e1 σ H1 Fz1 (Oft O f1) fp1 pv _ _ (F1.ext t1) P q1 (hx.step s1 fun _ h => .inl h) fun lo e2 H2 Fz2 fp2 s2 k2 F2 q2 => ?_
  refine hh Wp e2 σ H2 Fz2 (Oft O f1) fp2 pv _ _ F2 P q2 (hx.step (s1.trans s2 fun _ h => .inl h) fun _ h => .inl h) fun hi e3 H3 Fz3 fp3 s3 k3 F3 q3 => ?_
  split at q3
  · rename_i v hv
    have F3' := F3.weak (O := O) fun _ h => .inl h
    have s23 := s2.trans s3 fun _ h => h
    refine s_sl F3.tr (((r1.carry s2).carry s3).peek F3 hv) q3 (F3'.aft true fun r V H' Fz' fp' ft s' k' F' o t' q' => ?_)
    refine hq r e3 V H' Fz' fp' ft ((s1.trans s23 fun _ h => .inl h).trans s' fun _ h => h) (fun e => ?_) F' o t' q'
    obtain ⟨z1, z2⟩ := Bool.and_eq_true_iff.mp e
    obtain ⟨z2, z3⟩ := Bool.and_eq_true_iff.mp z2
    exact (((k1 z1).trans (k2 z2) s2).trans (k3 z3) s3).trans (k' rfl) s'
  · exact q3.elim
/-! ### built-in functions -/
theorem sn_or {r r' : List V → Hp → VK → Prop} {g g' G : GN} (h : SN K r g) (h' : SN K r' g') (hG : ∀ v Q, G v Q → g v Q ∨ g' v Q) : SN K (fun x H Q => r x H Q ∨ r' x H Q) G :=
  fun Fz H vs Vs Qp Q' F o q a => (hG vs Qp q).imp (fun q => h Fz H vs Vs Qp Q' F o q a) fun q => h' Fz H vs Vs Qp Q' F o q a
def gLen : GN := fun vs Q => match vs with
  | [.str z] => z.length ≤ sizeLine ∧ Q (.int z.length)
  | [.lst _ xs] => Q (.int xs.length)
  | [.tup xs] => Q (.int xs.length)
  | [.dic _ ks _] => Q (.int ks.length)
  | _ => False
theorem call_lenU : CallR X (.builtin "len") (fun xs H Q => (∃ z, xs = [V.str z] ∧ z.length ≤ sizeLine ∧ Q (.int z.length) H) ∨ (fun xs H Q => (∃ p ys, xs = [V.ref p] ∧ (SqL X.K H p ys ∨ SqT X.K H p ys) ∧ Q (.int ys.length) H) ∨ ∃ a kvs, xs = [V.ref a] ∧ H a = some (.dK kvs) ∧ Q (.int kvs.length) H) xs H Q) := CallR.or call_len_str (CallR.or call_len_seq call_lenD)
theorem OwAs.one {vs : List Val} {Vs : List V} {v : Val} (o : OwAs K Fz H vs Vs) (e : vs = [v]) : ∃ V, Vs = [V] ∧ OwA K Fz H v V := by
  subst e
  cases o with
  | cons o1 o2 => cases o2; exact ⟨_, rfl, o1⟩
theorem OwAs.two {vs : List Val} {Vs : List V} {v w : Val} (o : OwAs K Fz H vs Vs) (e : vs = [v, w]) : ∃ V W, Vs = [V, W] ∧ OwA K Fz H v V ∧ OwA K Fz H w W := by
  subst e
  cases o with
  | cons o1 o2 =>
    cases o2 with
    | cons o2 o3 => cases o3; exact ⟨_, _, rfl, o1, o2⟩
theorem s_len : SN K (fun xs H Q => (∃ z, xs = [V.str z] ∧ z.length ≤ sizeLine ∧ Q (.int z.length) H) ∨ (fun xs H Q => (∃ p ys, xs = [V.ref p] ∧ (SqL K H p ys ∨ SqT K H p ys) ∧ Q (.int ys.length) H) ∨ ∃ a kvs, xs = [V.ref a] ∧ H a = some (.dK kvs) ∧ Q (.int kvs.length) H) xs H Q) gLen := by
  intro Fz H vs Vs Qp Q' F o q a
  unfold gLen at q
  split at q
  · obtain ⟨V, e, o⟩ := o.one rfl
    cases Ow.str o
    exact .inl ⟨_, e, q.1, aft_int a q.2⟩
  · obtain ⟨V, e, o⟩ := o.one rfl
    obtain ⟨l, ys, e1, h, z⟩ := o.lst
    subst e1
    refine .inr (.inl ⟨l, ys, e, .inl h, ?_⟩)
    rw [z.len]
    exact aft_int a q
  · obtain ⟨V, e, o⟩ := o.one rfl
    obtain ⟨l, ys, e1, h, z⟩ := o.tup
    subst e1
    refine .inr (.inl ⟨l, ys, e, .inr h.sq, ?_⟩)
    rw [z.len]
    exact aft_int a q
  · obtain ⟨V, e, o⟩ := o.one rfl
    obtain ⟨l, ys, e1, h, n, z⟩ := o.dic
    subst e1
    refine .inr (.inr ⟨l, _, e, h, ?_⟩)
    rw [List.length_zip, ← n, Nat.min_self]
    exact aft_int a q
  · exact q.elim
def gInt : GN := fun vs Q => match vs with
  | [.int i] => Q (.int i)
  | [.bl k] => Q (.int (if k then 1 else 0))
  | [.str x] => ∃ n, PySem.intText? x = some n ∧ x.length ≤ 640 ∧ Q (.int n)
  | _ => False
abbrev rInt1 : List V → Hp → VK → Prop := fun xs H Q => (∃ i, xs = [.int i] ∧ Q (.int i) H) ∨ ∃ k, xs = [.bl k] ∧ Q (.int (if k then 1 else 0)) H
abbrev rInt2 : List V → Hp → VK → Prop := fun xs H Q => ∃ a n, xs = [.str a] ∧ PySem.intText? a = some n ∧ a.length ≤ 640 ∧ Q (.int n) H
theorem call_intU : CallR X (.type "int") (fun xs H Q => rInt1 xs H Q ∨ rInt2 xs H Q) := CallR.or call_int1 call_int_str
theorem s_int : SN K (fun xs H Q => rInt1 xs H Q ∨ rInt2 xs H Q) gInt := by
  intro Fz H vs Vs Qp Q' F o q a
  unfold gInt at q
  split at q
  · obtain ⟨V, e, o⟩ := o.one rfl
    cases Ow.int o
    exact .inl (.inl ⟨_, e, aft_int a q⟩)
  · obtain ⟨V, e, o⟩ := o.one rfl
    cases Ow.bl o
    exact .inl (.inr ⟨_, e, aft_int a q⟩)
  · obtain ⟨V, e, o⟩ := o.one rfl
    cases Ow.str o
    obtain ⟨n, q1, q2, q3⟩ := q
    exact .inr ⟨_, n, e, q1, q2, aft_int a q3⟩
  · exact q.elim
def gStr : GN := fun vs Q => match vs with
  | [.int i] => i.natAbs.log2 < 1920 ∧ Q (.str (toString i))
  | [.str x] => Q (.str x)
  | _ => False
abbrev rStr1 : List V → Hp → VK → Prop := fun xs H Q => ∃ i, xs = [.int i] ∧ i.natAbs.log2 < 1920 ∧ Q (.str (toString i)) H
abbrev rStr2 : List V → Hp → VK → Prop := fun xs H Q => ∃ a, xs = [.str a] ∧ Q (.str a) H
theorem call_strU : CallR X (.type "str") (fun xs H Q => rStr1 xs H Q ∨ rStr2 xs H Q) := CallR.or call_str_int SkE.call_str_str
theorem s_str : SN K (fun xs H Q => rStr1 xs H Q ∨ rStr2 xs H Q) gStr := by
  intro Fz H vs Vs Qp Q' F o q a
  unfold gStr at q
  split at q
  · obtain ⟨V, e, o⟩ := o.one rfl
    cases Ow.int o
    exact .inl ⟨_, e, q.1, aft_str a q.2⟩
  · obtain ⟨V, e, o⟩ := o.one rfl
    cases Ow.str o
    exact .inr ⟨_, e, aft_str a q⟩
  · exact q.elim
/-- isinstance(x, T), T a built-in class -/
def isT (v : Val) (T : String) : Option Bool :=
  if T = "int" then some (match v with
    | .int _ => true
    | .bl _ => true
    | .ty _ => false
    | _ => false) else if T = "bool" then some (match v with
    | .bl _ => true
    | _ => false) else if T = "str" then some (match v with
    | .str _ => true
    | _ => false) else if T = "tuple" then some (match v with
    | .tup _ => true
    | _ => false) else if T = "list" then some (match v with
    | .lst _ _ => true
    | _ => false) else if T = "dict" then some (match v with
    | .dic _ _ _ => true
    | _ => false) else none
def Val.tyName : Val → Option String
  | .non => some "NoneType"
  | .bl _ => some "bool"
  | .int _ => some "int"
  | .str _ => some "str"
  | .tup _ => some "tuple"
  | .lst _ _ => some "list"
  | .dic _ _ _ => some "dict"
  | _ => none
def gIsi : GN := fun vs Q => match vs with
  | [v, .ty T] => v.tyName.isSome = true ∧ (match isT v T with
    | some b => Q (.bl b)
    | none => False)
  | _ => False
theorem isT_kit {v : Val} {T t : String} {b : Bool} (e : isT v T = some b) (ht : v.tyName = some t) : kitB t T = some b := by
  unfold isT at e
  split at e
  · rename_i h; subst h
    cases v <;> cases ht <;> cases e <;> dsimp only <;> decide +kernel
  · split at e
    · rename_i h; subst h
      cases v <;> cases ht <;> cases e <;> dsimp only <;> decide +kernel
    · split at e
      · rename_i h; subst h
        cases v <;> cases ht <;> cases e <;> dsimp only <;> decide +kernel
      · split at e
        · rename_i h; subst h
          cases v <;> cases ht <;> cases e <;> dsimp only <;> decide +kernel
        · split at e
          · rename_i h; subst h
            cases v <;> cases ht <;> cases e <;> dsimp only <;> decide +kernel
          · split at e
            · rename_i h; subst h
              cases v <;> cases ht <;> cases e <;> dsimp only <;> decide +kernel
            · cases e
theorem sqT_ty {a : Addr} {vs : List V} (h : SqT K H a vs) : TyX K H (.ref a) (.type "tuple") := by
  rcases h with (h | ⟨o, h⟩) | ⟨o, its, n, h1, h2, _⟩
  · exact .base (.tup h)
  · exact .fTuple h
  · exact .kTuple h1 h2
theorem sqL_ty {a : Addr} {vs : List V} (h : SqL K H a vs) : TyX K H (.ref a) (.type "list") := by
  rcases h with (h | ⟨o, h⟩) | ⟨o, its, n, h1, h2, _⟩
  · exact .base (.lst h)
  · exact .base (.frz h)
  · exact .kList h1 h2
theorem ty_of {v : Val} {V : V} {t : String} (o : OwA K Fz H v V) (h : v.tyName = some t) : TyX K H V (.type t) := by
  cases v with
  | non => cases h; cases Ow.non o; exact .base .non
  | bl b => cases h; cases Ow.bl o; exact .base (.bl b)
  | int i => cases h; cases Ow.int o; exact .base (.int i)
  | str x => cases h; cases Ow.str o; exact .base (.str x)
  | tup xs =>
    cases h
    obtain ⟨a, vs, e, f, _⟩ := o.tup
    subst e
    exact sqT_ty f.sq
  | lst b xs =>
    cases h
    obtain ⟨a, vs, e, f, _⟩ := o.lst
    subst e
    exact sqL_ty f
  | dic b ks xs =>
    cases h
    obtain ⟨a, vs, e, f, _⟩ := o.dic
    subst e
    exact .base (.dK f)
  | _ => cases h
theorem s_isi : SN K (rIsi K) gIsi := by
  intro Fz H vs Vs Qp Q' F o q a
  unfold gIsi at q
  split at q
  · rename_i v T
    obtain ⟨q1, q⟩ := q
    obtain ⟨V, W, e, o1, o2⟩ := o.two rfl
    obtain ⟨f, o2⟩ := o2
    cases o2.2
    split at q
    · rename_i b hb
      cases ht : v.tyName with
      | none => rw [ht] at q1; cases q1
      | some t => exact ⟨V, .ty T, .type t, .type T, b, e, .ty T, ty_of o1 ht, kit_ty (isT_kit hb ht), aft_bl a q⟩
    · exact q.elim
  · exact q.elim
def intsOf : List Val → Option (List Int)
  | [] => some []
  | .int i :: xs => (intsOf xs).map (i :: ·)
  | _ => none
theorem ints_of : ∀ {xs : List Val} {ns : List Int} {vs : List V}, intsOf xs = some ns → FznL K Fz H xs vs → vs = ns.map V.int
  | [], ns, vs, e, l => by cases e; exact l
  | .int i :: xs, ns, _, e, l => by
    obtain ⟨v, r, e1, h1, h2⟩ := l
    subst e1
    unfold intsOf at e
    cases z : intsOf xs with
    | none => rw [z] at e; cases e
    | some ms =>
      rw [z] at e
      cases e
      cases (show v = .int i from h1)
      rw [ints_of z h2] <;> rfl
  | .non :: _, _, _, e, _ => by cases e
  | .bl _ :: _, _, _, e, _ => by cases e
  | .str _ :: _, _, _, e, _ => by cases e
  | .ty _ :: _, _, _, e, _ => by cases e
  | .atm _ :: _, _, _, e, _ => by cases e
  | .tup _ :: _, _, _, e, _ => by cases e
  | .lst _ _ :: _, _, _, e, _ => by cases e
  | .dic _ _ _ :: _, _, _, e, _ => by cases e
  | .obj _ _ _ _ :: _, _, _, e, _ => by cases e
  | .exc _ _ _ :: _, _, _, e, _ => by cases e
  | .glo _ :: _, _, _, e, _ => by cases e
def boolsOf : List Val → Option (List Bool)
  | [] => some []
  | .bl i :: xs => (boolsOf xs).map (i :: ·)
  | _ => none
theorem bools_of : ∀ {xs : List Val} {ns : List Bool} {vs : List V}, boolsOf xs = some ns → FznL K Fz H xs vs → vs = ns.map V.bl
  | [], ns, vs, e, l => by cases e; exact l
  | .bl i :: xs, ns, _, e, l => by
    obtain ⟨v, r, e1, h1, h2⟩ := l
    subst e1
    unfold boolsOf at e
    cases z : boolsOf xs with
    | none => rw [z] at e; cases e
    | some ms =>
      rw [z] at e
      cases e
      cases (show v = .bl i from h1)
      rw [bools_of z h2] <;> rfl
  | .non :: _, _, _, e, _ => by cases e
  | .int _ :: _, _, _, e, _ => by cases e
  | .str _ :: _, _, _, e, _ => by cases e
  | .ty _ :: _, _, _, e, _ => by cases e
  | .atm _ :: _, _, _, e, _ => by cases e
  | .tup _ :: _, _, _, e, _ => by cases e
  | .lst _ _ :: _, _, _, e, _ => by cases e
  | .dic _ _ _ :: _, _, _, e, _ => by cases e
  | .obj _ _ _ _ :: _, _, _, e, _ => by cases e
  | .exc _ _ _ :: _, _, _, e, _ => by cases e
  | .glo _ :: _, _, _, e, _ => by cases e
def gMin : GN := fun vs Q => match vs with
  | [.int i, .int j] => Q (.int (if j < i then j else i))
  | [.lst _ xs] => ∃ ns, intsOf xs = some ns ∧ 0 < ns.length ∧ ∀ m, m ∈ ns → (∀ y, y ∈ ns → m ≤ y) → Q (.int m)
  | _ => False
def gMax : GN := fun vs Q => match vs with
  | [.int i, .int j] => Q (.int (if j > i then j else i))
  | [.lst _ xs] => ∃ ns, intsOf xs = some ns ∧ 0 < ns.length ∧ ∀ m, m ∈ ns → (∀ y, y ∈ ns → y ≤ m) → Q (.int m)
  | _ => False
abbrev rMin2 : List V → Hp → VK → Prop := fun xs H Q => ∃ i j, xs = [.int i, .int j] ∧ Q (.int (if j < i then j else i)) H
abbrev rMax2 : List V → Hp → VK → Prop := fun xs H Q => ∃ i j, xs = [.int i, .int j] ∧ Q (.int (if j > i then j else i)) H
theorem call_minU (hc : X.calm = true) : CallR X (.builtin "min") (fun xs H Q => rMin2 xs H Q ∨ rMin X.K xs H Q) := CallR.or (call_min2 hc) (cr_min hc)
theorem call_maxU (hc : X.calm = true) : CallR X (.builtin "max") (fun xs H Q => rMax2 xs H Q ∨ rMax X.K xs H Q) := CallR.or (call_max2 hc) (cr_max hc)
theorem s_min : SN K (fun xs H Q => rMin2 xs H Q ∨ rMin K xs H Q) gMin := by
  intro Fz H vs Vs Qp Q' F o q a
  unfold gMin at q
  split at q
  · obtain ⟨V, W, e, o1, o2⟩ := o.two rfl
    cases Ow.int o1
    cases Ow.int o2
    exact .inl ⟨_, _, e, aft_int a q⟩
  · obtain ⟨V, e, o⟩ := o.one rfl
    obtain ⟨ns, h1, h2, h3⟩ := q
    obtain ⟨l, ys, e1, h, z⟩ := o.lst
    subst e1
    have e2 := ints_of h1 z
    subst e2
    exact .inr ⟨l, ns, e, h, h2, fun m x1 x2 => aft_int a (h3 m x1 x2)⟩
  · exact q.elim
theorem s_max : SN K (fun xs H Q => rMax2 xs H Q ∨ rMax K xs H Q) gMax := by
  intro Fz H vs Vs Qp Q' F o q a
  unfold gMax at q
  split at q
  · obtain ⟨V, W, e, o1, o2⟩ := o.two rfl
    cases Ow.int o1
    cases Ow.int o2
    exact .inl ⟨_, _, e, aft_int a q⟩
  · obtain ⟨V, e, o⟩ := o.one rfl
    obtain ⟨ns, h1, h2, h3⟩ := q
    obtain ⟨l, ys, e1, h, z⟩ := o.lst
    subst e1
    have e2 := ints_of h1 z
    subst e2
    exact .inr ⟨l, ns, e, h, h2, fun m x1 x2 => aft_int a (h3 m x1 x2)⟩
  · exact q.elim
def gAbs : GN := fun vs Q => match vs with
  | [.int i] => Q (.int (if i < 0 then -i else i))
  | _ => False
theorem s_abs : SN K (fun xs H Q => ∃ i, xs = [V.int i] ∧ Q (.int (if i < 0 then -i else i)) H) gAbs := by
  intro Fz H vs Vs Qp Q' F o q a
  unfold gAbs at q
  split at q
  · obtain ⟨V, e, o⟩ := o.one rfl
    cases Ow.int o
    exact ⟨_, e, aft_int a q⟩
  · exact q.elim
def gSum : GN := fun vs Q => match vs with
  | [.lst _ xs] => ∃ ns, intsOf xs = some ns ∧ Q (.int ns.sum)
  | _ => False
theorem s_sum : SN K (rSum K) gSum := by
  intro Fz H vs Vs Qp Q' F o q a
  unfold gSum at q
  split at q
  · obtain ⟨V, e, o⟩ := o.one rfl
    obtain ⟨ns, h1, h3⟩ := q
    obtain ⟨l, ys, e1, h, z⟩ := o.lst
    subst e1
    have e2 := ints_of h1 z
    subst e2
    exact ⟨l, ns, e, h, aft_int a h3⟩
  · exact q.elim
def gAny : GN := fun vs Q => match vs with
  | [.lst _ xs] => (match boolsOf xs with
    | some ns => Q (.bl (ns.any id))
    | none => False)
  | _ => False
def gAll : GN := fun vs Q => match vs with
  | [.lst _ xs] => (match boolsOf xs with
    | some ns => Q (.bl (ns.all id))
    | none => False)
  | _ => False
theorem s_any : SN K (rAny K) gAny := by
  intro Fz H vs Vs Qp Q' F o q a
  unfold gAny at q
  split at q
  · split at q
    · rename_i ns h1
      obtain ⟨V, e, o⟩ := o.one rfl
      obtain ⟨l, ys, e1, h, z⟩ := o.lst
      subst e1
      have e2 := bools_of h1 z
      subst e2
      exact ⟨l, ns, e, h, aft_bl a q⟩
    · exact q.elim
  · exact q.elim
theorem s_all : SN K (rAll K) gAll := by
  intro Fz H vs Vs Qp Q' F o q a
  unfold gAll at q
  split at q
  · split at q
    · rename_i ns h1
      obtain ⟨V, e, o⟩ := o.one rfl
      obtain ⟨l, ys, e1, h, z⟩ := o.lst
      subst e1
      have e2 := bools_of h1 z
      subst e2
      exact ⟨l, ns, e, h, aft_bl a q⟩
    · exact q.elim
  · exact q.elim
def gSorted : GN := fun vs Q => match vs with
  | [.lst _ xs] => ∃ ns, intsOf xs = some ns ∧ ∀ ms : List Int, ms.Perm ns → ms.Pairwise (· ≤ ·) → Q (.lst true (ms.map .int))
  | _ => False
theorem fzn_ints (ms : List Int) : FznL K Fz H (ms.map .int) (ms.map V.int) := by
  induction ms with
  | nil => rfl
  | cons m r ih => exact ⟨.int m, _, rfl, rfl, ih⟩
theorem s_sorted : SN K (rSortedI K) gSorted := by
  intro Fz H vs Vs Qp Q' F o q a
  unfold gSorted at q
  split at q
  · obtain ⟨V, e, o⟩ := o.one rfl
    obtain ⟨ns, h1, h3⟩ := q
    obtain ⟨l, ys, e1, h, z⟩ := o.lst
    subst e1
    have e2 := ints_of h1 z
    subst e2
    exact ⟨l, ns, e, h, fun ms p x1 x2 hp => aft_lst F a (fzn_ints ms) hp (h3 ms x1 x2)⟩
  · exact q.elim
def gList : GN := fun vs Q => match vs with
  | [.lst _ xs] => Q (.lst true xs)
  | [.tup xs] => Q (.lst true xs)
  | _ => False
theorem s_list : SN K (fun xs H Q => ∃ p ys, xs = [V.ref p] ∧ (SqL K H p ys ∨ SqT K H p ys) ∧ ∀ l, H l = none → Q (.ref l) (upd H l (.lst ys))) gList := by
  intro Fz H vs Vs Qp Q' F o q a
  unfold gList at q
  split at q
  · obtain ⟨V, e, o⟩ := o.one rfl
    obtain ⟨l, ys, e1, h, z⟩ := o.lst
    subst e1
    exact ⟨l, ys, e, .inl h, fun p hp => aft_lst F a z hp q⟩
  · obtain ⟨V, e, o⟩ := o.one rfl
    obtain ⟨l, ys, e1, h, z⟩ := o.tup
    subst e1
    exact ⟨l, ys, e, .inr h.sq, fun p hp => aft_lst F a z hp q⟩
  · exact q.elim
def gTuple : GN := fun vs Q => match vs with
  | [.lst _ xs] => Q (.tup xs)
  | [.tup xs] => Q (.tup xs)
  | _ => False
theorem s_tuple : SN K (fun xs H Q => ∃ p ys, xs = [V.ref p] ∧ ((SqL K H p ys ∧ ∀ l, H l = none → Q (.ref l) (upd H l (.tup ys))) ∨ (SqT K H p ys ∧ Q (.ref p) H))) gTuple := by
  intro Fz H vs Vs Qp Q' F o q a
  unfold gTuple at q
  split at q
  · obtain ⟨V, e, o⟩ := o.one rfl
    obtain ⟨l, ys, e1, h, z⟩ := o.lst
    subst e1
    exact ⟨l, ys, e, .inl ⟨h, fun p hp => aft_tup F a z hp q⟩⟩
  · rename_i xs
    obtain ⟨V, e, o⟩ := o.one rfl
    obtain ⟨l, ys, e1, h, z⟩ := o.tup
    subst e1
    exact ⟨l, ys, e, .inr ⟨h.sq, aft_old (u := .tup xs) a ⟨l, ys, rfl, h, z⟩ q⟩⟩
  · exact q.elim
/-! ### repr of plain data -/
def rRepr (K : PySem.W.Frag) : List V → Hp → VK → Prop := fun xs H Q => ∃ v d, xs = [v] ∧ Dp K H v d ∧ d.showable = true ∧ d.hasDict = false ∧ d.depth ≤ 100 ∧ d.shown.length ≤ sizeLine ∧ Q (.str d.shown) H
theorem call_repr (hg : X.A.guards = some []) (hu : X.A.units + 200 < cLine) : CallR X (.builtin "repr") (rRepr X.K) := by
  rintro pins s σ H xs us Q I rv ⟨v, d, e, dp, hs, hd, hde, hz, q⟩
  subst e
  obtain ⟨u, rfl, ru⟩ := vals1 rv
  cases dp with
  | non => cases ru; exact P.repr_of_none ⟨.str _, H, I.tok _, ⟨_, rfl⟩, by simpa only [PyData.shown] using q⟩
  | bl b => cases ru; exact P.repr_of_bool ⟨.str _, H, I.tok _, ⟨_, rfl⟩, by simpa only [PyData.shown] using q⟩
  | int i =>
    obtain ⟨t, rfl⟩ := ru
    exact P.repr_of_int (by simpa [PyData.showable] using hs) ⟨.str _, H, I.tok _, ⟨_, rfl⟩, by simpa only [PyData.shown] using q⟩
  | str x =>
    obtain ⟨t, rfl⟩ := ru
    exact P.repr_of_str ⟨.str _, H, I.tok _, ⟨_, rfl⟩, by simpa only [PyData.shown] using q⟩ (by simpa only [PyData.shown] using hz)
  | lst h1 h2 =>
    cases ru
    obtain ⟨as, r⟩ := Dp.reads I _ _ _ (.lst h1 h2) rfl
    refine repr_of_reads' r hs (fun z => by rw [hd] at z; cases z) hg (by omega) (fun _ _ e => e) (fun h' u tk k => ⟨.str _, H, I.kept (h' := h') (t' := tk) k, ⟨_, rfl⟩, q⟩) hz
  | tup h1 h2 =>
    cases ru
    obtain ⟨as, r⟩ := Dp.reads I _ _ _ (.tup h1 h2) rfl
    refine repr_of_reads' r hs (fun z => by rw [hd] at z; cases z) hg (by omega) (fun _ _ e => e) (fun h' u tk k => ⟨.str _, H, I.kept (h' := h') (t' := tk) k, ⟨_, rfl⟩, q⟩) hz
def gRepr : GN := fun vs Q => match vs with
  | [v] => v.nod = true ∧ v.dat.showable = true ∧ v.dat.hasDict = false ∧ v.dat.depth ≤ 100 ∧ v.dat.shown.length ≤ sizeLine ∧ Q (.str v.dat.shown)
  | _ => False
theorem s_repr : SN K (rRepr K) gRepr := by
  intro Fz H vs Vs Qp Q' F o q a
  unfold gRepr at q
  split at q
  · obtain ⟨V, e, o⟩ := o.one rfl
    obtain ⟨q1, q2, q3, q4, q5, q6⟩ := q
    exact ⟨V, _, e, o.dp q1, q2, q3, q4, q5, aft_str a q6⟩
  · exact q.elim
end
end Qv
set_option Elab.async false
set_option linter.all false
set_option maxRecDepth 100000
set_option maxHeartbeats 4000000
namespace Qv
open PySem PySem.Spec PyProof.Rows L2
/-! ### sources of turns: a list, a tuple, a text -/
inductive Kd where
  | l (a : Addr)
  | t (a : Addr)
  | s (z : Str) (k : Tok)
namespace Kd
def u : Kd → Value
  | .l a => .ref a
  | .t a => .ref a
  | .s z k => .str z k
def v : Kd → V
  | .l a => .ref a
  | .t a => .ref a
  | .s z _ => .str z
def has (K : PySem.W.Frag) (H : Hp) : Kd → List V → Prop
  | .l a, xs => SqL K H a xs
  | .t a, xs => SqT K H a xs
  | .s z _, xs => xs = z.cps.toList.map fun c => V.str ⟨#[c]⟩
def it (h : Heap) (I : Addr) (i : Nat) : Kd → Prop
  | .l a => h.IsListIter I a i
  | .t a => h.IsTupleIter I a i
  | .s z k => h.IsStrIter I (strIterType z) z k i
def below (N : Nat) : Kd → Prop
  | .l a => a < N
  | .t a => a < N
  | .s _ _ => True
def o : Kd → Obj
  | .l a => { cls := .type "list_iterator", data := .fields #[.ref a, .int 0 0] }
  | .t a => { cls := .type "tuple_iterator", data := .fields #[.ref a, .int 0 0] }
  | .s z k => { cls := .type (strIterType z), data := .fields #[.str z k, .int 0 0] }
def fp : Kd → List Addr
  | .l a => [a]
  | .t a => [a]
  | .s _ _ => []
theorem fp_below {k : Kd} {N : Nat} (h : k.below N) : ∀ b ∈ k.fp, b < N := by
  intro b hb
  cases k with
  | l a =>
    have e : b = a := by simpa [Kd.fp] using hb
    rw [e]
    exact h
  | t a =>
    have e : b = a := by simpa [Kd.fp] using hb
    rw [e]
    exact h
  | s z k => cases hb
theorem it_get {k : Kd} {h : Heap} {I : Addr} {i : Nat} (x : k.it h I i) : ∃ o, h.get? I = some o ∧ ∀ v, o.data ≠ .cell v := by
  cases k with
  | l a => obtain ⟨o, e, _, d⟩ := x; exact ⟨o, e, fun v z => by rw [d] at z; cases z⟩
  | t a => obtain ⟨o, e, _, d⟩ := x; exact ⟨o, e, fun v z => by rw [d] at z; cases z⟩
  | s z k => obtain ⟨o, e, _, d⟩ := x; exact ⟨o, e, fun v z => by rw [d] at z; cases z⟩
theorem it_keep {k : Kd} {h h' : Heap} {I : Addr} {i : Nat} (x : k.it h I i) (s : ∀ o, h.get? I = some o → h'.get? I = some o) : k.it h' I i := by
  cases k with
  | l a => obtain ⟨o, e, r⟩ := x; exact ⟨o, s o e, r⟩
  | t a => obtain ⟨o, e, r⟩ := x; exact ⟨o, s o e, r⟩
  | s z k => obtain ⟨o, e, r⟩ := x; exact ⟨o, s o e, r⟩
theorem it_new {k : Kd} {h : Heap} {I : Addr} (x : h.get? I = some k.o) : k.it h I 0 := by
  cases k with
  | l a => exact ⟨_, x, rfl, rfl⟩
  | t a => exact ⟨_, x, rfl, rfl⟩
  | s z k => exact ⟨_, x, rfl, rfl⟩
section
variable {X : Cx} {pins : List (Addr × Obj)} {σ : L2.St} {H : Hp} {s : Shared}
/-- the walk's draws, from the frame as it stands -/
theorem draws {k : Kd} {xs : List V} {I : Addr} {N : Nat} (J : Inv X pins σ H s) (hx : k.has X.K H xs) (hb : k.below N) (hI : N ≤ I) (A : Around) (hh : A.handled = none) :
    ∃ (P : Nat → Value → Prop) (S : Nat → Heap → Prop), Draws X.prog X.w A I (I :: k.fp) xs.length P S ∧ (∀ (i : Nat) (x : V) (u : Value), P i u → xs[i]? = some x → RelV x u) ∧ (∀ i h, S i h → k.it h I i) ∧ ∀ i, k.it s.heap I i → S i s.heap := by
  cases k with
  | l a =>
    obtain ⟨its, rv, p, hz⟩ := J.list hx
    have hl := rv.length
    have hne : a ≠ I := Nat.ne_of_lt (Nat.lt_of_lt_of_le hb hI)
    have D := Draws.list (prog := X.prog) (w := X.w) (A := A) hh I a hne its.toArray
    rw [show its.toArray.size = xs.length by simp [hl]] at D
    refine ⟨_, _, D, fun i x u hp hxi => ?_, fun i h hs => hs.1, fun i hi => ⟨hi, p.isList⟩⟩
    obtain ⟨u', hu, ru⟩ := rv.get hxi
    have e : its[i]? = some u := by simpa using hp
    rw [hu] at e
    cases e
    exact ru
  | t a =>
    obtain ⟨its, rv, p, hz⟩ := J.tuple hx
    have hl := rv.length
    have hne : a ≠ I := Nat.ne_of_lt (Nat.lt_of_lt_of_le hb hI)
    have D := Draws.tuple (prog := X.prog) (w := X.w) (A := A) hh I a hne its.toArray
    rw [show its.toArray.size = xs.length by simp [hl]] at D
    refine ⟨_, _, D, fun i x u hp hxi => ?_, fun i h hs => hs.1, fun i hi => ⟨hi, show s.heap.IsTuple a its.toArray from p⟩⟩
    obtain ⟨u', hu, ru⟩ := rv.get hxi
    have e : its[i]? = some u := by simpa using hp
    rw [hu] at e
    cases e
    exact ru
  | s z k =>
    have D := Draws.text (prog := X.prog) (w := X.w) (A := A) hh I z k
    have hx' : xs = z.cps.toList.map fun c => V.str ⟨#[c]⟩ := hx
    subst hx'
    rw [show z.cps.size = (z.cps.toList.map fun c => V.str ⟨#[c]⟩).length by simp] at D
    refine ⟨_, _, D, fun i x u hp hxi => ?_, fun i h hs => hs, fun i hi => hi⟩
    obtain ⟨c, t, hc, rfl⟩ := hp
    have e : (z.cps.toList.map fun c => V.str ⟨#[c]⟩)[i]? = some (V.str ⟨#[c]⟩) := by
      rw [List.getElem?_map, Array.getElem?_toList, hc] <;> rfl
    rw [e] at hxi
    cases hxi
    exact ⟨t, rfl⟩
theorem begins {k : Kd} {xs : List V} (J : Inv X pins σ H s) (hx : k.has X.K H xs) : ∃ B : Heap → Prop, Begins k.u k.o B ∧ B s.heap ∧ k.below s.heap.objs.size := by
  cases k with
  | l a =>
    obtain ⟨its, rv, p, hz⟩ := J.list hx
    exact ⟨_, begins_list a its.toArray, p.isList, p.lt⟩
  | t a =>
    obtain ⟨its, rv, p, hz⟩ := J.tuple hx
    obtain ⟨o1, ho1, _⟩ := id p
    exact ⟨_, begins_tuple a its.toArray, p, Heap.lt_size ho1⟩
  | s z k => exact ⟨_, begins_text z k, trivial, trivial⟩
theorem inj {k : Kd} {xs ys : List V} (J : Inv X pins σ H s) (hx : k.has X.K H xs) (hy : k.has X.K H ys) : xs = ys := by
  cases k with
  | l a => exact J.list_inj hx hy
  | t a => exact J.tuple_inj hx hy
  | s z k => rw [show xs = _ from hx, show ys = _ from hy]
end
end Kd
/-! ### zip of any two -/
def ItK2 (K : PySem.W.Frag) (a b : Kd) : It :=
  ⟨fun i H => ∃ (xs ys : List V) (x y : V), a.has K H xs ∧ b.has K H ys ∧ xs[i]? = some x ∧ ys[i]? = some y,
    fun i H v H' => ∃ T x y, v = .ref T ∧ H T = none ∧ H' = upd H T (.tup [x, y]) ∧ (∀ xs, a.has K H xs → xs[i]? = some x) ∧ ∀ ys, b.has K H ys → ys[i]? = some y,
    fun i H => ∃ xs ys : List V, a.has K H xs ∧ b.has K H ys ∧ i = min xs.length ys.length⟩
theorem turn_zipK {P : Program} {w : World} {K : PySem.W.Frag} {elts : List Expr} {kk : Nat} {tpos : Pos} {a b : Kd} {N : Nat} (ba : a.below N) (bb : b.below N) :
    Turn P w K (.Tuple elts kk tpos) (ItK2 K a b) [N + 4, N + 2, N + 3, N, N + 1] (N + 4) (fun i h => IsZip h (N + 4) (N + 2) (N + 3) .none ∧ IsTupOf2 h (N + 2) (.ref N) (.ref (N + 1)) ∧ (∃ x y, IsTupOf2 h (N + 3) x y) ∧ a.it h N i ∧ b.it h (N + 1) i) where
  mem := by simp
  obj := fun i h st c hc => by
    obtain ⟨hz, hTI, ⟨x, y, hTO⟩, h1, h2⟩ := st
    have e' : c = N + 4 ∨ c = N + 2 ∨ c = N + 3 ∨ c = N ∨ c = N + 1 := by simpa using hc
    rcases e' with q | q | q | q | q
    · rw [q]; exact ⟨_, hz, fun v q => nomatch q⟩
    · rw [q]; exact ⟨_, hTI, fun v q => nomatch q⟩
    · rw [q]; exact ⟨_, hTO, fun v q => nomatch q⟩
    · rw [q]; exact Kd.it_get h1
    · rw [q]; exact Kd.it_get h2
  keep := fun i h h' st k => by
    obtain ⟨hz, hTI, ⟨x, y, hTO⟩, h1, h2⟩ := st
    exact ⟨k _ (by simp) _ hz, k _ (by simp) _ hTI, ⟨x, y, k _ (by simp) _ hTO⟩, Kd.it_keep h1 fun o q => k _ (by simp) o q, Kd.it_keep h2 fun o q => k _ (by simp) o q⟩
  item := by
    intro X hP hw hK hc i pins s σ H E I hf st hg
    subst hP hw hK
    obtain ⟨hz, hTI, hTO, h1, h2⟩ := st
    obtain ⟨xs, ys, x, y, hqx, hqy, hx, hy⟩ := hg
    obtain ⟨P1, S1, D1, r1, o1, i1⟩ := Kd.draws I hqx ba (Nat.le_refl N) X.A.in1 (I.ok.hd hc)
    obtain ⟨P2, S2, D2, r2, o2, i2⟩ := Kd.draws I hqy bb (Nat.le_succ N) X.A.in1 (I.ok.hd hc)
    have W := WalksT.zipD2 (A := X.A) (zip_sep2 (Kd.fp_below ba) (Kd.fp_below bb)) D1 D2
    have hlx : i < xs.length := (List.getElem?_eq_some_iff.mp hx).1
    have hly : i < ys.length := (List.getElem?_eq_some_iff.mp hy).1
    have sub : ∀ c : Addr, c ∈ ([N + 4, N + 3, N, N + 1] : List Addr) → c ∈ ([N + 4, N + 2, N + 3, N, N + 1] : List Addr) := fun c hc => by
      have e' : c = N + 4 ∨ c = N + 3 ∨ c = N ∨ c = N + 1 := by simpa using hc
      rcases e' with q | q | q | q <;> (rw [q]; simp)
    have lt : ∀ c ∈ ([N + 4, N + 2, N + 3, N, N + 1] : List Addr), c < s.heap.objs.size := fun c hc => by
      have e' : c = N + 4 ∨ c = N + 2 ∨ c = N + 3 ∨ c = N ∨ c = N + 1 := by simpa using hc
      have hz5 : N + 4 < s.heap.objs.size := Heap.lt_size hz
      rcases e' with q | q | q | q | q <;> (rw [q]; exact Nat.lt_of_le_of_lt (by omega) hz5)
    refine W.item i s _ _ (by omega) ⟨hz, hTI, hTO, i1 _ h1, i2 _ h2⟩ fun T vals h' tk hp hT hT2 mid fr => ?_
    obtain ⟨u1, u2, p1, p2, ev⟩ := hp
    subst ev
    refine ⟨_, rfl, ?_⟩
    refine W.go elts kk tpos i T { s with heap := h', toks := tk } _ _ mid fun h'' st'' fr2 => ?_
    have hT3 : h''.IsTuple T #[u1, u2] := hT2.at fun o e => fr2 T o (W.apart _ _ _ mid) e
    have new : ObjOk X.prog X.w (upd H T (.tup [x, y])) h'' T (.tup [x, y]) :=
      ⟨by show 2 ≤ sizeLine; decide, [u1, u2], .cons (r1 i x u1 p1 hx) (.cons (r2 i y u2 p2 hy) .nil), hT3⟩
    have I1 : Inv X pins σ (upd H T (.tup [x, y])) { s with heap := h'', toks := tk } :=
      I.turnedNew (t' := tk) (ch := [N + 4, N + 2, N + 3, N, N + 1]) (fun c o hb q => fr2 c o (fun z => hb (sub c z)) (fr c o (fun z => hb (sub c z)) q)) hf hT new
    obtain ⟨hz', hTI', hTO', s1, s2⟩ := st''
    refine ⟨.ref T, _, I1, rfl, ⟨T, x, y, rfl, I.hok.fresh hT, rfl, fun l hl => by rw [Kd.inj I hl hqx]; exact hx, fun l hl => by rw [Kd.inj I hl hqy]; exact hy⟩, ⟨hz', hTI', hTO', o1 _ _ s1, o2 _ _ s2⟩, fun c hcm => ?_⟩
    rw [upd_ne (Nat.ne_of_lt (Nat.lt_of_lt_of_le (lt c hcm) hT))]
    exact (hf c hcm).1
  done := by
    intro X hP hw hK hc i pins s σ H E I hf st hg
    subst hP hw hK
    obtain ⟨hz, hTI, hTO, h1, h2⟩ := st
    obtain ⟨xs, ys, hqx, hqy, hi⟩ := hg
    obtain ⟨P1, S1, D1, r1, o1, i1⟩ := Kd.draws I hqx ba (Nat.le_refl N) X.A.in1 (I.ok.hd hc)
    obtain ⟨P2, S2, D2, r2, o2, i2⟩ := Kd.draws I hqy bb (Nat.le_succ N) X.A.in1 (I.ok.hd hc)
    have W := WalksT.zipD2 (A := X.A) (zip_sep2 (Kd.fp_below ba) (Kd.fp_below bb)) D1 D2
    have sub : ∀ c : Addr, c ∈ ([N + 4, N + 3, N, N + 1] : List Addr) → c ∈ ([N + 4, N + 2, N + 3, N, N + 1] : List Addr) := fun c hc => by
      have e' : c = N + 4 ∨ c = N + 3 ∨ c = N ∨ c = N + 1 := by simpa using hc
      rcases e' with q | q | q | q <;> (rw [q]; simp)
    rw [hi] at h1 h2
    refine W.done s _ _ ⟨hz, hTI, hTO, i1 _ h1, i2 _ h2⟩ fun h' tk fr => ⟨rfl, I.turnedL (t' := tk) (ch := [N + 4, N + 2, N + 3, N, N + 1]) (fun c o hb q => fr c o (fun z => hb (sub c z)) q) hf⟩
  self := fun A i s Q E st h => wpAny_pyIter_zip st.1 h
/-! ### enumerate of any -/
def ItKe (K : PySem.W.Frag) (a : Kd) (k : Int) : It :=
  ⟨fun i H => ∃ (xs : List V) (x : V), a.has K H xs ∧ xs[i]? = some x,
    fun i H v H' => ∃ T x, v = .ref T ∧ H T = none ∧ H' = upd H T (.tup [.int (k + (i : Nat)), x]) ∧ ∀ xs, a.has K H xs → xs[i]? = some x,
    fun i H => ∃ xs : List V, a.has K H xs ∧ i = xs.length⟩
theorem turn_enumK {P : Program} {w : World} {K : PySem.W.Frag} {elts : List Expr} {kk : Nat} {tpos : Pos} {a : Kd} {N : Nat} {k : Int} (ba : a.below N) :
    Turn P w K (.Tuple elts kk tpos) (ItKe K a k) [N + 1, N] (N + 1) (fun i h => (∃ old, IsEnum h (N + 1) N (k + ((i : Nat) : Int)) old) ∧ a.it h N i) where
  mem := by simp
  obj := fun i h st c hc => by
    obtain ⟨⟨old, he⟩, h1⟩ := st
    have e' : c = N + 1 ∨ c = N := by simpa using hc
    rcases e' with q | q
    · rw [q]; exact ⟨_, he, fun v q => nomatch q⟩
    · rw [q]; exact Kd.it_get h1
  keep := fun i h h' st k => by
    obtain ⟨⟨old, he⟩, h1⟩ := st
    exact ⟨⟨old, k _ (by simp) _ he⟩, Kd.it_keep h1 fun o q => k _ (by simp) o q⟩
  item := by
    intro X hP hw hK hc i pins s σ H E I hf st hg
    subst hP hw hK
    obtain ⟨⟨old, he⟩, h1⟩ := st
    obtain ⟨xs, x, hqx, hx⟩ := hg
    obtain ⟨P1, S1, D1, r1, o1, i1⟩ := Kd.draws I hqx ba (Nat.le_refl N) X.A.in1 (I.ok.hd hc)
    have hef : N + 1 ∉ N :: a.fp := fun z => by
      rcases List.mem_cons.mp z with q | q
      · exact Nat.succ_ne_self N q
      · have z := Kd.fp_below ba _ q
        exact absurd (show N + 1 < N from z) (by omega)
    have W := WalksT.enumFrom (A := X.A) k D1 (N + 1) (Nat.succ_ne_self N) hef (by simp)
    have hlx : i < xs.length := (List.getElem?_eq_some_iff.mp hx).1
    have lt : ∀ c ∈ ([N + 1, N] : List Addr), c < s.heap.objs.size := fun c hc => by
      have e' : c = N + 1 ∨ c = N := by simpa using hc
      have hz5 : N + 1 < s.heap.objs.size := Heap.lt_size he
      rcases e' with q | q <;> (rw [q]; exact Nat.lt_of_le_of_lt (by omega) hz5)
    refine W.item i s _ _ hlx ⟨⟨old, he⟩, i1 _ h1⟩ fun T vals h' tk hp hT hT2 mid fr => ?_
    obtain ⟨t, u1, p1, ev⟩ := hp
    subst ev
    refine ⟨_, rfl, ?_⟩
    refine W.go elts kk tpos i T { s with heap := h', toks := tk } _ _ mid fun h'' st'' fr2 => ?_
    have hT3 : h''.IsTuple T #[.int (k + (i : Int)) t, u1] := hT2.at fun o e => fr2 T o (W.apart _ _ _ mid) e
    have new : ObjOk X.prog X.w (upd H T (.tup [.int (k + (i : Nat)), x])) h'' T (.tup [.int (k + (i : Nat)), x]) :=
      ⟨by show 2 ≤ sizeLine; decide, [.int (k + (i : Int)) t, u1], .cons ⟨_, rfl⟩ (.cons (r1 i x u1 p1 hx) .nil), hT3⟩
    have I1 : Inv X pins σ (upd H T (.tup [.int (k + (i : Nat)), x])) { s with heap := h'', toks := tk } :=
      I.turnedNew (t' := tk) (ch := [N + 1, N]) (fun c o hb q => fr2 c o hb (fr c o hb q)) hf hT new
    obtain ⟨he', s1⟩ := st''
    refine ⟨.ref T, _, I1, rfl, ⟨T, x, rfl, I.hok.fresh hT, rfl, fun l hl => by rw [Kd.inj I hl hqx]; exact hx⟩, ⟨he', o1 _ _ s1⟩, fun c hcm => ?_⟩
    rw [upd_ne (Nat.ne_of_lt (Nat.lt_of_lt_of_le (lt c hcm) hT))]
    exact (hf c hcm).1
  done := by
    intro X hP hw hK hc i pins s σ H E I hf st hg
    subst hP hw hK
    obtain ⟨⟨old, he⟩, h1⟩ := st
    obtain ⟨xs, hqx, hi⟩ := hg
    obtain ⟨P1, S1, D1, r1, o1, i1⟩ := Kd.draws I hqx ba (Nat.le_refl N) X.A.in1 (I.ok.hd hc)
    have hef : N + 1 ∉ N :: a.fp := fun z => by
      rcases List.mem_cons.mp z with q | q
      · exact Nat.succ_ne_self N q
      · have z := Kd.fp_below ba _ q
        exact absurd (show N + 1 < N from z) (by omega)
    have W := WalksT.enumFrom (A := X.A) k D1 (N + 1) (Nat.succ_ne_self N) hef (by simp)
    rw [hi] at h1 he
    refine W.done s _ _ ⟨⟨old, he⟩, i1 _ h1⟩ fun h' tk fr => ⟨rfl, I.turnedL (t' := tk) (ch := [N + 1, N]) fr hf⟩
  self := fun A i s Q E st h => let ⟨⟨_, he⟩, _⟩ := st; wpAny_pyIter_enum he h
/-! ### what stands behind a walked value -/
inductive Kt where
  | l
  | t
  | s
def Kd.tag : Kd → Kt
  | .l _ => .l
  | .t _ => .t
  | .s _ _ => .s
def src (K : PySem.W.Frag) (t : Kt) (H : Hp) (v : V) (xs : List V) : Prop := match t with
  | .l => ∃ a, v = .ref a ∧ SqL K H a xs
  | .t => ∃ a, v = .ref a ∧ SqT K H a xs
  | .s => ∃ z, v = .str z ∧ xs = z.cps.toList.map fun c => V.str ⟨#[c]⟩
theorem src_kd {K : PySem.W.Frag} {t : Kt} {H : Hp} {v : V} {u : Value} {xs : List V} (h : src K t H v xs) (r : RelV v u) : ∃ k : Kd, k.v = v ∧ k.u = u ∧ k.tag = t ∧ k.has K H xs := by
  cases t with
  | l =>
    obtain ⟨a, e, h⟩ := h
    subst e
    cases r
    exact ⟨.l a, rfl, rfl, rfl, h⟩
  | t =>
    obtain ⟨a, e, h⟩ := h
    subst e
    cases r
    exact ⟨.t a, rfl, rfl, rfl, h⟩
  | s =>
    obtain ⟨z, e, h⟩ := h
    subst e
    obtain ⟨k, rfl⟩ := r
    exact ⟨.s z k, rfl, rfl, rfl, h⟩
theorem kd_src {K : PySem.W.Frag} {H : Hp} {k : Kd} {v : V} {t : Kt} {xs : List V} (ev : k.v = v) (et : k.tag = t) (h : src K t H v xs) : k.has K H xs := by
  subst ev et
  cases k with
  | l a =>
    obtain ⟨b, e, h⟩ := h
    cases e
    exact h
  | t a =>
    obtain ⟨b, e, h⟩ := h
    cases e
    exact h
  | s z k =>
    obtain ⟨b, e, h⟩ := h
    cases e
    exact h
def iAnyT (K : PySem.W.Frag) (te : TE) : TI := fun σ H R => te σ H fun x H1 => ∃ xs, (∃ a, x = .ref a ∧ SqL K H1 a xs ∧ R (Itl K a) H1) ∨ (∃ a, x = .ref a ∧ SqT K H1 a xs ∧ R (Itt K a) H1) ∨ ∃ z, x = .str z ∧ R (Its z) H1
def iZipK (K : PySem.W.Frag) (ta : TA) : TI := fun σ H R => ta σ H fun vs H1 => ∃ v1 v2 t1 t2 xs ys, vs = [v1, v2] ∧ src K t1 H1 v1 xs ∧ src K t2 H1 v2 ys ∧ ∀ a b : Kd, a.v = v1 → a.tag = t1 → b.v = v2 → b.tag = t2 → R (ItK2 K a b) H1
def iEnumK (K : PySem.W.Frag) (ta : TA) : TI := fun σ H R => ta σ H fun vs H1 => ∃ v1 t1 xs, vs = [v1] ∧ src K t1 H1 v1 xs ∧ ∀ a : Kd, a.v = v1 → a.tag = t1 → R (ItKe K a 0) H1
def iEnumK2 (K : PySem.W.Frag) (ta : TA) : TI := fun σ H R => ta σ H fun vs H1 => ∃ v1 k t1 xs, vs = [v1, .int k] ∧ (-(2 ^ 63) ≤ k ∧ k < 2 ^ 63) ∧ src K t1 H1 v1 xs ∧ ∀ a : Kd, a.v = v1 → a.tag = t1 → R (ItKe K a k) H1
section
variable {X : Cx} {tg : Expr}
theorem pi_any {e : Expr} {te : TE} (he : PE X e te) : PI X tg e (iAnyT X.K te) := by
  refine ⟨fun pins s σ H R I h => ?_⟩
  refine thn (he.run pins s σ H _ I h) fun v s1 ⟨y, H1, I1, r1, xs, q⟩ => ?_
  rcases q with ⟨a, ex, hq, q⟩ | ⟨a, ex, hq, q⟩ | ⟨x, ex, q⟩
  · subst ex
    cases r1
    obtain ⟨its, rv, p, hz⟩ := I1.list hq
    exact wpAny_pyIter_list p.isList (pi_one (tk := s1.toks) I1 _ (turn_list a _) ⟨_, Heap.get?_push_size _ rfl, rfl, rfl⟩ q)
  · subst ex
    cases r1
    obtain ⟨its, rv, p, hz⟩ := I1.tuple hq
    exact wpAny_pyIter_tuple (show s1.heap.IsTuple a its.toArray from p) (pi_one (tk := s1.toks) I1 _ (turn_tuple a _) ⟨_, Heap.get?_push_size _ rfl, rfl, rfl⟩ q)
  · subst ex
    obtain ⟨t, rfl⟩ := r1
    cases ha : x.cps.all (· < 128)
    · exact wpAny_pyIter_wide ha (pi_one (tk := s1.toks) I1 _ (turn_str _ x t "str_iterator" (.inr rfl)) ⟨_, Heap.get?_push_size _ rfl, rfl, rfl⟩ q)
    · exact wpAny_pyIter_ascii ha (pi_one (tk := s1.toks) I1 _ (turn_str _ x t "str_ascii_iterator" (.inl rfl)) ⟨_, Heap.get?_push_size _ rfl, rfl, rfl⟩ q)
theorem pi_zipK {e e2 : Expr} {ta : TA} {p pos tpos : Pos} {elts : List Expr} {kk : Nat} (hg : Gl X "zip") (hm : X.mg "zip" = none) (ha : PA X [e, e2] ta)
    (hs : starEach [e, e2] X.env = (false, eval e X.env) :: starEach [e2] X.env := by rfl) (hpl : (backTo pos (starEach [e2] X.env)).any (·.1) = false := by rfl) :
    PI X (.Tuple elts kk tpos) (.Call (.Name "zip" p) [e, e2] [] pos) (iZipK X.K ta) := by
  refine ⟨fun pins s σ H R I h => ?_⟩
  refine Call_ (ld_blt I hg hm PyProof.Rows.boot_zip (PyProof.Rows.callWith_type1 (thn (ha.run pos pins s σ H _ I h) fun us s1 ⟨vs, H1, I1, r1, q1⟩ => ?_) hs hpl))
  obtain ⟨v1, v2, t1, t2, xs, ys, ex, hqx, hqy, q⟩ := q1
  subst ex
  cases r1 with
  | cons r rr =>
    cases rr with
    | cons r' rr =>
      cases rr
      obtain ⟨a, a1, a2, a3, a4⟩ := src_kd hqx r
      obtain ⟨b, b1, b2, b3, b4⟩ := src_kd hqy r'
      obtain ⟨B1, g1, g2, g3⟩ := Kd.begins I1 a4
      obtain ⟨B2, k1, k2, k3⟩ := Kd.begins I1 b4
      rw [a2] at g1
      rw [b2] at k1
      refine zip_begins2 g1 k1 g2 k2 fun h' hz hTI hTO h1 h2 hsz hk => wpAny_pyIter_zip hz ?_
      have I2 : Inv X pins σ H1 { s1 with heap := h' } := I1.kept (t' := s1.toks) hk
      refine ⟨s1.heap.objs.size + 4, [s1.heap.objs.size + 4, s1.heap.objs.size + 2, s1.heap.objs.size + 3, s1.heap.objs.size, s1.heap.objs.size + 1], _, _, H1, rfl, I2, turn_zipK g3 k3, ⟨hz, hTI, ⟨_, _, hTO⟩, Kd.it_new h1, Kd.it_new h2⟩, fun c hcm => ?_, q a b a1 a3 b1 b3⟩
      have hle : s1.heap.objs.size ≤ c := by
        have e' : c = s1.heap.objs.size + 4 ∨ c = s1.heap.objs.size + 2 ∨ c = s1.heap.objs.size + 3 ∨ c = s1.heap.objs.size ∨ c = s1.heap.objs.size + 1 := by simpa using hcm
        rcases e' with z | z | z | z | z
        · rw [z]; exact Nat.le_add_right _ _
        · rw [z]; exact Nat.le_add_right _ _
        · rw [z]; exact Nat.le_add_right _ _
        · rw [z]; exact Nat.le_refl _
        · rw [z]; exact Nat.le_add_right _ _
      exact I1.fpOk hle (I1.hok.fresh hle)
theorem pi_enumK2 {e e2 : Expr} {ta : TA} {p pos tpos : Pos} {elts : List Expr} {kk : Nat} (hg : Gl X "enumerate") (hm : X.mg "enumerate" = none) (ha : PA X [e, e2] ta)
    (hs : starEach [e, e2] X.env = (false, eval e X.env) :: starEach [e2] X.env := by rfl) (hpl : (backTo pos (starEach [e2] X.env)).any (·.1) = false := by rfl) :
    PI X (.Tuple elts kk tpos) (.Call (.Name "enumerate" p) [e, e2] [] pos) (iEnumK2 X.K ta) := by
  refine ⟨fun pins s σ H R I h => ?_⟩
  refine Call_ (ld_blt I hg hm boot_enumerate (PyProof.Rows.callWith_type1 (thn (ha.run pos pins s σ H _ I h) fun us s1 ⟨vs, H1, I1, r1, q1⟩ => ?_) hs hpl))
  obtain ⟨v1, k, t1, xs, ex, ⟨c1, c2⟩, hqx, q⟩ := q1
  subst ex
  cases r1 with
  | cons r rr =>
    cases rr with
    | cons r' rr =>
      cases rr
      obtain ⟨t, rfl⟩ := r'
      obtain ⟨a, a1, a2, a3, a4⟩ := src_kd hqx r
      obtain ⟨B1, g1, g2, g3⟩ := Kd.begins I1 a4
      rw [a2] at g1
      refine enum_begins g1 g2 c1 c2 fun h' he h1 hsz hk => wpAny_pyIter_enum he ?_
      have I2 : Inv X pins σ H1 { s1 with heap := h' } := I1.kept (t' := s1.toks) hk
      refine ⟨s1.heap.objs.size + 1, [s1.heap.objs.size + 1, s1.heap.objs.size], _, _, H1, rfl, I2, turn_enumK (k := k) g3, ⟨⟨.none, by simpa using he⟩, Kd.it_new h1⟩, fun c hcm => ?_, q a a1 a3⟩
      have hle : s1.heap.objs.size ≤ c := by
        have e' : c = s1.heap.objs.size + 1 ∨ c = s1.heap.objs.size := by simpa using hcm
        rcases e' with z | z
        · rw [z]; exact Nat.le_add_right _ _
        · rw [z]; exact Nat.le_refl _
      exact I1.fpOk hle (I1.hok.fresh hle)
end
set_option maxHeartbeats 8000000 in
theorem meets_enumB1 {v : Value} {o : Obj} {H : Heap → Prop} (B : Begins v o H) :
    Meets (Builtin.«enumerate.__new__» ⟨[.type "enumerate", v], []⟩) (fun _ R s => H s.heap ∧
      R (.ok (.ret (.ref (s.heap.push o).objs.size))) { s with heap := (s.heap.push o).push { cls := .type "enumerate", data := .fields #[.none, .bool false, .ref s.heap.objs.size, rawInt 0, .none, .none] } }) :=
  .of_wp fun prog w A R s h => by
    obtain ⟨hp, g, d, tk, os⟩ := s
    obtain ⟨h1, h⟩ := h
    have hsub := sub_enumerate
    have q1 : ∀ {A' : Around} {E : Value → Shared → Prop} {Q : Value → Shared → Prop}, Q (.ref hp.objs.size) ⟨hp.push o, g, d, tk, os⟩ → wpAny (model prog w) A' (pyIter v) Q E ⟨hp, g, d, tk, os⟩ :=
      fun q => B.iter prog w _ _ ⟨hp, g, d, tk, os⟩ _ h1 q
    wp_walk using q1
    refine wpAny_stack_any fun st => wpAny_pure ?_
    split
    · rename_i c _ _ _ _ _
      cases (c == Value.type "enumerate")
      · wp_walk using q1
        exact ⟨_, rfl, h⟩
      · wp_walk using q1
        exact ⟨_, rfl, h⟩
    · wp_walk using q1
      exact ⟨_, rfl, h⟩
theorem enum_begins1 {prog : Program} {w : World} {A : Around} {E : Value → Shared → Prop} {s : Shared} {v : Value} {o : Obj} {H : Heap → Prop} {Q : Value → Shared → Prop} (B : Begins v o H) (h1 : H s.heap)
    (h : ∀ h', IsEnum h' (s.heap.objs.size + 1) s.heap.objs.size 0 .none → h'.get? s.heap.objs.size = some o → h'.objs.size = s.heap.objs.size + 2 →
      (∀ b o, s.heap.get? b = some o → h'.get? b = some o) → Q (.ref (s.heap.objs.size + 1)) { s with heap := h' }) :
    wpAny (model prog w) A (call (.type "enumerate") [v]) Q E s := by
  refine callType_new F.called_enumerate (by decide) (F.typeCall_enumerate_1 _) (F.newCall_enumerate_1 _) (fun obj => F.args_object_init_2 obj _) F.entry_enumerate_new
    (meets_enumB1 B) ⟨h1, ?_⟩
  have hz : (s.heap.push o).objs.size = s.heap.objs.size + 1 := Heap.size_push ..
  show _ ∧ _
  rw [hz]
  have he : IsEnum ((s.heap.push o).push { cls := .type "enumerate", data := .fields #[.none, .bool false, .ref s.heap.objs.size, rawInt 0, .none, .none] }) (s.heap.objs.size + 1) s.heap.objs.size 0 .none := by
    have := Heap.get?_push_size (s.heap.push o) (o := { cls := .type "enumerate", data := .fields #[.none, .bool false, .ref s.heap.objs.size, rawInt 0, .none, .none] }) rfl
    rw [hz] at this; exact this
  refine ⟨⟨_, he, rfl⟩, h _ he (Heap.get?_push_of_some _ (Heap.get?_push_size _ B.free)) (by rw [Heap.size_push, hz]) fun b o x => Heap.get?_push_of_some _ (Heap.get?_push_of_some _ x)⟩
theorem pi_enumK {X : Cx} {e : Expr} {ta : TA} {p pos tpos : Pos} {elts : List Expr} {kk : Nat} (hg : Gl X "enumerate") (hm : X.mg "enumerate" = none) (ha : PA X [e] ta)
    (hs : starEach [e] X.env = [(false, eval e X.env)] := by rfl) :
    PI X (.Tuple elts kk tpos) (.Call (.Name "enumerate" p) [e] [] pos) (iEnumK X.K ta) := by
  refine ⟨fun pins s σ H R I h => ?_⟩
  refine Call_ (ld_blt I hg hm boot_enumerate (PyProof.Rows.callWith_type1 (thn (ha.run pos pins s σ H _ I h) fun us s1 ⟨vs, H1, I1, r1, q1⟩ => ?_) hs rfl))
  obtain ⟨v1, t1, xs, ex, hqx, q⟩ := q1
  subst ex
  cases r1 with
  | cons r rr =>
    cases rr
    obtain ⟨a, a1, a2, a3, a4⟩ := src_kd hqx r
    obtain ⟨B1, g1, g2, g3⟩ := Kd.begins I1 a4
    rw [a2] at g1
    refine enum_begins1 g1 g2 fun h' he h1 hsz hk => wpAny_pyIter_enum he ?_
    have I2 : Inv X pins σ H1 { s1 with heap := h' } := I1.kept (t' := s1.toks) hk
    refine ⟨s1.heap.objs.size + 1, [s1.heap.objs.size + 1, s1.heap.objs.size], _, _, H1, rfl, I2, turn_enumK (k := 0) g3, ⟨⟨.none, by simpa using he⟩, Kd.it_new h1⟩, fun c hcm => ?_, q a a1 a3⟩
    have hle : s1.heap.objs.size ≤ c := by
      have e' : c = s1.heap.objs.size + 1 ∨ c = s1.heap.objs.size := by simpa using hcm
      rcases e' with z | z
      · rw [z]; exact Nat.le_add_right _ _
      · rw [z]; exact Nat.le_refl _
    exact I1.fpOk hle (I1.hok.fresh hle)
/-! ### their simulations -/
section
variable {K : PySem.W.Frag} {Fz Fz' O : Addr → Prop} {H H' : Hp} {env : Env} {σ : L2.St} {fp : Nat → List Addr} {pn : List Nat} {pv : Nat → V} {W : WX} {fl : Bool}
/-- a walked value that is frozen stays what it is -/
theorem src_of {v : Val} {V : V} {xs : List Val} (h : Fzn K Fz H v V) (e : items v = some xs) :
    ∃ t vs, (∀ Fz' H', (∀ a, Fz a → Fz' a) → (∀ a, Fz a → H' a = H a) → src K t H' V vs ∧ FznL K Fz' H' xs vs) := by
  cases v with
  | tup ys =>
    cases e
    obtain ⟨a, vs, e, f, l⟩ := h
    exact ⟨.t, vs, fun Fz' H' m s => ⟨⟨a, e, (f.st m s).sq⟩, FznL.st m s _ _ l⟩⟩
  | lst o ys =>
    cases e
    obtain ⟨_, a, vs, e, f, l⟩ := h
    exact ⟨.l, vs, fun Fz' H' m s => ⟨⟨a, e, (f.st m s).sq⟩, FznL.st m s _ _ l⟩⟩
  | str z =>
    cases e
    refine ⟨.s, _, fun Fz' H' m s => ⟨⟨z, h, rfl⟩, ?_⟩⟩
    generalize z.cps.toList = cs
    induction cs with
    | nil => rfl
    | cons c r ih => exact ⟨_, _, rfl, rfl, ih⟩
  | _ => cases e
theorem items_freeze (v : Val) : items (freeze v) = items v := by cases v <;> rfl
theorem sim_iAny {te : TE} {pe : PEx} (ha : SimE K W pn fl te pe) : SimI K W pn (iAnyT K te) (iAny pe) := by
  intro Wp env σ H Fz O fp pv Q R F P hp hx hq
  refine ha Wp env σ H Fz O fp pv _ _ F P hp hx fun r e1 V H1 Fz1 fp1 ft s k F1 r1 t q => ?_
  obtain ⟨v, e2, Fz2, fp2, g, s2, k2, F2, o2, u, q2⟩ := esc_ok F1 r1 t q
  have F3 := F2.frz u
  have z3 : Fzn K (Fft Fz2 g) H1 (freeze v) V := Ow.frz (fun _ h => .inl h) v V g (fun _ h => .inr h) o2
  have s3 : Stp Fz2 H1 O (Fft Fz2 g) H1 := ⟨fun _ h => .inl h, fun _ _ => rfl⟩
  have sF := (s.trans s2 fun _ h => h).trans s3 fun _ h => h
  split at q2
  · rename_i xs hxs
    rw [← items_freeze] at hxs
    generalize hw : freeze v = w at hxs z3
    cases w with
    | tup ys =>
      cases hxs
      obtain ⟨a, vs, e, f, l⟩ := z3
      refine ⟨vs, .inr (.inl ⟨a, e, f.sq, hq xs e2 _ H1 _ fp2 sF F3 ?_ q2⟩)⟩
      intro Fz' H' m a1 tr
      refine ⟨fun i x hx => ?_, vs, (f.st m a1).sq, by rw [l.len]; exact Nat.le_refl _⟩
      have l' := FznL.st m a1 _ _ l
      obtain ⟨y, hy, oy⟩ := l'.get hx
      refine ⟨⟨vs, y, (f.st m a1).sq, hy⟩, fun U H2 yl => ?_⟩
      obtain ⟨e1, e2⟩ := yl
      subst e1
      have e3 := e2 vs (f.st m a1).sq
      rw [hy] at e3
      cases e3
      exact ⟨Fz', .refl, oy⟩
    | lst o ys =>
      cases hxs
      obtain ⟨_, a, vs, e, f, l⟩ := z3
      refine ⟨vs, .inl ⟨a, e, f.sq, hq xs e2 _ H1 _ fp2 sF F3 ?_ q2⟩⟩
      intro Fz' H' m a1 tr
      refine ⟨fun i x hx => ?_, vs, (f.st m a1).sq, by rw [l.len]; exact Nat.le_refl _⟩
      have l' := FznL.st m a1 _ _ l
      obtain ⟨y, hy, oy⟩ := l'.get hx
      refine ⟨⟨vs, y, (f.st m a1).sq, hy⟩, fun U H2 yl => ?_⟩
      obtain ⟨e1, e2⟩ := yl
      subst e1
      have e3 := e2 vs (f.st m a1).sq
      rw [hy] at e3
      cases e3
      exact ⟨Fz', .refl, oy⟩
    | str z =>
      cases hxs
      refine ⟨[], .inr (.inr ⟨z, z3, hq _ e2 _ H1 _ fp2 sF F3 ?_ q2⟩)⟩
      intro Fz' H' m a1 tr
      refine ⟨fun i x hx => ?_, by
        show z.cps.size ≤ _
        simp⟩
      rw [List.getElem?_map, Array.getElem?_toList] at hx
      cases hc : z.cps[i]? with
      | none => rw [hc] at hx; cases hx
      | some c =>
        rw [hc] at hx
        cases hx
        refine ⟨?_, fun U H2 yl => ?_⟩
        · exact (Array.getElem?_eq_some_iff.mp hc).1
        · obtain ⟨e1, d, hd, e2⟩ := yl
          subst e1 e2
          rw [hc] at hd
          cases hd
          exact ⟨Fz', .refl, rfl⟩
    | _ => cases hxs
  · exact q2.elim
def pairs (xs ys : List Val) : List Val := (xs.zip ys).map fun p => .tup [p.1, p.2]
def nums (k : Int) : List Val → List Val
  | [] => []
  | x :: xs => .tup [.int k, x] :: nums (k + 1) xs
theorem nums_get : ∀ {xs : List Val} {k : Int} {i : Nat} {y : Val}, (nums k xs)[i]? = some y → ∃ x, xs[i]? = some x ∧ y = .tup [.int (k + i), x]
  | [], k, i, y, h => by cases i <;> cases h
  | x :: xs, k, 0, y, h => by
    cases h
    exact ⟨x, rfl, by simp⟩
  | x :: xs, k, i + 1, y, h => by
    obtain ⟨x', h1, h2⟩ := nums_get (xs := xs) (k := k + 1) (i := i) (y := y) h
    refine ⟨x', h1, ?_⟩
    rw [h2]
    have e : k + 1 + (i : Int) = k + ((i + 1 : Nat) : Int) := by omega
    rw [e]
theorem nums_len : ∀ {xs : List Val} {k : Int}, (nums k xs).length = xs.length
  | [], _ => rfl
  | x :: xs, k => by
    unfold nums
    rw [List.length_cons, List.length_cons, nums_len]
def iZip (pa : PAr) : PIt := fun W env Q => pa W env fun rs e1 => escs rs e1 fun vs e2 => match vs with
  | [v, w] => (match items v, items w with
    | some xs, some ys => Q (pairs xs ys) e2
    | _, _ => False)
  | _ => False
def iEnum1 (pa : PAr) : PIt := fun W env Q => pa W env fun rs e1 => escs rs e1 fun vs e2 => match vs with
  | [v] => (match items v with
    | some xs => Q (nums 0 xs) e2
    | none => False)
  | _ => False
def iEnum2 (pa : PAr) : PIt := fun W env Q => pa W env fun rs e1 => escs rs e1 fun vs e2 => match vs with
  | [v, .int k] => (-(2 ^ 63) ≤ k ∧ k < 2 ^ 63) ∧ (match items v with
    | some xs => Q (nums k xs) e2
    | none => False)
  | _ => False
theorem sim_args {tA : TA} {pA : PAr} {Wp : PX} {env : Env} {k : List Val → Env → Prop} {R : List V → Hp → Prop} (ha : SimA K W pn fl tA pA) (F : Fm K Fz O H env σ fp) (P : Pin pn pv σ) (hp : pA Wp env fun rs e1 => escs rs e1 k) (hx : ExH K W Wp pn pv O Fz H)
    (h : ∀ vs Vs e2 H1 Fz2 fp2, Stp Fz H O Fz2 H1 → Fm K Fz2 O H1 e2 σ fp2 → FznL K Fz2 H1 (freezeL vs) Vs → k vs e2 → R Vs H1) : tA σ H R := by
  refine ha Wp env σ H Fz O fp pv _ _ F P hp hx fun rs e1 Vs H1 Fz1 fp1 f1 s k F1 r1 t q => ?_
  obtain ⟨vs, e2, Fz2, fp2, g, s2, k2, F2, o, u, q2⟩ := escs_ok F1 r1 t q
  have F3 := F2.frz u
  have l3 : FznL K (Fft Fz2 g) H1 (freezeL vs) Vs := OwL.frz (fun _ h => .inl h) vs Vs g (fun _ h => .inr h) o
  have s3 : Stp Fz2 H1 O (Fft Fz2 g) H1 := ⟨fun _ h => .inl h, fun _ _ => rfl⟩
  exact h vs Vs e2 H1 _ fp2 ((s.trans s2 fun _ h => h).trans s3 fun _ h => h) F3 l3 q2
theorem sim_iZip {tA : TA} {pA : PAr} (ha : SimA K W pn fl tA pA) : SimI K W pn (iZipK K tA) (iZip pA) := by
  intro Wp env σ H Fz O fp pv Q R F P hp hx hq
  refine sim_args ha F P hp hx fun vs Vs e2 H1 Fz2 fp2 s F2 l q => ?_
  split at q
  · rename_i v w
    obtain ⟨V1, _, e1, o1, l⟩ := l
    obtain ⟨V2, _, e3, o2, l⟩ := l
    cases l
    subst e3 e1
    split at q
    · rename_i xs ys hxs hys
      rw [← items_freeze] at hxs hys
      obtain ⟨t1, vs1, h1⟩ := src_of o1 hxs
      obtain ⟨t2, vs2, h2⟩ := src_of o2 hys
      refine ⟨V1, V2, t1, t2, vs1, vs2, rfl, (h1 _ _ (fun _ h => h) fun _ _ => rfl).1, (h2 _ _ (fun _ h => h) fun _ _ => rfl).1, fun a b a1 a2 b1 b2 => hq _ e2 _ H1 Fz2 fp2 s F2 ?_ q⟩
      intro Fz' H' m ag tr
      obtain ⟨c1, l1⟩ := h1 Fz' H' m ag
      obtain ⟨c2, l2⟩ := h2 Fz' H' m ag
      have d1 := kd_src a1 a2 c1
      have d2 := kd_src b1 b2 c2
      refine ⟨fun i x hx => ?_, ⟨vs1, vs2, d1, d2, by unfold pairs; rw [List.length_map, List.length_zip, l1.len, l2.len]⟩⟩
      unfold pairs at hx
      rw [List.getElem?_map] at hx
      cases hz : (xs.zip ys)[i]? with
      | none => rw [hz] at hx; cases hx
      | some p =>
        rw [hz] at hx
        cases hx
        obtain ⟨hz1, hz2⟩ := List.getElem?_zip_eq_some.mp hz
        obtain ⟨y1, g1, o1'⟩ := l1.get hz1
        obtain ⟨y2, g2, o2'⟩ := l2.get hz2
        refine ⟨⟨vs1, vs2, y1, y2, d1, d2, g1, g2⟩, fun U H2 yl => ?_⟩
        obtain ⟨T, x, y, eU, hT, eH, hx1, hy1⟩ := yl
        have e1 := hx1 vs1 d1
        have e2 := hy1 vs2 d2
        rw [g1] at e1
        rw [g2] at e2
        cases e1
        cases e2
        subst eU eH
        obtain ⟨n, o⟩ := new_tup (xs := [p.1, p.2]) (vs := [y1, y2]) (p := T) ⟨y1, _, rfl, o1', y2, _, rfl, o2', rfl⟩ tr hT
        exact ⟨_, n, (o.fzn rfl).2⟩
    · exact q.elim
  · exact q.elim
theorem enum_its {a : Kd} {t : Kt} {V1 : V} {xs : List Val} {vs1 : List V} {k : Int} {Fz2 : Addr → Prop} {H1 : Hp} (a1 : a.v = V1) (a2 : a.tag = t) (h1 : ∀ Fz' H', (∀ a, Fz2 a → Fz' a) → (∀ a, Fz2 a → H' a = H1 a) → src K t H' V1 vs1 ∧ FznL K Fz' H' xs vs1) :
    ItS K Fz2 H1 (ItKe K a k) (nums k xs) := by
  intro Fz' H' m ag tr
  obtain ⟨c1, l1⟩ := h1 Fz' H' m ag
  have d1 := kd_src a1 a2 c1
  refine ⟨fun i x hx => ?_, ⟨vs1, d1, by rw [nums_len, l1.len]⟩⟩
  obtain ⟨x1, hx1, e⟩ := nums_get hx
  subst e
  obtain ⟨y1, g1, o1'⟩ := l1.get hx1
  refine ⟨⟨vs1, y1, d1, g1⟩, fun U H2 yl => ?_⟩
  obtain ⟨T, x, eU, hT, eH, hx1⟩ := yl
  have e1 := hx1 vs1 d1
  rw [g1] at e1
  cases e1
  subst eU eH
  obtain ⟨n, o⟩ := new_tup (xs := [.int (k + i), x1]) (vs := [.int (k + (i : Nat)), y1]) (p := T) ⟨_, _, rfl, rfl, y1, _, rfl, o1', rfl⟩ tr hT
  exact ⟨_, n, (o.fzn rfl).2⟩
theorem sim_iEnum1 {tA : TA} {pA : PAr} (ha : SimA K W pn fl tA pA) : SimI K W pn (iEnumK K tA) (iEnum1 pA) := by
  intro Wp env σ H Fz O fp pv Q R F P hp hx hq
  refine sim_args ha F P hp hx fun vs Vs e2 H1 Fz2 fp2 s F2 l q => ?_
  split at q
  · rename_i v
    obtain ⟨V1, _, e1, o1, l⟩ := l
    cases l
    subst e1
    split at q
    · rename_i xs hxs
      rw [← items_freeze] at hxs
      obtain ⟨t1, vs1, h1⟩ := src_of o1 hxs
      exact ⟨V1, t1, vs1, rfl, (h1 _ _ (fun _ h => h) fun _ _ => rfl).1, fun a a1 a2 => hq _ e2 _ H1 Fz2 fp2 s F2 (enum_its a1 a2 h1) q⟩
    · exact q.elim
  · exact q.elim
theorem sim_iEnum2 {tA : TA} {pA : PAr} (ha : SimA K W pn fl tA pA) : SimI K W pn (iEnumK2 K tA) (iEnum2 pA) := by
  intro Wp env σ H Fz O fp pv Q R F P hp hx hq
  refine sim_args ha F P hp hx fun vs Vs e2 H1 Fz2 fp2 s F2 l q => ?_
  split at q
  · rename_i v k
    obtain ⟨V1, _, e1, o1, l⟩ := l
    obtain ⟨V2, _, e3, o2, l⟩ := l
    cases l
    subst e3 e1
    cases (show V2 = .int k from o2)
    obtain ⟨q0, q⟩ := q
    split at q
    · rename_i xs hxs
      rw [← items_freeze] at hxs
      obtain ⟨t1, vs1, h1⟩ := src_of o1 hxs
      exact ⟨V1, k, t1, vs1, rfl, q0, (h1 _ _ (fun _ h => h) fun _ _ => rfl).1, fun a a1 a2 => hq _ e2 _ H1 Fz2 fp2 s F2 (enum_its a1 a2 h1) q⟩
    · exact q.elim
  · exact q.elim
/-! ranges -/
def rangeV (lo c : Int) (n : Nat) : List Val := (List.range n).map fun i => .int (lo + (i : Nat) * c)
def iRange1 (pa : PAr) : PIt := fun W env Q => pa W env fun rs e1 => match rds e1 rs with
  | some [.int j] => -(2 ^ 62) ≤ j ∧ j < 2 ^ 62 ∧ Q (rangeV 0 1 j.toNat) e1
  | _ => False
def iRange2 (pa : PAr) : PIt := fun W env Q => pa W env fun rs e1 => match rds e1 rs with
  | some [.int i, .int j] => (-(2 ^ 62) ≤ i ∧ i < 2 ^ 62 ∧ -(2 ^ 62) ≤ j ∧ j < 2 ^ 62) ∧ Q (rangeV i 1 (j - i).toNat) e1
  | _ => False
def iRange3 (pa : PAr) : PIt := fun W env Q => pa W env fun rs e1 => match rds e1 rs with
  | some [.int i, .int j, .int c] => ∃ n, RgC i j c n ∧ Q (rangeV i c n) e1
  | _ => False
theorem rangeV_get {lo c : Int} {n i : Nat} {x : Val} (h : (rangeV lo c n)[i]? = some x) : i < n ∧ x = .int (lo + (i : Nat) * c) := by
  unfold rangeV at h
  rw [List.getElem?_map] at h
  by_cases hi : i < n
  · rw [List.getElem?_range hi] at h
    cases h
    exact ⟨hi, rfl⟩
  · rw [List.getElem?_eq_none (by simpa using hi)] at h
    cases h
theorem range_its {lo : Int} {n : Nat} : ItS K Fz H (Itr lo n) (rangeV lo 1 n) := by
  intro Fz' H' m ag tr
  refine ⟨fun i x hx => ?_, by show n ≤ _; unfold rangeV; simp⟩
  obtain ⟨h1, h2⟩ := rangeV_get hx
  subst h2
  refine ⟨h1, fun U H2 yl => ?_⟩
  obtain ⟨e1, e2⟩ := yl
  subst e1 e2
  refine ⟨Fz', .refl, ?_⟩
  rw [Int.mul_one]
  rfl
theorem rangec_its {lo c : Int} {n : Nat} : ItS K Fz H (Itc lo c n) (rangeV lo c n) := by
  intro Fz' H' m ag tr
  refine ⟨fun i x hx => ?_, by show n ≤ _; unfold rangeV; simp⟩
  obtain ⟨h1, h2⟩ := rangeV_get hx
  subst h2
  refine ⟨h1, fun U H2 yl => ?_⟩
  obtain ⟨e1, e2⟩ := yl
  subst e1 e2
  exact ⟨Fz', .refl, rfl⟩
theorem sim_iRange1 {tA : TA} {pA : PAr} (ha : SimA K W pn fl tA pA) : SimI K W pn (iRng1 tA) (iRange1 pA) := by
  intro Wp env σ H Fz O fp pv Q R F P hp hx hq
  refine ha Wp env σ H Fz O fp pv _ _ F P hp hx fun rs e1 Vs H1 Fz1 fp1 f1 s k F1 r1 t q => ?_
  split at q
  · rename_i j hv
    obtain ⟨V, e, o⟩ := (RRs.peek F1 r1 hv).one rfl
    cases Ow.int o
    exact ⟨j, e, q.1, q.2.1, hq _ e1 _ H1 Fz1 fp1 s F1 range_its q.2.2⟩
  · exact q.elim
theorem sim_iRange2 {tA : TA} {pA : PAr} (ha : SimA K W pn fl tA pA) : SimI K W pn (iRng2 tA) (iRange2 pA) := by
  intro Wp env σ H Fz O fp pv Q R F P hp hx hq
  refine ha Wp env σ H Fz O fp pv _ _ F P hp hx fun rs e1 Vs H1 Fz1 fp1 f1 s k F1 r1 t q => ?_
  split at q
  · rename_i i j hv
    obtain ⟨V, V2, e, o, o2⟩ := (RRs.peek F1 r1 hv).two rfl
    cases Ow.int o
    cases Ow.int o2
    exact ⟨i, j, e, q.1, hq _ e1 _ H1 Fz1 fp1 s F1 range_its q.2⟩
  · exact q.elim
theorem OwAs.three {vs : List Val} {Vs : List V} {v w x : Val} (o : OwAs K Fz H vs Vs) (e : vs = [v, w, x]) : ∃ V W Y, Vs = [V, W, Y] ∧ OwA K Fz H v V ∧ OwA K Fz H w W ∧ OwA K Fz H x Y := by
  subst e
  cases o with
  | cons o1 o2 =>
    cases o2 with
    | cons o2 o3 =>
      cases o3 with
      | cons o3 o4 => cases o4; exact ⟨_, _, _, rfl, o1, o2, o3⟩
theorem sim_iRange3 {tA : TA} {pA : PAr} (ha : SimA K W pn fl tA pA) : SimI K W pn (iRng3 tA) (iRange3 pA) := by
  intro Wp env σ H Fz O fp pv Q R F P hp hx hq
  refine ha Wp env σ H Fz O fp pv _ _ F P hp hx fun rs e1 Vs H1 Fz1 fp1 f1 s k F1 r1 t q => ?_
  split at q
  · rename_i i j c hv
    obtain ⟨V, V2, V3, e, o, o2, o3⟩ := (RRs.peek F1 r1 hv).three rfl
    cases Ow.int o
    cases Ow.int o2
    cases Ow.int o3
    obtain ⟨n, q1, q2⟩ := q
    exact ⟨i, j, c, n, e, q1, hq _ e1 _ H1 Fz1 fp1 s F1 rangec_its q2⟩
  · exact q.elim
end
end Qv
set_option Elab.async false
set_option linter.all false
set_option maxRecDepth 100000
set_option maxHeartbeats 4000000
namespace Qv
open PySem PySem.Spec PyProof.Rows L2
/-! ### places that are changed -/
/-- the key k's value is y now -/
def putAll {α : Type} : List Key → List α → Key → α → List α
  | j :: ks, x :: xs, k, y => (if j = k then y else x) :: putAll ks xs k y
  | _, _, _, _ => []
def putXs {α : Type} (ks : List Key) (xs : List α) (k : Key) (y : α) : List α := if hasK ks k = true then putAll ks xs k y else xs ++ [y]
def putKs (ks : List Key) (k : Key) : List Key := if hasK ks k = true then ks else ks ++ [k]
theorem putAll_len {α : Type} : ∀ {ks : List Key} {xs : List α} {k : Key} {y : α}, ks.length = xs.length → (putAll ks xs k y).length = ks.length
  | [], [], _, _, _ => rfl
  | j :: ks, x :: xs, k, y, h => by
    unfold putAll
    rw [List.length_cons, List.length_cons, putAll_len (by simpa using h)]
  | [], _ :: _, _, _, h => by cases h
  | _ :: _, [], _, _, h => by cases h
theorem put_len {α : Type} {ks : List Key} {xs : List α} {k : Key} {y : α} (h : ks.length = xs.length) : (putKs ks k).length = (putXs ks xs k y).length := by
  unfold putKs putXs
  split
  · rw [putAll_len h]
  · rw [List.length_append, List.length_append, h] <;> rfl
theorem any_zip : ∀ {ks : List Key} {vs : List V} {k : Key}, ks.length = vs.length → ((ks.zip vs).any fun kv => decide (kv.1 = k)) = hasK ks k
  | [], [], _, _ => rfl
  | j :: ks, v :: vs, k, h => by
    show (decide (j = k) || ((ks.zip vs).any fun kv => decide (kv.1 = k))) = _
    rw [any_zip (by simpa using h)]
    rfl
  | [], _ :: _, _, h => by cases h
  | _ :: _, [], _, h => by cases h
theorem map_zip : ∀ {ks : List Key} {vs : List V} {k : Key} {v : V}, ks.length = vs.length → ((ks.zip vs).map fun kv => if kv.1 = k then (kv.1, v) else kv) = ks.zip (putAll ks vs k v)
  | [], [], _, _, _ => rfl
  | j :: ks, w :: vs, k, v, h => by
    show (if j = k then (j, v) else (j, w)) :: ((ks.zip vs).map fun kv => if kv.1 = k then (kv.1, v) else kv) = _
    rw [map_zip (by simpa using h)]
    show _ = (j :: ks).zip ((if j = k then v else w) :: putAll ks vs k v)
    rw [List.zip_cons_cons]
    split <;> rfl
  | [], _ :: _, _, _, h => by cases h
  | _ :: _, [], _, _, h => by cases h
theorem putK_zip {ks : List Key} {vs : List V} {k : Key} {v : V} (h : ks.length = vs.length) : putK (ks.zip vs) k v = (putKs ks k).zip (putXs ks vs k v) := by
  unfold putK putKs putXs
  rw [any_zip h]
  split
  · exact map_zip h
  · rw [List.zip_append h] <;> rfl
section
variable {K : PySem.W.Frag} {Fz Fz' O : Addr → Prop} {H H' : Hp} {env : Env} {σ : L2.St} {fp : Nat → List Addr} {ft : List Addr} {pn : List Nat} {pv : Nat → V} {W : WX} {fl fl2 fl3 : Bool}
theorem FznL.putAll : ∀ {ks : List Key} {xs : List Val} {vs : List V} {k : Key} {y : Val} {v : V}, FznL K Fz H xs vs → Fzn K Fz H y v → ks.length = vs.length → FznL K Fz H (Qv.putAll ks xs k y) (Qv.putAll ks vs k v)
  | [], [], vs, k, y, v, h, z, hl => by cases h; rfl
  | [], x :: xs, _, k, y, v, h, z, hl => by
    obtain ⟨w, r, e, _, _⟩ := h
    subst e
    cases hl
  | j :: ks, [], _, k, y, v, h, z, hl => by
    cases h
    cases hl
  | j :: ks, x :: xs, _, k, y, v, h, z, hl => by
    obtain ⟨w, r, e, h1, h2⟩ := h
    subst e
    unfold Qv.putAll
    refine ⟨_, _, rfl, ?_, FznL.putAll h2 z (by simpa using hl)⟩
    split
    · exact z
    · exact h1
theorem FznL.put {ks : List Key} {xs : List Val} {vs : List V} {k : Key} {y : Val} {v : V} (h : FznL K Fz H xs vs) (z : Fzn K Fz H y v) (hl : ks.length = vs.length) : FznL K Fz H (putXs ks xs k y) (putXs ks vs k v) := by
  unfold putXs
  split
  · exact h.putAll z hl
  · exact h.app z
theorem FznL.set : ∀ {xs : List Val} {vs : List V} {i : Nat} {y : Val} {v : V}, FznL K Fz H xs vs → Fzn K Fz H y v → FznL K Fz H (xs.set i y) (vs.set i v)
  | [], _, i, y, v, h, z => by cases h; exact rfl
  | x :: xs, _, 0, y, v, h, z => by
    obtain ⟨w, r, e, h1, h2⟩ := h
    subst e
    exact ⟨v, r, rfl, z, h2⟩
  | x :: xs, _, i + 1, y, v, h, z => by
    obtain ⟨w, r, e, h1, h2⟩ := h
    subst e
    exact ⟨w, r.set i v, rfl, h1, h2.set z⟩
/-- the object of a place becomes another -/
theorem Fm.mut {i : Nat} {a : Addr} {v' : Val} {o : HO} (F : Fm K Fz O H env σ fp) (hi : i < env.length) (s : σ[i]? = some (some (.ref a))) (hf : fp i = [a]) (ho : Ow K Fz (upd H a o) v' (.ref a) [a]) :
    Fm K Fz O (upd H a o) (env.set i (some v')) σ fp ∧ Stp Fz H O Fz (upd H a o) := by
  have hai : a ∈ fp i := by rw [hf]; simp
  obtain ⟨n1, n2, n3⟩ := F.nf i a hai
  have keep : ∀ b, b ≠ a → upd H a o b = H b := fun b h => upd_ne h
  refine ⟨⟨by rw [List.length_set]; exact F.len, fun j w ej => ?_, F.dj, F.nd, fun j b h => ⟨(F.nf j b h).1, (F.nf j b h).2.1, ?_⟩, fun b h => ⟨(F.fz b h).1, ?_⟩, fun b h => ?_⟩, ⟨fun _ h => h, fun b h => ?_⟩⟩
  · by_cases hj : i = j
    · subst hj
      rw [List.getElem?_set_self hi] at ej
      cases ej
      exact ⟨.ref a, s, by rw [hf]; exact ho⟩
    · rw [List.getElem?_set_ne hj] at ej
      obtain ⟨V2, s2, o2⟩ := F.sl j w ej
      exact ⟨V2, s2, Ow.st (fun _ h => h) (fun b h => keep b fun e => n1 (by rw [← e]; exact h)) w V2 _ (fun b h => keep b fun e => hj (F.dj i j a hai (by rw [← e]; exact h))) o2⟩
  · by_cases e : b = a
    · rw [e, upd_same]; exact fun z => by cases z
    · rw [keep b e]; exact (F.nf j b h).2.2
  · rw [keep b fun e => n1 (by rw [← e]; exact h)]
    exact (F.fz b h).2
  · rw [keep b fun e => n2 (by rw [← e]; exact h)]
    exact F.oo b h
  · exact keep b fun e => h.elim (fun z => n1 (by rw [← e]; exact z)) fun z => n2 (by rw [← e]; exact z)
/-- the list, the dict of a place -/
theorem Fm.lst {i : Nat} {xs : List Val} {V : L2.V} (F : Fm K Fz O H env σ fp) (e : env[i]? = some (some (.lst true xs))) (s : σ[i]? = some (some V)) : ∃ a vs, V = .ref a ∧ fp i = [a] ∧ H a = some (.lst vs) ∧ FznL K Fz H xs vs := by
  obtain ⟨V2, s2, o⟩ := F.sl i _ e
  rw [s] at s2
  cases s2
  obtain ⟨a, vs, e1, e2, h1, h2⟩ := o
  exact ⟨a, vs, e1, e2, h1, h2⟩
theorem Fm.dic {i : Nat} {ks : List Key} {xs : List Val} {V : L2.V} (F : Fm K Fz O H env σ fp) (e : env[i]? = some (some (.dic true ks xs))) (s : σ[i]? = some (some V)) : ∃ a vs, V = .ref a ∧ fp i = [a] ∧ H a = some (.dK (ks.zip vs)) ∧ ks.length = vs.length ∧ FznL K Fz H xs vs := by
  obtain ⟨V2, s2, o⟩ := F.sl i _ e
  rw [s] at s2
  cases s2
  obtain ⟨a, vs, e1, e2, h1, h2, h3⟩ := o
  exact ⟨a, vs, e1, e2, h1, h2, h3⟩
theorem FznL.upd {xs : List Val} {vs : List V} {a : Addr} {o : HO} (l : FznL K Fz H xs vs) (h : ¬ Fz a) : FznL K Fz (L2.upd H a o) xs vs := FznL.st (fun _ h => h) (fun b hb => upd_ne fun e => h (by rw [← e]; exact hb)) _ _ l
theorem Fzn.upd {x : Val} {v : V} {a : Addr} {o : HO} (l : Fzn K Fz H x v) (h : ¬ Fz a) : Fzn K Fz (L2.upd H a o) x v := Fzn.st (fun _ h => h) (fun b hb => upd_ne fun e => h (by rw [← e]; exact hb)) _ _ l
/-- place[key] = value -/
def setIx (i : Nat) (k v : Val) (env : Env) (Q : Env → Prop) : Prop := match env[i]? with
  | some (some (.lst true xs)) => (match k with
    | .int k => ∃ j, ixN xs.length k = some j ∧ Q (env.set i (some (.lst true (xs.set j v))))
    | _ => False)
  | some (some (.dic true ks xs)) => (match keyOf k with
    | some k => ks.length < sizeLine ∧ Q (env.set i (some (.dic true (putKs ks k) (putXs ks xs k v))))
    | none => False)
  | _ => False
def gsub (po pk : PEx) : PGt := fun v env Q => po (fun _ _ => False) env fun r e1 => pk (fun _ _ => False) e1 fun k e2 => match r, rd e2 k with
  | .pl i, some kv => setIx i kv (freeze v) e2 Q
  | _, _ => False
def rSetU : TSet := fun o i v H Q => rSetL o i v H Q ∨ rSetD o i v H Q
theorem set_U {X : Cx} (hu : X.A.units + 1 < cLine) : PSet X rSetU := by
  intro pins s σ H o i v ov iv u Q I ro ri rv h
  rcases h with h | h
  · exact set_list pins s σ H o i v ov iv u Q I ro ri rv h
  · exact set_dict hu pins s σ H o i v ov iv u Q I ro ri rv h
def pSetIx (pe po pk : PEx) : PSt := fun W D env => pe W env fun r e1 => esc r e1 fun v e2 => po W e2 fun r e3 => pk W e3 fun k e4 => match r, rd e4 k with
  | .pl i, some kv => setIx i kv (freeze v) e4 D.nx
  | _, _ => False
theorem sim_setIx {te to tk : TE} {pe po pk : PEx} (ha : SimE K W pn fl te pe) (hb : SimE K W pn fl2 to po) (hc : SimE K W pn fl3 tk pk) : SimS K W pn (tAsg te (L2.gSub to tk rSetU)) (pSetIx pe po pk) := by
  intro Wp D env σ H Fz O fp pv D' F P hp hx nx rt bk ct
  refine ha Wp env σ H Fz O fp pv _ _ F P hp hx fun r e1 V H1 Fz1 fp1 f1 s1 k1 F1 r1 t1 q1 => ?_
  obtain ⟨v, e2, Fz2, fp2, g, s2, k2, F2, o2, u2, q2⟩ := esc_ok F1 r1 t1 q1
  -- the value is frozen
  have F3 := F2.frz u2
  have z3 : Fzn K (Fft Fz2 g) H1 (freeze v) V := Ow.frz (fun _ h => .inl h) v V g (fun _ h => .inr h) o2
  have s3 : Stp Fz2 H1 O (Fft Fz2 g) H1 := ⟨fun _ h => .inl h, fun _ _ => rfl⟩
  have s13 := (s1.trans s2 fun _ h => h).trans s3 fun _ h => h
  refine hb Wp e2 σ H1 _ O fp2 pv _ _ F3 P q2 (hx.step s13 fun _ h => h) fun r4 e4 V4 H4 Fz4 fp4 f4 s4 k4 F4 r4' t4 q4 => ?_
  refine hc Wp e4 σ H4 Fz4 (Oft O f4) fp4 pv _ _ (F4.ext t4) P q4 (hx.step (s13.trans s4 fun _ h => h) fun _ h => .inl h) fun r5 e5 V5 H5 Fz5 fp5 f5 s5 k5 F5 r5' t5 q5 => ?_
  have z5 : Fzn K Fz5 H5 (freeze v) V := Fzn.st s5.mono (fun a h => s5.same a (.inl h)) _ _ (Fzn.st s4.mono (fun a h => s4.same a (.inl h)) _ _ z3)
  have F5' := F5.weak (O := O) fun _ h => .inl h
  have s15 : Stp Fz H O Fz5 H5 := (s13.trans s4 fun _ h => h).trans s5 fun _ h => .inl h
  split at q5
  · rename_i i kv hk
    have sV : σ[i]? = some (some V4) := r4'.2
    have okv : OwA K Fz5 H5 kv V5 := r5'.peek F5 hk
    unfold setIx at q5
    split at q5
    · rename_i xs hxs
      split at q5
      · rename_i k
        obtain ⟨j, hj, q⟩ := q5
        obtain ⟨a, vs, e1, e2, h1, h2⟩ := F5'.lst hxs sV
        subst e1
        cases Ow.int okv
        have na : ¬ Fz5 a := (F5'.nf i a (by rw [e2]; simp)).1
        refine .inl ⟨a, vs, k, j, rfl, rfl, h1, by rw [h2.len]; exact hj, ?_⟩
        obtain ⟨F6, s6⟩ := F5'.mut (v' := .lst true (xs.set j (freeze v))) (o := .lst (vs.set j V)) (List.getElem?_eq_some_iff.mp hxs).1 sV e2 ⟨a, vs.set j V, rfl, rfl, upd_same, (h2.upd na).set (z5.upd na)⟩
        exact nx _ σ _ Fz5 fp5 (s15.trans s6 fun _ h => h) F6 P q
      · exact q5.elim
    · rename_i ks xs hxs
      split at q5
      · rename_i k hk2
        obtain ⟨hl, q⟩ := q5
        obtain ⟨a, vs, e1, e2, h1, h2, h3⟩ := F5'.dic hxs sV
        subst e1
        have ek := keyOf_of okv hk2
        subst ek
        have na : ¬ Fz5 a := (F5'.nf i a (by rw [e2]; simp)).1
        refine .inr ⟨a, _, rfl, DPut.k h1 (by rw [List.length_zip, ← h2, Nat.min_self]; exact hl), ?_⟩
        rw [putK_zip h2]
        obtain ⟨F6, s6⟩ := F5'.mut (v' := .dic true (putKs ks k) (putXs ks xs k (freeze v))) (o := .dK ((putKs ks k).zip (putXs ks vs k V))) (List.getElem?_eq_some_iff.mp hxs).1 sV e2
          ⟨a, putXs ks vs k V, rfl, rfl, upd_same, put_len h2, (h3.upd na).put (z5.upd na) h2⟩
        exact nx _ σ _ Fz5 fp5 (s15.trans s6 fun _ h => h) F6 P q
      · exact q5.elim
    · exact q5.elim
  · exact q5.elim
/-! ### {k: v, ..} -/
def unpair : List Val → Option (List Key × List Val)
  | [] => some ([], [])
  | k :: v :: r => (match keyOf k, unpair r with
    | some k, some (ks, xs) => some (k :: ks, v :: xs)
    | _, _ => none)
  | _ => none
/-- the keys and values in their order; a key told twice keeps its first place -/
def dispL : List Key → List Val → List Key → List Val → List Key × List Val
  | ks, xs, [], _ => (ks, xs)
  | ks, xs, _, [] => (ks, xs)
  | ks, xs, k :: r, y :: q => dispL (putKs ks k) (putXs ks xs k y) r q
def pDisp (pa : PAr) : PEx := fun W env Q => pa W env fun rs e1 => escs rs e1 fun vs e2 => match unpair (freezeL vs) with
  | some (ks, xs) => ks.length ≤ 15 ∧ Q (.val (.dic true (dispL [] [] ks xs).1 (dispL [] [] ks xs).2)) e2
  | none => False
/-- the pairs' readings in a row -/
def flatT : List (TE × TE) → TA
  | [] => tNil
  | (a, b) :: r => tCons a (tCons b (flatT r))
def zipP : List V → List (V × V)
  | a :: b :: r => (a, b) :: zipP r
  | _ => []
theorem tPairs_flat : ∀ (trs : List (TE × TE)) (σ : L2.St) (H : Hp) (Q : List (V × V) → Hp → Prop), tPairs trs σ H Q = flatT trs σ H fun vs H' => Q (zipP vs) H'
  | [], _, _, _ => rfl
  | (a, b) :: r, σ, H, Q => by
    show (a σ H fun x H1 => b σ H1 fun y H2 => tPairs r σ H2 fun ps H3 => Q ((x, y) :: ps) H3) = (a σ H fun x H1 => b σ H1 fun y H2 => flatT r σ H2 fun vs H3 => Q (zipP (x :: y :: vs)) H3)
    congr 1
    funext x H1
    congr 1
    funext y H2
    exact tPairs_flat r σ H2 fun ps H3 => Q ((x, y) :: ps) H3
theorem unpair_of : ∀ {vs : List Val} {Vs : List V} {ks : List Key} {xs : List Val}, FznL K Fz H vs Vs → unpair vs = some (ks, xs) → ∃ ws, FznL K Fz H xs ws ∧ ks.length = ws.length ∧ zipP Vs = (ks.zip ws).map fun kv => (kV kv.1, kv.2)
  | [], _, ks, xs, l, e => by
    cases l
    cases e
    exact ⟨[], rfl, rfl, rfl⟩
  | [v], _, ks, xs, l, e => by cases e
  | k :: v :: r, _, ks, xs, l, e => by
    obtain ⟨V1, _, e1, l1, l⟩ := l
    obtain ⟨V2, Vr, e2, l2, l⟩ := l
    subst e2 e1
    unfold unpair at e
    split at e
    · rename_i k' ks' xs' hk hu
      cases e
      obtain ⟨ws, a1, a2, a3⟩ := unpair_of l hu
      cases (keyOf_of ⟨_, l1.ow⟩ hk)
      refine ⟨V2 :: ws, ⟨V2, ws, rfl, l2, a1⟩, by rw [List.length_cons, List.length_cons, a2], ?_⟩
      show (kV k', V2) :: zipP Vr = _
      rw [a3] <;> rfl
    · cases e
theorem dispL_of : ∀ {ks : List Key} {xs : List Val} {ws : List V} {ks0 : List Key} {xs0 : List Val} {ws0 : List V}, FznL K Fz H xs ws → ks.length = ws.length → FznL K Fz H xs0 ws0 → ks0.length = ws0.length →
    ∃ ws', FznL K Fz H (dispL ks0 xs0 ks xs).2 ws' ∧ (dispL ks0 xs0 ks xs).1.length = ws'.length ∧ mergeK (ks0.zip ws0) (ks.zip ws) = (dispL ks0 xs0 ks xs).1.zip ws'
  | [], xs, ws, ks0, xs0, ws0, l, e, l0, e0 => ⟨ws0, l0, e0, rfl⟩
  | k :: ks, [], ws, ks0, xs0, ws0, l, e, l0, e0 => by
    cases l
    cases e
  | k :: ks, x :: xs, _, ks0, xs0, ws0, l, e, l0, e0 => by
    obtain ⟨w, r, e1, l1, l2⟩ := l
    subst e1
    obtain ⟨ws', a1, a2, a3⟩ := dispL_of (ks := ks) (xs := xs) (ws := r) (ks0 := putKs ks0 k) (xs0 := putXs ks0 xs0 k x) (ws0 := putXs ks0 ws0 k w) l2 (by simpa using e) (l0.put l1 e0) (put_len e0)
    refine ⟨ws', a1, a2, ?_⟩
    show mergeK (putK (ks0.zip ws0) k w) (ks.zip r) = _
    rw [putK_zip e0]
    exact a3
theorem sim_disp {trs : List (TE × TE)} {pA : PAr} (ha : SimA K W pn fl (flatT trs) pA) : SimE K W pn false (tDisp trs) (pDisp pA) := by
  intro Wp env σ H Fz O fp pv Q Q' F P hp hx hq D hD
  rw [tPairs_flat]
  have n1 : Nw Fz H Fz (L2.upd H D (.dK [])) [D] := nw_o F.tr hD
  have F1 := F.nw n1
  have tD : Tm Fz O (L2.upd H D (.dK [])) fp [D] := F.nwTm n1
  have s1 : Stp Fz H O Fz (L2.upd H D (.dK [])) := F.nwStp n1
  refine ha Wp env σ _ Fz (Oft O [D]) fp pv _ _ (F1.ext tD) P hp (hx.step s1 fun _ h => .inl h) fun rs e1 Vs H2 Fz2 fp2 f2 s2 k2 F2 r2 t2 q2 => ?_
  obtain ⟨vs, e3, Fz3, fp3, g, s3, k3, F3, o3, u3, q3⟩ := escs_ok F2 r2 t2 q2
  have F4 := F3.frz u3
  have l4 : FznL K (Fft Fz3 g) H2 (freezeL vs) Vs := OwL.frz (fun _ h => .inl h) vs Vs g (fun _ h => .inr h) o3
  have s4 : Stp Fz3 H2 (Oft O [D]) (Fft Fz3 g) H2 := ⟨fun _ h => .inl h, fun _ _ => rfl⟩
  have hDv : H2 D = some (.dK []) := (s2.same D (.inr (.inr (by simp)))).trans upd_same
  split at q3
  · rename_i ks xs hu
    obtain ⟨ws, a1, a2, a3⟩ := unpair_of l4 hu
    obtain ⟨ws', b1, b2, b3⟩ := dispL_of (ks0 := []) (xs0 := []) (ws0 := []) a1 a2 rfl rfl
    refine ⟨hDv, ks.zip ws, a3, by rw [List.length_zip, ← a2, Nat.min_self]; exact q3.1, ?_⟩
    have b3 : mergeK [] (ks.zip ws) = (dispL [] [] ks xs).1.zip ws' := b3
    rw [b3]
    have nD : ¬ Fft Fz3 g D := fun z => (F4.fz D z).1 (.inr (by simp))
    have sA : Stp Fz (L2.upd H D (.dK [])) (Oft O [D]) (Fft Fz3 g) H2 := (s2.trans s3 fun _ h => h).trans s4 fun _ h => h
    have nO : ¬ O D := fun z => F.oo D z hD
    have nF : ¬ Fz D := fun z => F.tr D z hD
    have keep : ∀ a, a ≠ D → L2.upd H2 D (.dK ((dispL [] [] ks xs).1.zip ws')) a = H2 a := fun a h => upd_ne h
    have F5 : Fm K (Fft Fz3 g) O (L2.upd H2 D (.dK ((dispL [] [] ks xs).1.zip ws'))) e3 σ fp3 := ⟨F4.len, fun j w ej => by
        obtain ⟨V2, s2', o2⟩ := F4.sl j w ej
        exact ⟨V2, s2', Ow.st (fun _ h => h) (fun a h => keep a fun z => nD (by rw [← z]; exact h)) w V2 _ (fun a h => keep a fun z => (F4.nf j a h).2.1 (.inr (by rw [z]; simp))) o2⟩,
      F4.dj, F4.nd, fun j a h => ⟨(F4.nf j a h).1, fun z => (F4.nf j a h).2.1 (.inl z), by rw [keep a fun z => (F4.nf j a h).2.1 (.inr (by rw [z]; simp))]; exact (F4.nf j a h).2.2⟩,
      fun a h => ⟨fun z => (F4.fz a h).1 (.inl z), by rw [keep a fun z => nD (by rw [← z]; exact h)]; exact (F4.fz a h).2⟩,
      fun a h => by rw [keep a fun z => nO (by rw [← z]; exact h)]; exact F4.oo a (.inl h)⟩
    refine hq (.val (.dic true (dispL [] [] ks xs).1 (dispL [] [] ks xs).2)) e3 (.ref D) _ (Fft Fz3 g) fp3 [D] ⟨fun a h => sA.mono a h, fun a h => ?_⟩ (fun z => by cases z) F5 ⟨D, ws', rfl, rfl, upd_same, b2, b1.upd nD⟩ ⟨by simp, fun a h => ?_, fun a h i z => ?_⟩ q3.2
    · have ne : a ≠ D := fun z => h.elim (fun y => nF (by rw [← z]; exact y)) fun y => nO (by rw [← z]; exact y)
      rw [keep a ne, sA.same a (h.imp id fun y => .inl y)]
      exact upd_ne ne
    · have e : a = D := by simpa using h
      subst e
      exact ⟨nD, nO, by rw [upd_same]; exact fun z => by cases z⟩
    · have e : a = D := by simpa using h
      subst e
      exact (F4.nf i _ z).2.1 (.inr (by simp))
  · exact q3.elim
end
end Qv
set_option Elab.async false
set_option linter.all false
set_option maxRecDepth 100000
set_option maxHeartbeats 4000000
namespace Qv
open PySem PySem.Spec PyProof.Rows L2
/-! ### reading and simulation in one; X: a family of contexts (a def's, a comprehension's block) -/
structure Ct {ι : Type} (X : ι → Cx) (P : Program) (w : World) (K : PySem.W.Frag) (mg : Str → Option Value) (base : Heap) (N : List Str) (W : WX) (k : Nat) : Prop where
  hP : ∀ i, (X i).prog = P
  hw : ∀ i, (X i).w = w
  hK : ∀ i, (X i).K = K
  hM : ∀ i, (X i).mg = mg
  hB : ∀ i, (X i).base = base
  hN : ∀ i, (X i).N = N
  nd : N.Nodup
  calm : ∀ i, (X i).calm = true
  room : ∀ i, Room k (X i).A
  gu : ∀ i, (X i).A.guards = some []
  tk : ∀ i, Takes (X i) W
  own : ∀ i, PassesOwn (model (X i).prog (X i).w) (X i).A (X i).env (X i).xe
/-- what a rule may ask of one context -/
structure Cm (X : Cx) : Prop where
  calm : X.calm = true
  hu : X.A.units + 200 < cLine
  gu : X.A.guards = some []
section
variable {ι : Type} (X : ι → Cx) (K : PySem.W.Frag) (W : WX) (pn : List Nat)
def QE (e : Expr) (p : PEx) : Prop := ∃ t fl, (∀ i, PE (X i) e t) ∧ SimE K W pn fl t p
def QT (e : Expr) (p : PTe) : Prop := ∃ t fl, (∀ i, PT (X i) e t) ∧ SimT K W pn fl t p
def QW (e : Expr) (p : PTe) : Prop := ∃ t fl, (∀ i, PW (X i) e t) ∧ SimT K W pn fl t p
def QA (es : List Expr) (p : PAr) : Prop := ∃ t fl, (∀ i, PA (X i) es t) ∧ SimA K W pn fl t p
def QO (e : Option Expr) (p : POp) : Prop := ∃ t fl, (∀ i, PO (X i) e t) ∧ SimO K W pn fl t p
def QI (tg e : Expr) (p : PIt) : Prop := ∃ t, (∀ i, PI (X i) tg e t) ∧ SimI K W pn t p
def QG (ts : List Nat) (tg : Expr) (p : PGt) : Prop := ∃ t, (∀ i, PG (X i) tg t) ∧ SimG K pn ts t p
def QGs (ts : List Nat) (tg : List Expr) (p : PGts) : Prop := ∃ t, (∀ i, PGs (X i) tg t) ∧ SimGs K pn ts t p
def QS (st : Stmt) (p : PSt) : Prop := ∃ t, (∀ i, PS (X i) st t) ∧ SimS K W pn t p
def QSs (st : List Stmt) (p : PSt) : Prop := ∃ t, (∀ i, PSs (X i) st t) ∧ SimS K W pn t p
def QF (ifs : List Expr) (p : PTe) : Prop := ∃ t fl, (∀ i, PTs (X i) ifs t) ∧ SimT K W pn fl t p
def QP (keys : List (Option Expr)) (values : List Expr) (p : PAr) : Prop := ∃ trs fl, (∀ i pos, PPs (X i) pos keys values trs) ∧ SimA K W pn fl (flatT trs) p
end
section
variable {ι : Type} {X : ι → Cx} {P : Program} {w : World} {K : PySem.W.Frag} {mg : Str → Option Value} {base : Heap} {N : List Str} {W : WX} {pn ts us : List Nat} {k : Nat}
theorem Ct.cm (c : Ct X P w K mg base N W k) (i : ι) : Cm (X i) := ⟨c.calm i, by have := (c.room i).un; omega, c.gu i⟩
theorem Ct.mono {j : Nat} (c : Ct X P w K mg base N W k) (h : j ≤ k) : Ct X P w K mg base N W j := ⟨c.hP, c.hw, c.hK, c.hM, c.hB, c.hN, c.nd, c.calm, fun i => (c.room i).mono h, c.gu, c.tk, c.own⟩
variable {x y z : Expr} {px py pz : PEx} {e f : Expr} {es : List Expr} {pos pos' : Pos} {pt pu : PTe} {pa : PAr} {st : Stmt} {sts : List Stmt} {ps qs : PSt}
/-! leaves -/
theorem q_var (c : Ct X P w K mg base N W k) (i : Nat) {n : Str} (hN : N[i]? = some n := by rfl) (hv : ∀ j, Vis (X j).env.scope n := by first | exact fun _ => Or.inl rfl | exact fun _ => Or.inr (Or.inl rfl) | exact fun _ => Or.inr (Or.inr rfl))
    (hd : (n == ("__debug__" : Str)) = false := by decide) (hcd : (n == ("__classdict__" : Str)) = false := by decide) : QE X K W pn (.Name n pos) (pVar i) :=
  ⟨tVar i, true, fun j => pe_var (by rw [c.hN j]; exact hN) (hv j) hd hcd, sim_var i⟩
theorem q_int {i : Int} {j : Nat} : QE X K W pn (.Constant (.int i) j pos) (pC (.int i)) := ⟨_, true, fun _ => pe_int, sim_c fun _ _ => rfl⟩
theorem q_bl {i : Bool} {j : Nat} : QE X K W pn (.Constant (.bool i) j pos) (pC (.bl i)) := ⟨_, true, fun _ => pe_bl, sim_c fun _ _ => rfl⟩
theorem q_non {j : Nat} : QE X K W pn (.Constant .none j pos) (pC .non) := ⟨_, true, fun _ => pe_non, sim_c fun _ _ => rfl⟩
theorem q_str {i : Str} {j : Nat} : QE X K W pn (.Constant (.str i) j pos) (pC (.str i)) := ⟨_, true, fun _ => pe_str, sim_c fun _ _ => rfl⟩
theorem q_gint (c : Ct X P w K mg base N W k) {n : Str} {i : Int} (hm : ∃ t, mg n = some (.int i t)) (hg : ∀ j, Gl (X j) n := by exact fun _ => rfl) (hd : (n == ("__debug__" : Str)) = false := by decide) : QE X K W pn (.Name n pos) (pC (.int i)) := by
  obtain ⟨t, hm⟩ := hm
  exact ⟨tC (.int i), true, fun j => pe_glob (v := .int i) (hg j) (by rw [c.hM j]; exact hm) ⟨t, rfl⟩ hd, sim_c fun _ _ => rfl⟩
theorem q_gstr (c : Ct X P w K mg base N W k) {n z : Str} (hm : ∃ t, mg n = some (.str z t)) (hg : ∀ j, Gl (X j) n := by exact fun _ => rfl) (hd : (n == ("__debug__" : Str)) = false := by decide) : QE X K W pn (.Name n pos) (pC (.str z)) := by
  obtain ⟨t, hm⟩ := hm
  exact ⟨tC (.str z), true, fun j => pe_glob (v := .str z) (hg j) (by rw [c.hM j]; exact hm) ⟨t, rfl⟩ hd, sim_c fun _ _ => rfl⟩
theorem q_gty (c : Ct X P w K mg base N W k) {n : Str} {T : String} (hm : mg n = none) (hv : bootBuiltins n = some (.type T)) (hg : ∀ j, Gl (X j) n := by exact fun _ => rfl) (hn : n ≠ "__name__" := by decide) (hd : (n == ("__debug__" : Str)) = false := by decide) : QE X K W pn (.Name n pos) (pC (.ty T)) :=
  ⟨tC (.ty T), true, fun j => pe_bltn (v := .ty T) (hg j) (by rw [c.hM j]; exact hm) hv rfl hn hd, sim_c fun _ _ => rfl⟩
theorem q_gcls (c : Ct X P w K mg base N W k) {n : Str} {a : Addr} (hm : mg n = some (.ref a)) (hg : ∀ j, Gl (X j) n := by exact fun _ => rfl) (hd : (n == ("__debug__" : Str)) = false := by decide) : QE X K W pn (.Name n pos) (pC (.atm a)) :=
  ⟨tC (.ref a), true, fun j => pe_glob (v := .ref a) (hg j) (by rw [c.hM j]; exact hm) rfl hd, sim_c fun _ _ => rfl⟩
/-! operators -/
theorem q_op {op : Operator} {r : PySem.W.Frag → R2} {g : G2} (c : Ct X P w K mg base N W k) (ho : ∀ X : Cx, Cm X → OpR X (binaryOp op) (r X.K)) (hs : ∀ K, S2 K (r K) g) (a : QE X K W pn x px) (b : QE X K W pn y py) : QE X K W pn (.BinOp x op y pos) (pOp g px py) := by
  obtain ⟨t, fl, a, a2⟩ := a
  obtain ⟨u, fl2, b, b2⟩ := b
  exact ⟨_, _, fun i => pe_op (c.hK i ▸ ho (X i) (c.cm i)) (a i) (b i), sim_op a2 b2 (hs K)⟩
theorem q_cmp {op : CmpOp} {r : PySem.W.Frag → R2} {g : G2} (c : Ct X P w K mg base N W k) (ho : ∀ X : Cx, Cm X → OpR X (compareOp op) (r X.K)) (hs : ∀ K, S2 K (r K) g) (hm : ∀ b : Expr, b = y → behindInMarks op b = false) (a : QE X K W pn x px) (b : QE X K W pn y py) : QE X K W pn (.Compare x [op] [y] pos) (pOp g px py) := by
  obtain ⟨t, fl, a, a2⟩ := a
  obtain ⟨u, fl2, b, b2⟩ := b
  exact ⟨_, _, fun i => pe_cmpR (c.hK i ▸ ho (X i) (c.cm i)) (a i) (b i) (hm y rfl), sim_op a2 b2 (hs K)⟩
theorem t_cmp {op : CmpOp} {r : PySem.W.Frag → R2} {g : G2} (c : Ct X P w K mg base N W k) (ho : ∀ X : Cx, Cm X → OpR X (compareOp op) (r X.K)) (hs : ∀ K, S2 K (r K) g) (hm : ∀ b : Expr, b = y → behindInMarks op b = false) (a : QE X K W pn x px) (b : QE X K W pn y py) : QT X K W pn (.Compare x [op] [y] pos) (pTest (pOp g px py)) := by
  obtain ⟨t, fl, a, a2⟩ := a
  obtain ⟨u, fl2, b, b2⟩ := b
  exact ⟨_, _, fun i => pt_cmpR (c.hK i ▸ ho (X i) (c.cm i)) (a i) (b i) (hm y rfl), sim_test (sim_op a2 b2 (hs K))⟩
theorem q_chain {op op' : CmpOp} {r r' : PySem.W.Frag → R2} {g g' : G2} (c : Ct X P w K mg base N W k) (ho : ∀ X : Cx, Cm X → OpR X (compareOp op) (r X.K)) (hs : ∀ K, S2 K (r K) g) (ho' : ∀ X : Cx, Cm X → OpR X (compareOp op') (r' X.K)) (hs' : ∀ K, S2 K (r' K) g')
    (a : QE X K W pn x px) (b : QE X K W pn y py) (d : QE X K W pn z pz) (hm : lastMarks [op, op'] [y, z] = false := by with_unfolding_all rfl) : QE X K W pn (.Compare x [op, op'] [y, z] pos) (pChain g g' px py pz) := by
  obtain ⟨t, fl, a, a2⟩ := a
  obtain ⟨u, fl2, b, b2⟩ := b
  obtain ⟨v, fl3, d, d2⟩ := d
  exact ⟨_, _, fun i => pe_chain (c.hK i ▸ ho (X i) (c.cm i)) (c.hK i ▸ ho' (X i) (c.cm i)) (a i) (b i) (d i) hm, sim_chain a2 b2 d2 (hs K) (hs' K)⟩
theorem t_chain {op op' : CmpOp} {r r' : PySem.W.Frag → R2} {g g' : G2} (c : Ct X P w K mg base N W k) (ho : ∀ X : Cx, Cm X → OpR X (compareOp op) (r X.K)) (hs : ∀ K, S2 K (r K) g) (ho' : ∀ X : Cx, Cm X → OpR X (compareOp op') (r' X.K)) (hs' : ∀ K, S2 K (r' K) g')
    (a : QE X K W pn x px) (b : QE X K W pn y py) (d : QE X K W pn z pz) (hm : lastMarks [op, op'] [y, z] = false := by with_unfolding_all rfl) : QT X K W pn (.Compare x [op, op'] [y, z] pos) (pTest (pChain g g' px py pz)) := by
  obtain ⟨t, fl, a, a2⟩ := a
  obtain ⟨u, fl2, b, b2⟩ := b
  obtain ⟨v, fl3, d, d2⟩ := d
  exact ⟨_, _, fun i => pt_chain (c.hK i ▸ ho (X i) (c.cm i)) (c.hK i ▸ ho' (X i) (c.cm i)) (a i) (b i) (d i) hm, sim_test (sim_chain a2 b2 d2 (hs K) (hs' K))⟩
theorem q_neg (c : Ct X P w K mg base N W k) (a : QE X K W pn x px) : QE X K W pn (.UnaryOp .USub x pos) (pUn gNeg px) := by
  obtain ⟨t, fl, a, a2⟩ := a
  exact ⟨_, _, fun i => pe_un (r := rU fun i => .int (-i)) un_neg (a i), sim_un (r := rU fun i => .int (-i)) a2 s_neg⟩
/-! and, or, not, a choice -/
theorem q_one {op : PySem.BoolOp} (a : QE X K W pn x px) : QE X K W pn (.BoolOp op [x] pos) px := by
  obtain ⟨t, fl, a, a2⟩ := a
  exact ⟨_, _, fun i => pe_one (a i), a2⟩
theorem q_and (a : QE X K W pn x px) (b : QE X K W pn (.BoolOp .And (y :: es) pos) py) : QE X K W pn (.BoolOp .And (x :: y :: es) pos) (pAndV px py) := by
  obtain ⟨t, fl, a, a2⟩ := a
  obtain ⟨u, fl2, b, b2⟩ := b
  exact ⟨_, _, fun i => pe_and (a i) (b i), sim_andV a2 b2⟩
theorem q_or (a : QE X K W pn x px) (b : QE X K W pn (.BoolOp .Or (y :: es) pos) py) : QE X K W pn (.BoolOp .Or (x :: y :: es) pos) (pOrV px py) := by
  obtain ⟨t, fl, a, a2⟩ := a
  obtain ⟨u, fl2, b, b2⟩ := b
  exact ⟨_, _, fun i => pe_or (a i) (b i), sim_orV a2 b2⟩
theorem q_not (a : QE X K W pn x px) : QE X K W pn (.UnaryOp .Not x pos) (pNotV px) := by
  obtain ⟨t, fl, a, a2⟩ := a
  exact ⟨_, _, fun i => pe_not (a i), sim_notV a2⟩
theorem q_if (d : QT X K W pn e pt) (a : QE X K W pn x px) (b : QE X K W pn y py) : QE X K W pn (.IfExp e x y pos) (pIf pt px py) := by
  obtain ⟨t, fl, a, a2⟩ := a
  obtain ⟨u, fl2, b, b2⟩ := b
  obtain ⟨v, fl3, d, d2⟩ := d
  exact ⟨_, _, fun i => pe_ifExp (d i) (a i) (b i), sim_if d2 a2 b2⟩
theorem t_val (a : QE X K W pn x px) (he : ∀ i whole, isTrue x (X i).env whole = (do let v ← whole; standAt x.pos; holding [v] (truthy v)) := by exact fun _ _ => rfl) : QT X K W pn x (pTest px) := by
  obtain ⟨t, fl, a, a2⟩ := a
  exact ⟨_, _, fun i => pt_val (a i) (he i), sim_B a2⟩
theorem t_tru (c : Ct X P w K mg base N W k) (a : QE X K W pn x px) (he : ∀ i whole, isTrue x (X i).env whole = (do let v ← whole; standAt x.pos; holding [v] (truthy v)) := by exact fun _ _ => rfl) : QT X K W pn x (pTru px) := by
  obtain ⟨t, fl, a, a2⟩ := a
  refine ⟨_, _, fun i => ?_, sim_tru a2⟩
  have z := pt_truth (a i) (he i)
  rw [c.hK i] at z
  exact z
theorem t_not (a : QT X K W pn x pt) : QT X K W pn (.UnaryOp .Not x pos) (pNot pt) := by
  obtain ⟨t, fl, a, a2⟩ := a
  exact ⟨_, _, fun i => pt_not (a i), sim_not a2⟩
theorem w_and1 (a : QT X K W pn x pt) : QW X K W pn (.BoolOp .And [x] pos) pt := by
  obtain ⟨t, fl, a, a2⟩ := a
  exact ⟨_, _, fun i => pw_and1 (a i), a2⟩
theorem w_or1 (a : QT X K W pn x pt) : QW X K W pn (.BoolOp .Or [x] pos) pt := by
  obtain ⟨t, fl, a, a2⟩ := a
  exact ⟨_, _, fun i => pw_or1 (a i), a2⟩
theorem w_and (a : QT X K W pn x pt) (b : QW X K W pn (.BoolOp .And (y :: es) pos) pu) : QW X K W pn (.BoolOp .And (x :: y :: es) pos) (pAnd pt pu) := by
  obtain ⟨t, fl, a, a2⟩ := a
  obtain ⟨u, fl2, b, b2⟩ := b
  exact ⟨_, _, fun i => pw_and (a i) (b i), sim_and a2 b2⟩
theorem w_or (a : QT X K W pn x pt) (b : QW X K W pn (.BoolOp .Or (y :: es) pos) pu) : QW X K W pn (.BoolOp .Or (x :: y :: es) pos) (pOr pt pu) := by
  obtain ⟨t, fl, a, a2⟩ := a
  obtain ⟨u, fl2, b, b2⟩ := b
  exact ⟨_, _, fun i => pw_or (a i) (b i), sim_or a2 b2⟩
theorem t_w (a : QW X K W pn x pt) : QT X K W pn x pt := by
  obtain ⟨t, fl, a, a2⟩ := a
  exact ⟨_, _, fun i => (a i).pt, a2⟩
/-! rows of values -/
theorem a_nil : QA X K W pn [] aNil := ⟨_, _, fun _ => pa_nil, sim_anil⟩
theorem a_cons (a : QE X K W pn x px) (b : QA X K W pn es pa) (hs : ∀ i, starEach (x :: es) (X i).env = (false, eval x (X i).env) :: starEach es (X i).env := by exact fun _ => rfl) : QA X K W pn (x :: es) (aCons px pa) := by
  obtain ⟨t, fl, a, a2⟩ := a
  obtain ⟨u, fl2, b, b2⟩ := b
  exact ⟨_, _, fun i => pa_cons (a i) (b i) (hs i), sim_acons a2 b2⟩
theorem q_tup {x1 : Nat} (a : QA X K W pn es pa) : QE X K W pn (.Tuple es x1 pos) (pTup pa) := by
  obtain ⟨t, fl, a, a2⟩ := a
  exact ⟨_, _, fun i => pe_tup (a i), sim_tup a2⟩
theorem q_lst (a : QA X K W pn es pa) : QE X K W pn (.List es pos) (pLst pa) := by
  obtain ⟨t, fl, a, a2⟩ := a
  exact ⟨_, _, fun i => pe_lst (a i), sim_lst a2⟩
theorem p_nil : QP X K W pn [] [] aNil := ⟨[], _, fun _ _ => pps_nil, sim_anil⟩
theorem p_cons {ks : List (Option Expr)} {vs : List Expr} (a : QE X K W pn x px) (b : QE X K W pn y py) (d : QP X K W pn ks vs pa) : QP X K W pn (some x :: ks) (y :: vs) (aCons px (aCons py pa)) := by
  obtain ⟨t, fl, a, a2⟩ := a
  obtain ⟨u, fl2, b, b2⟩ := b
  obtain ⟨v, fl3, d, d2⟩ := d
  exact ⟨(t, u) :: v, _, fun i pos => pps_cons (a i) (b i) (d i pos), sim_acons a2 (sim_acons b2 d2)⟩
theorem q_disp {ks : List (Option Expr)} {vs : List Expr} (d : QP X K W pn ks vs pa) (hall : ks.all (·.isSome) = true := by rfl) (hl : ks.length = vs.length := by rfl) (h0 : ks ≠ [] := by exact fun h => nomatch h) (h15 : ks.length ≤ 15 := by decide) : QE X K W pn (.Dict ks vs pos) (pDisp pa) := by
  obtain ⟨v, fl3, d, d2⟩ := d
  exact ⟨_, _, fun i => pe_disp (d i _) hall hl h0 h15, sim_disp d2⟩
/-- {} -/
def pDict0 : PEx := fun _ env Q => Q (.val (.dic true [] [])) env
theorem sim_dict0 : SimE K W pn true tDNewK pDict0 := by
  intro Wp env σ H Fz O fp pv Q Q' F P hp hx hq
  intro D hD
  have n1 : Nw Fz H Fz (L2.upd H D (.dK [])) [D] := nw_o F.tr hD
  exact hq (.val (.dic true [] [])) env (.ref D) _ Fz fp [D] (F.nwStp n1) (fun _ => F.nwKp n1) (F.nw n1) ⟨D, [], rfl, rfl, upd_same, rfl, rfl⟩ (F.nwTm n1) hp
theorem q_dict0 : QE X K W pn (.Dict [] [] pos) pDict0 := ⟨_, _, fun i => pe_dnewK, sim_dict0⟩
/-! subscripts -/
theorem q_ix (c : Ct X P w K mg base N W k) (a : QE X K W pn x px) (b : QE X K W pn y py) (hs : PlainIx y := by exact fun _ _ => rfl) : QE X K W pn (.Subscript x y pos) (pOp gIx px py) := by
  obtain ⟨t, fl, a, a2⟩ := a
  obtain ⟨u, fl2, b, b2⟩ := b
  refine ⟨_, _, fun i => pe_ix (r := rIxU K) ?_ (a i) (b i) hs, sim_op a2 b2 s_ix⟩
  rw [← c.hK i]
  exact ix_U (by have := (c.cm i).hu; omega)
theorem o_none : QO X K W pn none oNone := ⟨_, _, fun _ => po_none, sim_onone⟩
theorem o_some (a : QE X K W pn x px) : QO X K W pn (some x) (oSome px) := by
  obtain ⟨t, fl, a, a2⟩ := a
  exact ⟨_, _, fun i => po_some (a i), sim_osome a2⟩
theorem q_sl {lo hi : Option Expr} {pl ph : POp} {p2 : Pos} (c : Ct X P w K mg base N W k) (a : QE X K W pn x px) (b : QO X K W pn lo pl) (d : QO X K W pn hi ph) : QE X K W pn (.Subscript x (.Slice lo hi none p2) pos) (pSl px pl ph) := by
  obtain ⟨t, fl, a, a2⟩ := a
  obtain ⟨u, fl2, b, b2⟩ := b
  obtain ⟨v, fl3, d, d2⟩ := d
  refine ⟨_, _, fun i => pe_slice (r := rSlU K) ?_ (a i) (b i) (d i), sim_sl a2 b2 d2⟩
  rw [← c.hK i]
  exact sl_U
/-! calls of built-in functions, of classes -/
theorem q_callB {id : String} {n : Str} {p : Pos} {r : PySem.W.Frag → List V → Hp → VK → Prop} {g : GN} (c : Ct X P w K mg base N W k) (hc : ∀ X : Cx, Cm X → CallR X (.builtin id) (r X.K)) (hs : ∀ K, SN K (r K) g) (hm : mg n = none) (hv : bootBuiltins n = some (.builtin id)) (a : QA X K W pn (e :: es) pa)
    (hg : ∀ j, Gl (X j) n := by exact fun _ => rfl) (hn : n ≠ "__name__" := by decide) (hdb : (n == ("__debug__" : Str)) = false := by decide)
    (he : ∀ i, starEach (e :: es) (X i).env = (false, eval e (X i).env) :: starEach es (X i).env := by exact fun _ => rfl) (hpl : ∀ i, (backTo pos (starEach es (X i).env)).any (·.1) = false := by exact fun _ => rfl) : QE X K W pn (.Call (.Name n p) (e :: es) [] pos) (pCB g pa) := by
  obtain ⟨t, fl, a, a2⟩ := a
  exact ⟨_, _, fun i => pe_callB (c.hK i ▸ hc (X i) (c.cm i)) (hg i) (by rw [c.hM i]; exact hm) hv (a i) hn hdb (he i) (hpl i), sim_cb a2 (hs K)⟩
theorem q_callTy {T : String} {n : Str} {p : Pos} {r : PySem.W.Frag → List V → Hp → VK → Prop} {g : GN} (c : Ct X P w K mg base N W k) (hc : ∀ X : Cx, Cm X → CallR X (.type T) (r X.K)) (hs : ∀ K, SN K (r K) g) (hm : mg n = none) (hv : bootBuiltins n = some (.type T)) (a : QA X K W pn (e :: es) pa)
    (hg : ∀ j, Gl (X j) n := by exact fun _ => rfl) (hn : n ≠ "__name__" := by decide) (hdb : (n == ("__debug__" : Str)) = false := by decide)
    (he : ∀ i, starEach (e :: es) (X i).env = (false, eval e (X i).env) :: starEach es (X i).env := by exact fun _ => rfl) (hpl : ∀ i, (backTo pos (starEach es (X i).env)).any (·.1) = false := by exact fun _ => rfl) : QE X K W pn (.Call (.Name n p) (e :: es) [] pos) (pCB g pa) := by
  obtain ⟨t, fl, a, a2⟩ := a
  exact ⟨_, _, fun i => pe_callTy (c.hK i ▸ hc (X i) (c.cm i)) (hg i) (by rw [c.hM i]; exact hm) hv (a i) hn hdb (he i) (hpl i), sim_cb a2 (hs K)⟩
/-! calls of defs -/
/-- what a def does, where its object is -/
structure OkF (P : Program) (w : World) (K : PySem.W.Frag) (mg : Str → Option Value) (base : Heap) (k : Nat) (f : Addr) (ps : List Str) (ms : List Bool) (dv : List Val) (F : FSp) : Prop where
  hl : ∀ vs Qe Qr, F vs Qe Qr → vs.length = ms.length
  ex : ∃ (fd : FuncData) (ds : List Value) (dvs : List V), PySem.W.keepIn K (.ref f) = true ∧ Binds K fd ps ds ∧ Vals dvs ds ∧ (∀ Fz H, FznL K Fz H dv dvs) ∧ FnG P w K mg base k f fd ps (spOf K ms F)
theorem q_call {n : Str} {p : Pos} {f : Addr} {prm : List Str} {ms : List Bool} {dv : List Val} {F : FSp} {j : Nat} (c : Ct X P w K mg base N W k) (G : OkF P w K mg base j f prm ms dv F) (hj : j ≤ k) (hm : mg n = some (.ref f)) (a : QA X K W pn (e :: es) pa)
    (hg : ∀ j, Gl (X j) n := by exact fun _ => rfl) (hdb : (n == ("__debug__" : Str)) = false := by decide)
    (he : ∀ i, starEach (e :: es) (X i).env = (false, eval e (X i).env) :: starEach es (X i).env := by exact fun _ => rfl) (hpl : ∀ i, (backTo pos (starEach es (X i).env)).any (·.1) = false := by exact fun _ => rfl) : QE X K W pn (.Call (.Name n p) (e :: es) [] pos) (pCall F ms dv pa) := by
  obtain ⟨t, fl, a, a2⟩ := a
  obtain ⟨fd, ds, dvs, kp, hb, hd, hf, FG⟩ := G.ex
  refine ⟨_, _, fun i => ?_, sim_call a2 hf G.hl⟩
  obtain rfl := c.hP i
  obtain rfl := c.hw i
  obtain rfl := c.hK i
  obtain rfl := c.hM i
  obtain rfl := c.hB i
  exact pe_callG (E := WE W) FG ((c.room i).mono hj) (c.gu i) (hg i) hm kp hb hd (passAt (c.tk i)) (a i) hdb (he i) (hpl i)
theorem q_call0 {n : Str} {p : Pos} {f : Addr} {prm : List Str} {ms : List Bool} {dv : List Val} {F : FSp} {j : Nat} (c : Ct X P w K mg base N W k) (G : OkF P w K mg base j f prm ms dv F) (hj : j ≤ k) (hm : mg n = some (.ref f))
    (hg : ∀ j, Gl (X j) n := by exact fun _ => rfl) (hdb : (n == ("__debug__" : Str)) = false := by decide) : QE X K W pn (.Call (.Name n p) [] [] pos) (pCall F ms dv aNil) := by
  obtain ⟨fd, ds, dvs, kp, hb, hd, hf, FG⟩ := G.ex
  refine ⟨_, _, fun i => ?_, sim_call sim_anil hf G.hl⟩
  obtain rfl := c.hP i
  obtain rfl := c.hw i
  obtain rfl := c.hK i
  obtain rfl := c.hM i
  obtain rfl := c.hB i
  refine ⟨fun pins s σ H Q I h => wpAny_Call_Name_kw (ld_glob I (hg i) hm ?_ hdb)⟩
  exact PySem.W.callWith_K0 I.kIn kp (run_G (us := []) FG ((c.room i).mono hj) (c.gu i) hb hd (passAt (c.tk i) _) I .nil h)
/-- keywords in the parameters' order, behind the positional values -/
def QK {ι : Type} (X : ι → Cx) (K : PySem.W.Frag) (W : WX) (pn : List Nat) (kws : List Keyword) (p : PAr) : Prop := ∃ t fl, (∀ i, PK (X i) kws t) ∧ SimA K W pn fl t p
theorem k_nil : QK X K W pn [] aNil := ⟨_, _, fun _ => pk_nil, sim_anil⟩
theorem k_cons {kws : List Keyword} {nm : Option Str} {kpos : Pos} (a : QE X K W pn x px) (b : QK X K W pn kws pa) : QK X K W pn (⟨nm, x, kpos⟩ :: kws) (aCons px pa) := by
  obtain ⟨t, fl, a, a2⟩ := a
  obtain ⟨u, fl2, b, b2⟩ := b
  exact ⟨_, _, fun i => pk_cons (a i) (b i), sim_acons a2 b2⟩
/-- keywords alone -/
theorem q_callK0 {n : Str} {p : Pos} {f : Addr} {prm : List Str} {ms : List Bool} {F : FSp} {j : Nat} {kws : List Keyword} (c : Ct X P w K mg base N W k) (hl : ∀ vs Qe Qr, F vs Qe Qr → vs.length = ms.length)
    (G : ∃ fd, PySem.W.keepIn K (.ref f) = true ∧ (∀ (s : Shared) (ws : List Value), ws.length = prm.length → BindsTo s fd ⟨[], prm.zip ws⟩ (prm.zip ws)) ∧ FnG P w K mg base j f fd prm (spOf K ms F)) (hj : j ≤ k) (hm : mg n = some (.ref f)) (a : QK X K W pn kws pa)
    (hall : ∀ i, (backToKw pos (keywordEach kws (X i).env)).all (·.1.isSome) = true := by exact fun _ => rfl) (hks : ∀ i, (backToKw pos (keywordEach kws (X i).env)).filterMap (·.1) = prm := by exact fun _ => rfl)
    (hg : ∀ j, Gl (X j) n := by exact fun _ => rfl) (hdb : (n == ("__debug__" : Str)) = false := by decide)
    (hpl : ∀ i, ((backTo pos (starEach [] (X i).env)).any (·.1) || (backToKw pos (keywordEach kws (X i).env)).any (·.1.isNone)) = false := by exact fun _ => rfl) : QE X K W pn (.Call (.Name n p) [] kws pos) (pCall F ms [] pa) := by
  obtain ⟨t, fl, a, a2⟩ := a
  obtain ⟨fd, kp, hb, FG⟩ := G
  refine ⟨_, _, fun i => ?_, sim_call (dvs := []) a2 (fun _ _ => rfl) hl⟩
  obtain rfl := c.hP i
  obtain rfl := c.hw i
  obtain rfl := c.hK i
  obtain rfl := c.hM i
  obtain rfl := c.hB i
  refine ⟨fun pins s σ H Q I h => wpAny_Call_Name_kw (ld_glob I (hg i) hm ?_ hdb)⟩
  refine PySem.W.callWith_KW0 (h₀ := (X i).base) I.ok.mod.kin kp (hall i) (thn ((a i).run pos pins s σ H _ I h) fun ws s2 ⟨zs, H2, I2, rz, q2⟩ => ⟨I2.kIn, ?_⟩) (hpl i)
  rw [hks i]
  have q3 : spOf (X i).K ms F (zs ++ []) H2 Q (WE W σ) := q2
  rw [List.append_nil] at q3
  have hlen : ws.length = prm.length := by rw [← rz.length]; exact FG.len _ _ _ _ q3
  refine wpAny_call (codeAny_mono (FG.run (X i).A (X i).stack s2 H2 ⟨[], prm.zip ws⟩ _ _ Q (WE W σ) ((c.room i).mono hj) (c.gu i) I2.env0 (hb s2 ws hlen) rz q3) fun q s' hq => ?_)
  match q, hq with
  | .error e, hq => exact passAt (c.tk i) σ pins H2 s2 e s' I2 hq
  | .ok (.ret u), hq => exact I2.after hq
  | .ok .next, hq => exact hq.elim
  | .ok .brk, hq => exact hq.elim
  | .ok .cont, hq => exact hq.elim
/-! statements -/
theorem ss_nil : QSs X K W pn [] pNext := ⟨_, fun _ => pss_nil, sim_next⟩
theorem ss_cons (a : QS X K W pn st ps) (b : QSs X K W pn sts qs) : QSs X K W pn (st :: sts) (pSeq ps qs) := by
  obtain ⟨t, a, a2⟩ := a
  obtain ⟨u, b, b2⟩ := b
  exact ⟨_, fun i => pss_cons (a i) (b i), sim_seq a2 b2⟩
theorem ss_one (a : QS X K W pn st ps) : QSs X K W pn [st] ps := by
  obtain ⟨t, a, a2⟩ := a
  exact ⟨_, fun i => pss_one (a i), a2⟩
theorem s_pass : QS X K W pn (.Pass pos) pNext := ⟨_, fun _ => ps_pass, sim_next⟩
theorem s_break : QS X K W pn (.Break pos) pBreak := ⟨_, fun _ => ps_break, sim_break⟩
theorem s_cont : QS X K W pn (.Continue pos) pCont := ⟨_, fun _ => ps_continue, sim_cont⟩
theorem s_doc {z : Str} {j : Nat} {pos' : Pos} : QS X K W pn (.Expr (.Constant (.str z) j pos) pos') pNext := ⟨_, fun _ => ps_doc, sim_next⟩
theorem s_expr (a : QE X K W pn x px) (hs : ∀ i, swapsWith x none pos.line (X i).env = pure false := by exact fun _ => rfl) : QS X K W pn (.Expr x pos) (pDrop px) := by
  obtain ⟨t, fl, a, a2⟩ := a
  exact ⟨_, fun i => ps_expr (a i) (hs i), sim_drop a2⟩
theorem s_ret (a : QE X K W pn x px) : QS X K W pn (.Return (some x) pos) (pRet px) := by
  obtain ⟨t, fl, a, a2⟩ := a
  exact ⟨_, fun i => ps_ret (a i), sim_ret a2⟩
theorem s_retN : QS X K W pn (.Return none pos) pRetN := ⟨_, fun i => ps_retN, sim_retN⟩
theorem s_if {xs ys : List Stmt} (d : QT X K W pn e pt) (a : QSs X K W pn xs ps) (b : QSs X K W pn ys qs) : QS X K W pn (.If e xs ys pos) (pIfS pt ps qs) := by
  obtain ⟨v, fl3, d, d2⟩ := d
  obtain ⟨t, a, a2⟩ := a
  obtain ⟨u, b, b2⟩ := b
  exact ⟨_, fun i => ps_if (d i) (a i) (b i), sim_ifS d2 a2 b2⟩
theorem s_while {xs : List Stmt} (c : Ct X P w K mg base N W k) (d : QT X K W pn e pt) (a : QSs X K W pn xs ps) : QS X K W pn (.While e xs [] pos) (pWhile pt ps) := by
  obtain ⟨v, fl3, d, d2⟩ := d
  obtain ⟨t, a, a2⟩ := a
  exact ⟨_, fun i => ps_while (c.own i) (d i) (a i), sim_while d2 a2⟩
theorem s_set (c : Ct X P w K mg base N W k) (i : Nat) {n : Str} (a : QE X K W pn x px) (hi : N[i]? = some n := by rfl) (hp : i ∉ pn := by decide) (hx : ∀ j, Loc (X j).env.scope n := by first | exact fun _ => Or.inl rfl | exact fun _ => Or.inr rfl)
    (hs : ∀ j, swapsWith x (some (.Name n pos')) pos.line (X j).env = pure false := by exact fun _ => rfl)
    (hf : ∀ j, (X j).fn n = true ∨ (X j).env.scope.names.lookup n = some .local := by first | exact fun _ => .inl rfl | exact fun _ => .inr rfl) : QS X K W pn (.Assign [.Name n pos'] x pos) (pSet i px) := by
  obtain ⟨t, fl, a, a2⟩ := a
  exact ⟨_, fun j => ps_set (by rw [c.hN j]; exact c.nd) (by rw [c.hN j]; exact hi) (hx j) (a j) (hs j) (hf j), sim_set a2 hp⟩
/-! targets -/
variable {pg : PGt} {pgs : PGts} {tg : Expr} {tgs : List Expr} {pi : PIt}
theorem g_name (c : Ct X P w K mg base N W k) (i : Nat) {n : Str} (hi : N[i]? = some n := by rfl) (hp : i ∉ pn := by decide) (hx : ∀ j, Loc (X j).env.scope n := by first | exact fun _ => Or.inl rfl | exact fun _ => Or.inr rfl)
    (hf : ∀ j, (X j).fn n = true ∨ (X j).env.scope.names.lookup n = some .local := by first | exact fun _ => .inl rfl | exact fun _ => .inr rfl) : QG X K pn [i] (.Name n pos) (gnm i) :=
  ⟨_, fun j => pg_name (by rw [c.hN j]; exact c.nd) (by rw [c.hN j]; exact hi) (hx j) (hf j), sim_gnm hp⟩
theorem gs_nil : QGs X K pn [] [] gnil := ⟨_, fun _ => pgs_nil, sim_gnil⟩
theorem gs_cons (a : QG X K pn ts tg pg) (b : QGs X K pn us tgs pgs) (hs : ∀ i, (assignEach (tg :: tgs) (X i).env).map (·.2) = assign tg (X i).env :: (assignEach tgs (X i).env).map (·.2) := by exact fun _ => rfl) : QGs X K pn (ts ++ us) (tg :: tgs) (gcons pg pgs) := by
  obtain ⟨t, a, a2⟩ := a
  obtain ⟨u, b, b2⟩ := b
  exact ⟨_, fun i => pgs_cons (a i) (b i) (hs i), sim_gcons a2 b2⟩
theorem g_tup {kk : Nat} (c : Ct X P w K mg base N W k) (n : Nat) (b : QGs X K pn us tgs pgs) (hn : ∀ i, (assignEach tgs (X i).env).length = n := by exact fun _ => rfl) (hst : ∀ i, (assignEach tgs (X i).env).findIdx? (·.1) = none := by exact fun _ => rfl) : QG X K pn us (.Tuple tgs kk pos) (gtp n pgs) := by
  obtain ⟨u, b, b2⟩ := b
  refine ⟨_, fun i => ?_, sim_gtp b2⟩
  rw [← c.hK i]
  exact pg_tup (c.calm i) (b i) (hn i) (hst i)
theorem s_asg (a : QE X K W pn x px) (b : QG X K pn ts tg pg) (hs : ∀ i, swapsWithSole [tg] x pos.line (X i).env = pure false := by exact fun _ => rfl) (hw : ∀ i, swappedStores [tg] x (X i).env = pure none := by exact fun _ => rfl)
    (h1 : ∀ i, (assignEach [tg] (X i).env).map (·.2) = [assign tg (X i).env] := by exact fun _ => rfl) : QS X K W pn (.Assign [tg] x pos) (pAsg px pg) := by
  obtain ⟨t, fl, a, a2⟩ := a
  obtain ⟨u, b, b2⟩ := b
  exact ⟨_, fun i => ps_asg (a i) (b i) (hs i) (hw i) (h1 i), sim_asg a2 b2⟩
theorem s_setIx (c : Ct X P w K mg base N W k) (a : QE X K W pn x px) (b : QE X K W pn y py) (d : QE X K W pn z pz)
    (ha : ∀ i v, assign (.Subscript y z pos') (X i).env v = (do
      let ov ← holding [v] (eval y (X i).env)
      let iv ← holding [v, ov] (eval z (X i).env)
      standAt pos'
      holding [v, ov, iv] (setItem ov iv v)
      release [v, ov, iv] []) := by exact fun _ _ => rfl)
    (hs : ∀ i, swapsWithSole [.Subscript y z pos'] x pos.line (X i).env = pure false := by exact fun _ => rfl) (hw : ∀ i, swappedStores [.Subscript y z pos'] x (X i).env = pure none := by exact fun _ => rfl)
    (h1 : ∀ i, (assignEach [.Subscript y z pos'] (X i).env).map (·.2) = [assign (.Subscript y z pos') (X i).env] := by exact fun _ => rfl) : QS X K W pn (.Assign [.Subscript y z pos'] x pos) (pSetIx px py pz) := by
  obtain ⟨t, fl, a, a2⟩ := a
  obtain ⟨u, fl2, b, b2⟩ := b
  obtain ⟨v, fl3, d, d2⟩ := d
  exact ⟨_, fun i => ps_asg (a i) (pg_sub (b i) (d i) (set_U (by have := (c.cm i).hu; omega)) (ha i)) (hs i) (hw i) (h1 i), sim_setIx a2 b2 d2⟩
/-! a, b = e, f: two local names -/
def pPar (i j : Nat) (pa : PAr) : PSt := fun W D env => pa W env fun rs e1 => escs rs e1 fun vs e2 => match vs with
  | [v, w] => i < e2.length ∧ j < e2.length ∧ D.nx ((e2.set i (some v)).set j (some w))
  | _ => False
theorem sim_par {fl : Bool} {i j : Nat} {tA : TA} (ha : SimA K W pn fl tA pa) (hi : i ∉ pn) (hj : j ∉ pn) : SimS K W pn (tPar i j tA) (pPar i j pa) := by
  intro Wp D env σ H Fz O fp pv D' F P hp hx nx rt bk ct
  refine ha Wp env σ H Fz O fp pv _ _ F P hp hx fun rs e1 Vs H1 Fz1 fp1 f1 s k F1 r1 t q => ?_
  obtain ⟨vs, e2, Fz2, fp2, g, s2, k2, F2, o, u, q2⟩ := escs_ok F1 r1 t q
  split at q2
  · rename_i v w
    obtain ⟨V1, _, f1, f2, e1, e2, o1, o2⟩ := o
    obtain ⟨V2, _, f3, f4, e3, e4, o3, o4⟩ := o2
    obtain ⟨e5, e6⟩ := o4
    subst e6 e5 e4 e3 e2 e1
    rw [List.append_nil] at u
    refine ⟨V1, V2, rfl, ?_⟩
    have F3 := F2.set (i := i) o1 u.left
    have t3 : Tm Fz2 O H1 (put fp2 i f1) f3 := ⟨u.right.nd, u.right.nf, fun a h m z => by
      unfold put at z
      split at z
      · exact (List.nodup_append.mp u.nd).2.2 a z a h rfl
      · exact u.right.ds a h m z⟩
    have F4 := F3.set (i := j) o3 t3
    exact nx _ _ H1 Fz2 _ (s.trans s2 fun _ h => h) F4 ((P.set hi).set hj) q2.2.2
  · exact q2.elim
theorem s_par {n m : Str} {p1 p2 p3 : Pos} {kt k2 : Nat} {pt2 : Pos} (c : Ct X P w K mg base N W k) (i j : Nat) (a : QA X K W pn [x, y] pa) (hi : N[i]? = some n := by rfl) (hj : N[j]? = some m := by rfl) (hij : i ≠ j := by decide) (hip : i ∉ pn := by decide) (hjp : j ∉ pn := by decide)
    (hx : ∀ q, (X q).env.scope.names.lookup n = some .local := by exact fun _ => rfl) (hy : ∀ q, (X q).env.scope.names.lookup m = some .local := by exact fun _ => rfl)
    (hw : ∀ q, swappedStores [.Tuple [.Name n p1, .Name m p2] kt p3] (.Tuple [x, y] k2 pt2) (X q).env = pure (some [n, m]) := by exact fun _ => rfl)
    (hs : ∀ q, swapsWithSole [.Tuple [.Name n p1, .Name m p2] kt p3] (.Tuple [x, y] k2 pt2) pos.line (X q).env = pure false := by exact fun _ => rfl) :
    QS X K W pn (.Assign [.Tuple [.Name n p1, .Name m p2] kt p3] (.Tuple [x, y] k2 pt2) pos) (pPar i j pa) := by
  obtain ⟨t, fl, a, a2⟩ := a
  exact ⟨_, fun q => ps_par (c.calm q) (by rw [c.hN q]; exact c.nd) (by rw [c.hN q]; exact hi) (by rw [c.hN q]; exact hj) hij (hx q) (hy q) (a q) (hw q) (hs q), sim_par a2 hip hjp⟩
/-! loops over what is walked -/
theorem s_for {xs : List Stmt} (c : Ct X P w K mg base N W k) (d : QI X K W pn tg e pi) (b : QG X K pn ts tg pg) (a : QSs X K W pn xs ps) (hs : ∀ i x, foldedSetIterable e (X i).env x = pure x := by exact fun _ _ => rfl) : QS X K W pn (.For tg e xs [] pos) (pFor pi pg ps) := by
  obtain ⟨v, d, d2⟩ := d
  obtain ⟨t, a, a2⟩ := a
  obtain ⟨u, b, b2⟩ := b
  exact ⟨_, fun i => ps_for (c.own i) (c.calm i) (d i) (b i) (a i) (hs i), sim_for d2 b2 a2⟩
theorem i_any (c : Ct X P w K mg base N W k) (a : QE X K W pn e px) : QI X K W pn tg e (iAny px) := by
  obtain ⟨t, fl, a, a2⟩ := a
  refine ⟨_, fun i => ?_, sim_iAny a2⟩
  rw [← c.hK i]
  exact pi_any (a i)
theorem i_zip {p tpos : Pos} {elts : List Expr} {kk : Nat} (c : Ct X P w K mg base N W k) (hm : mg "zip" = none) (a : QA X K W pn [x, y] pa) (hg : ∀ j, Gl (X j) "zip" := by exact fun _ => rfl) (hs : ∀ i, starEach [x, y] (X i).env = (false, eval x (X i).env) :: starEach [y] (X i).env := by exact fun _ => rfl)
    (hpl : ∀ i, (backTo pos (starEach [y] (X i).env)).any (·.1) = false := by exact fun _ => rfl) : QI X K W pn (.Tuple elts kk tpos) (.Call (.Name "zip" p) [x, y] [] pos) (iZip pa) := by
  obtain ⟨t, fl, a, a2⟩ := a
  refine ⟨_, fun i => ?_, sim_iZip a2⟩
  rw [← c.hK i]
  exact pi_zipK (hg i) (by rw [c.hM i]; exact hm) (a i) (hs i) (hpl i)
theorem i_enum1 {p tpos : Pos} {elts : List Expr} {kk : Nat} (c : Ct X P w K mg base N W k) (hm : mg "enumerate" = none) (a : QA X K W pn [x] pa) (hg : ∀ j, Gl (X j) "enumerate" := by exact fun _ => rfl) (hs : ∀ i, starEach [x] (X i).env = [(false, eval x (X i).env)] := by exact fun _ => rfl) :
    QI X K W pn (.Tuple elts kk tpos) (.Call (.Name "enumerate" p) [x] [] pos) (iEnum1 pa) := by
  obtain ⟨t, fl, a, a2⟩ := a
  refine ⟨_, fun i => ?_, sim_iEnum1 a2⟩
  rw [← c.hK i]
  exact pi_enumK (hg i) (by rw [c.hM i]; exact hm) (a i) (hs i)
theorem i_enum2 {p tpos : Pos} {elts : List Expr} {kk : Nat} (c : Ct X P w K mg base N W k) (hm : mg "enumerate" = none) (a : QA X K W pn [x, y] pa) (hg : ∀ j, Gl (X j) "enumerate" := by exact fun _ => rfl) (hs : ∀ i, starEach [x, y] (X i).env = (false, eval x (X i).env) :: starEach [y] (X i).env := by exact fun _ => rfl)
    (hpl : ∀ i, (backTo pos (starEach [y] (X i).env)).any (·.1) = false := by exact fun _ => rfl) : QI X K W pn (.Tuple elts kk tpos) (.Call (.Name "enumerate" p) [x, y] [] pos) (iEnum2 pa) := by
  obtain ⟨t, fl, a, a2⟩ := a
  refine ⟨_, fun i => ?_, sim_iEnum2 a2⟩
  rw [← c.hK i]
  exact pi_enumK2 (hg i) (by rw [c.hM i]; exact hm) (a i) (hs i) (hpl i)
theorem i_range1 {p : Pos} (c : Ct X P w K mg base N W k) (hm : mg "range" = none) (a : QA X K W pn [x] pa) (hg : ∀ j, Gl (X j) "range" := by exact fun _ => rfl) (hs : ∀ i, starEach [x] (X i).env = [(false, eval x (X i).env)] := by exact fun _ => rfl) :
    QI X K W pn tg (.Call (.Name "range" p) [x] [] pos) (iRange1 pa) := by
  obtain ⟨t, fl, a, a2⟩ := a
  exact ⟨_, fun i => pi_range1 (hg i) (by rw [c.hM i]; exact hm) (a i) (hs i), sim_iRange1 a2⟩
theorem i_range2 {p : Pos} (c : Ct X P w K mg base N W k) (hm : mg "range" = none) (a : QA X K W pn [x, y] pa) (hg : ∀ j, Gl (X j) "range" := by exact fun _ => rfl) (hs : ∀ i, starEach [x, y] (X i).env = [(false, eval x (X i).env), (false, eval y (X i).env)] := by exact fun _ => rfl)
    (hs2 : ∀ i, starEach [y] (X i).env = [(false, eval y (X i).env)] := by exact fun _ => rfl) : QI X K W pn tg (.Call (.Name "range" p) [x, y] [] pos) (iRange2 pa) := by
  obtain ⟨t, fl, a, a2⟩ := a
  exact ⟨_, fun i => pi_range2 (hg i) (by rw [c.hM i]; exact hm) (a i) (hs i) (hs2 i), sim_iRange2 a2⟩
theorem i_range3 {p : Pos} (c : Ct X P w K mg base N W k) (hm : mg "range" = none) (a : QA X K W pn [x, y, z] pa) (hg : ∀ j, Gl (X j) "range" := by exact fun _ => rfl) (hs : ∀ i, starEach [x, y, z] (X i).env = (false, eval x (X i).env) :: starEach [y, z] (X i).env := by exact fun _ => rfl)
    (hpl : ∀ i, (backTo pos (starEach [y, z] (X i).env)).any (·.1) = false := by exact fun _ => rfl) : QI X K W pn tg (.Call (.Name "range" p) [x, y, z] [] pos) (iRange3 pa) := by
  obtain ⟨t, fl, a, a2⟩ := a
  exact ⟨_, fun i => pi_range3 (hg i) (by rw [c.hM i]; exact hm) (a i) (hs i) (hpl i), sim_iRange3 a2⟩
/-! comprehensions -/
def pYes : PTe := fun _ env Q => Q true env
theorem sim_yes : SimT K W pn true tYes pYes := by
  intro Wp env σ H Fz O fp pv Q Q' F P hp hx hq
  exact hq true env H Fz fp .refl (fun _ => .refl) F hp
theorem f_nil : QF X K W pn [] pYes := ⟨_, _, fun _ => pts_nil, sim_yes⟩
theorem f_one (a : QT X K W pn e pt) : QF X K W pn [e] pt := by
  obtain ⟨t, fl, a, a2⟩ := a
  exact ⟨_, _, fun i => pts_one (a i), a2⟩
abbrev Bx (ι : Type) : Type := ι × Shared × Hp × Addr × List (Str × Addr) × List Addr
/-- the contexts of a block -/
abbrev blk (X : ι → Cx) (scope : Scope) : Bx ι → Cx := fun j => (X j.1).blk j.2.1 j.2.2.1 scope (compEnvC scope j.2.2.2.2.1 j.2.2.2.1 (X j.1).env) j.2.2.2.2.2
theorem Ct.blk {scope : Scope} (c : Ct X P w K mg base N W k) : Ct (Qv.blk X scope) P w K mg base N W0 k :=
  ⟨fun j => c.hP j.1, fun j => c.hw j.1, fun j => c.hK j.1, fun j => c.hM j.1, fun j => c.hB j.1, fun j => c.hN j.1, c.nd, fun j => c.calm j.1, fun j => c.room j.1, fun j => c.gu j.1,
    fun j u s' h => by obtain ⟨_, _, _, _, _, _, _, _, _, _, _, _, _, _, _, _, z⟩ := h; exact z, fun j => .never⟩
theorem q_lc {elt iter : Expr} {ifs : List Expr} {scope : Scope} (own : List (Str × Nat)) (c : Ct X P w K mg base N W k) (d : QI X K W pn tg iter pi) (ok : ∀ i, BlkOk N (X i).env.scope scope own) (b : QG (Qv.blk X scope) K [] ts tg pg) (a : QF (Qv.blk X scope) K W0 [] ifs pt)
    (h : QE (Qv.blk X scope) K W0 [] elt px) (hts : ∀ i ∈ ts, i ∈ own.map (·.2) := by decide) (hs : ∀ i x, foldedSetIterable iter (X i).env x = pure x := by exact fun _ _ => rfl) : QE X K W pn (.ListComp elt [⟨tg, iter, ifs, 0⟩] scope pos) (pLc pi pg pt px (own.map (·.2))) := by
  obtain ⟨v, d, d2⟩ := d
  obtain ⟨u, b, b2⟩ := b
  obtain ⟨t, fl, a, a2⟩ := a
  obtain ⟨y, fl2, h, h2⟩ := h
  exact ⟨_, _, fun i => pe_lc (c.calm i) (by rw [c.hN i]; exact c.nd) (d i) (by rw [c.hN i]; exact ok i) (fun s H C cl fp => b (i, s, H, C, cl, fp)) (fun s H C cl fp => a (i, s, H, C, cl, fp)) (fun s H C cl fp => h (i, s, H, C, cl, fp)) (hs i), sim_lc d2 b2 a2 h2 hts⟩
theorem s_setLc {elt iter : Expr} {ifs : List Expr} {scope : Scope} (own : List (Str × Nat)) {n : Str} {spos : Pos} (c : Ct X P w K mg base N W k) (i : Nat) (d : QI X K W pn tg iter pi) (ok : ∀ i, BlkOk N (X i).env.scope scope own) (b : QG (Qv.blk X scope) K [] ts tg pg) (a : QF (Qv.blk X scope) K W0 [] ifs pt)
    (h : QE (Qv.blk X scope) K W0 [] elt px) (hi : N[i]? = some n := by rfl) (hp : i ∉ pn := by decide) (hyl : ∀ j, (X j).env.scope.names.lookup n = some .local := by exact fun _ => rfl)
    (hsw : ∀ j, swapsWith (.ListComp elt [⟨tg, iter, ifs, 0⟩] scope pos) (some (.Name n pos')) spos.line (X j).env = pure true := by exact fun _ => rfl)
    (hts : ∀ i ∈ ts, i ∈ own.map (·.2) := by decide) (hs : ∀ i x, foldedSetIterable iter (X i).env x = pure x := by exact fun _ _ => rfl) : QS X K W pn (.Assign [.Name n pos'] (.ListComp elt [⟨tg, iter, ifs, 0⟩] scope pos) spos) (pSet i (pLc pi pg pt px (own.map (·.2)))) := by
  obtain ⟨v, d, d2⟩ := d
  obtain ⟨u, b, b2⟩ := b
  obtain ⟨t, fl, a, a2⟩ := a
  obtain ⟨y, fl2, h, h2⟩ := h
  exact ⟨_, fun j => ps_setLc (c.calm j) (by rw [c.hN j]; exact c.nd) (by rw [c.hN j]; exact hi) (hyl j) (hsw j) (d j) (by rw [c.hN j]; exact ok j) (fun s H C cl fp => b (j, s, H, C, cl, fp)) (fun s H C cl fp => a (j, s, H, C, cl, fp)) (fun s H C cl fp => h (j, s, H, C, cl, fp)) (hs j), sim_set (sim_lc d2 b2 a2 h2 hts) hp⟩
/-! a def -/
theorem ct_fn {qual : Str} {scope : Scope} {f : Addr} {cdv : Value} {A : Around} {fr : List PySem.Env} {s : Shared} {H : Hp} {E : XK} (hn : N.Nodup) (hr : Room k (A.deeper (PyProof.Rows.envOfC qual scope s.heap.objs.size f cdv))) (hg : A.guards = some []) :
    Ct (fun _ : Unit => cxOf (L2.CX P w) P w K mg base N qual scope f cdv A fr s H E) P w K mg base N (fun cls d _ H => E cls d H) k :=
  ⟨fun _ => rfl, fun _ => rfl, fun _ => rfl, fun _ => rfl, fun _ => rfl, fun _ => rfl, hn, fun _ => rfl, fun _ => hr, fun _ => hg, fun _ => takes_of rfl rfl rfl rfl, fun _ => passes_of rfl⟩
theorem okf {x qual : Str} {params : Arguments} {body : List Stmt} {scope : Scope} {f : Addr} {prm : List Str} {ms : List Bool} {p : PSt} (F : ∃ fd, FunD K x qual params body scope [] [] f fd) (S : FnScope N prm scope) (hm : ms.length = prm.length) (hN : ms.length ≤ N.length)
    (hb : ∀ (kV doc pm : Value) (an : Option Addr) (cdv ct : Value) (us : List Value), us.length = prm.length → bindArgs (PySem.W.fnOf x qual params body scope .none kV doc pm an cdv ct) ⟨us, []⟩ = pure (prm.zip us))
    (hbody : ∀ (cdv : Value) (A : Around) (fr : List PySem.Env) (s : Shared) (H : Hp) (E : XK), Ct (fun _ : Unit => cxOf (L2.CX P w) P w K mg base N qual scope f cdv A fr s H E) P w K mg base N (fun cls d _ H => E cls d H) k →
      QSs (fun _ : Unit => cxOf (L2.CX P w) P w K mg base N qual scope f cdv A fr s H E) K (fun cls d _ H => E cls d H) (lentAt ms) body p) :
    OkF P w K mg base (k + 1) f prm ms [] (fspN N.length ms p) := by
  obtain ⟨fd, F⟩ := F
  refine ⟨fspN_len, fd, [], [], F.kp, F.bindsN hb, .nil, fun _ _ => rfl, FnG.of F S (fun vs H Q E h => ?_) fun cdv A fr s H vs Q E hr hg h => ?_⟩
  · obtain ⟨args, Fz, O, fp, Qe, Qr, hl, Fm1, _⟩ := h
    have z := Fm1.len
    rw [List.length_map, List.length_map] at z
    omega
  · obtain ⟨t, h1, h2⟩ := hbody cdv A fr s H E (ct_fn S.nd hr hg)
    exact ⟨t, h1 (), fn_sim hN h2 h⟩
end
end Qv
set_option Elab.async false
set_option linter.all false
set_option maxRecDepth 100000
set_option maxHeartbeats 4000000
namespace Qv
open PySem PySem.Spec PyProof.Rows L2
/-! ### the rules in short -/
section
variable {ι : Type} {X : ι → Cx} {P : Program} {w : World} {K : PySem.W.Frag} {mg : Str → Option Value} {base : Heap} {N : List Str} {W : WX} {pn ts us : List Nat} {k : Nat}
variable {x y z : Expr} {px py pz : PEx} {e f : Expr} {es : List Expr} {pos pos' p : Pos} {pt pu : PTe} {pa : PAr}
abbrev HoB (op : Operator) (r : PySem.W.Frag → R2) : Prop := ∀ X : Cx, Cm X → OpR X (binaryOp op) (r X.K)
abbrev HoC (op : CmpOp) (r : PySem.W.Frag → R2) : Prop := ∀ X : Cx, Cm X → OpR X (compareOp op) (r X.K)
theorem q_add (c : Ct X P w K mg base N W k) (a : QE X K W pn x px) (b : QE X K W pn y py) : QE X K W pn (.BinOp x .Add y pos) (pOp gAdd px py) := q_op (r := rAddU) c (fun X _ => op_addU) (fun K => s_addU) a b
theorem q_sub (c : Ct X P w K mg base N W k) (a : QE X K W pn x px) (b : QE X K W pn y py) : QE X K W pn (.BinOp x .Sub y pos) (pOp gSub px py) := q_op (r := fun _ => rSubU) c (fun X _ => op_subU) (fun K => s_sub) a b
theorem q_mul (c : Ct X P w K mg base N W k) (a : QE X K W pn x px) (b : QE X K W pn y py) : QE X K W pn (.BinOp x .Mult y pos) (pOp gMul px py) := q_op (r := fun _ => rI CMulW fun i j => .int (i * j)) c (fun X _ => op_mulW) (fun K => s_mul) a b
theorem q_fdiv (c : Ct X P w K mg base N W k) (a : QE X K W pn x px) (b : QE X K W pn y py) : QE X K W pn (.BinOp x .FloorDiv y pos) (pOp gFdiv px py) := q_op (r := fun _ => rI CDivW fun i j => .int (i / j)) c (fun X _ => op_fdivW) (fun K => s_fdiv) a b
theorem q_mod (c : Ct X P w K mg base N W k) (a : QE X K W pn x px) (b : QE X K W pn y py) : QE X K W pn (.BinOp x .Mod y pos) (pOp gMod px py) := q_op (r := fun _ => rI (fun _ j => 0 < j) fun i j => .int (i % j)) c (fun X _ => op_mod) (fun K => s_mod) a b
theorem q_pow (c : Ct X P w K mg base N W k) (a : QE X K W pn x px) (b : QE X K W pn y py) : QE X K W pn (.BinOp x .Pow y pos) (pOp gPow px py) := q_op (r := fun _ => rI CPow fun i j => .int (i ^ j.toNat)) c (fun X _ => op_pow) (fun K => s_pow) a b
abbrev r_lt : PySem.W.Frag → R2 := fun _ x y H Q => rI0 (fun i j => .bl (decide (i < j))) x y H Q ∨ ∃ i j, x = V.str i ∧ y = V.str j ∧ Q (.bl (decide (i.cps.toList < j.cps.toList))) H
theorem o_lt : HoC .Lt r_lt := fun X h => op_ltU
theorem z_lt : ∀ K, S2 K (r_lt K) gLt := fun K => s_cmp
theorem q_lt (c : Ct X P w K mg base N W k) (a : QE X K W pn x px) (b : QE X K W pn y py)  : QE X K W pn (.Compare x [.Lt] [y] pos) (pOp gLt px py) := q_cmp c o_lt z_lt (fun b _ => nomark b) a b
theorem t_lt (c : Ct X P w K mg base N W k) (a : QE X K W pn x px) (b : QE X K W pn y py)  : QT X K W pn (.Compare x [.Lt] [y] pos) (pTest (pOp gLt px py)) := t_cmp c o_lt z_lt (fun b _ => nomark b) a b
abbrev r_le : PySem.W.Frag → R2 := fun _ x y H Q => rI0 (fun i j => .bl (decide (i ≤ j))) x y H Q ∨ ∃ i j, x = V.str i ∧ y = V.str j ∧ Q (.bl (!decide (j.cps.toList < i.cps.toList))) H
theorem o_le : HoC .LtE r_le := fun X h => op_leU
theorem z_le : ∀ K, S2 K (r_le K) gLe := fun K => s_cmp
theorem q_le (c : Ct X P w K mg base N W k) (a : QE X K W pn x px) (b : QE X K W pn y py)  : QE X K W pn (.Compare x [.LtE] [y] pos) (pOp gLe px py) := q_cmp c o_le z_le (fun b _ => nomark b) a b
theorem t_le (c : Ct X P w K mg base N W k) (a : QE X K W pn x px) (b : QE X K W pn y py)  : QT X K W pn (.Compare x [.LtE] [y] pos) (pTest (pOp gLe px py)) := t_cmp c o_le z_le (fun b _ => nomark b) a b
abbrev r_gt : PySem.W.Frag → R2 := fun _ x y H Q => rI0 (fun i j => .bl (decide (j < i))) x y H Q ∨ ∃ i j, x = V.str i ∧ y = V.str j ∧ Q (.bl (decide (j.cps.toList < i.cps.toList))) H
theorem o_gt : HoC .Gt r_gt := fun X h => op_gtU
theorem z_gt : ∀ K, S2 K (r_gt K) gGt := fun K => s_cmp (f := fun i j => decide (j < i)) (g := fun x y => decide (y < x))
theorem q_gt (c : Ct X P w K mg base N W k) (a : QE X K W pn x px) (b : QE X K W pn y py)  : QE X K W pn (.Compare x [.Gt] [y] pos) (pOp gGt px py) := q_cmp c o_gt z_gt (fun b _ => nomark b) a b
theorem t_gt (c : Ct X P w K mg base N W k) (a : QE X K W pn x px) (b : QE X K W pn y py)  : QT X K W pn (.Compare x [.Gt] [y] pos) (pTest (pOp gGt px py)) := t_cmp c o_gt z_gt (fun b _ => nomark b) a b
abbrev r_ge : PySem.W.Frag → R2 := fun _ x y H Q => rI0 (fun i j => .bl (decide (j ≤ i))) x y H Q ∨ ∃ i j, x = V.str i ∧ y = V.str j ∧ Q (.bl (!decide (i.cps.toList < j.cps.toList))) H
theorem o_ge : HoC .GtE r_ge := fun X h => op_geU
theorem z_ge : ∀ K, S2 K (r_ge K) gGe := fun K => s_cmp (f := fun i j => decide (j ≤ i)) (g := fun x y => !decide (x < y))
theorem q_ge (c : Ct X P w K mg base N W k) (a : QE X K W pn x px) (b : QE X K W pn y py)  : QE X K W pn (.Compare x [.GtE] [y] pos) (pOp gGe px py) := q_cmp c o_ge z_ge (fun b _ => nomark b) a b
theorem t_ge (c : Ct X P w K mg base N W k) (a : QE X K W pn x px) (b : QE X K W pn y py)  : QT X K W pn (.Compare x [.GtE] [y] pos) (pTest (pOp gGe px py)) := t_cmp c o_ge z_ge (fun b _ => nomark b) a b
abbrev r_eq : PySem.W.Frag → R2 := rEqD
theorem o_eq : HoC .Eq r_eq := fun X h => op_eqD (by have := h.hu; omega)
theorem z_eq : ∀ K, S2 K (r_eq K) gEq := fun K => s_eq
theorem q_eq (c : Ct X P w K mg base N W k) (a : QE X K W pn x px) (b : QE X K W pn y py)  : QE X K W pn (.Compare x [.Eq] [y] pos) (pOp gEq px py) := q_cmp c o_eq z_eq (fun b _ => nomark b) a b
theorem t_eq (c : Ct X P w K mg base N W k) (a : QE X K W pn x px) (b : QE X K W pn y py)  : QT X K W pn (.Compare x [.Eq] [y] pos) (pTest (pOp gEq px py)) := t_cmp c o_eq z_eq (fun b _ => nomark b) a b
abbrev r_ne : PySem.W.Frag → R2 := rNeD
theorem o_ne : HoC .NotEq r_ne := fun X h => op_neD (by have := h.hu; omega)
theorem z_ne : ∀ K, S2 K (r_ne K) gNe := fun K => s_ne
theorem q_ne (c : Ct X P w K mg base N W k) (a : QE X K W pn x px) (b : QE X K W pn y py)  : QE X K W pn (.Compare x [.NotEq] [y] pos) (pOp gNe px py) := q_cmp c o_ne z_ne (fun b _ => nomark b) a b
theorem t_ne (c : Ct X P w K mg base N W k) (a : QE X K W pn x px) (b : QE X K W pn y py)  : QT X K W pn (.Compare x [.NotEq] [y] pos) (pTest (pOp gNe px py)) := t_cmp c o_ne z_ne (fun b _ => nomark b) a b
abbrev r_is : PySem.W.Frag → R2 := fun _ x y H Q => y = V.non ∧ Q (.bl (decide (x = V.non))) H
theorem o_is : HoC .Is r_is := fun X h => op_isN
theorem z_is : ∀ K, S2 K (r_is K) gIsN := fun K => s_isN
theorem q_is (c : Ct X P w K mg base N W k) (a : QE X K W pn x px) (b : QE X K W pn y py)  : QE X K W pn (.Compare x [.Is] [y] pos) (pOp gIsN px py) := q_cmp c o_is z_is (fun b _ => nomark b) a b
theorem t_is (c : Ct X P w K mg base N W k) (a : QE X K W pn x px) (b : QE X K W pn y py)  : QT X K W pn (.Compare x [.Is] [y] pos) (pTest (pOp gIsN px py)) := t_cmp c o_is z_is (fun b _ => nomark b) a b
abbrev r_isnot : PySem.W.Frag → R2 := fun _ x y H Q => y = V.non ∧ Q (.bl (!decide (x = V.non))) H
theorem o_isnot : HoC .IsNot r_isnot := fun X h => op_notN
theorem z_isnot : ∀ K, S2 K (r_isnot K) gNotN := fun K => s_notN
theorem q_isnot (c : Ct X P w K mg base N W k) (a : QE X K W pn x px) (b : QE X K W pn y py)  : QE X K W pn (.Compare x [.IsNot] [y] pos) (pOp gNotN px py) := q_cmp c o_isnot z_isnot (fun b _ => nomark b) a b
theorem t_isnot (c : Ct X P w K mg base N W k) (a : QE X K W pn x px) (b : QE X K W pn y py)  : QT X K W pn (.Compare x [.IsNot] [y] pos) (pTest (pOp gNotN px py)) := t_cmp c o_isnot z_isnot (fun b _ => nomark b) a b
abbrev r_in : PySem.W.Frag → R2 := fun K => rInU K false rsIn
theorem o_in : HoC .In r_in := fun X h => op_inU (by have := h.hu; omega)
theorem z_in : ∀ K, S2 K (r_in K) (gIn false) := fun K => s_in
theorem q_in (c : Ct X P w K mg base N W k) (a : QE X K W pn x px) (b : QE X K W pn y py) (hm : behindInMarks .In y = false := by with_unfolding_all rfl) : QE X K W pn (.Compare x [.In] [y] pos) (pOp (gIn false) px py) := q_cmp c o_in z_in (fun b h => by rw [h]; exact hm) a b
theorem t_in (c : Ct X P w K mg base N W k) (a : QE X K W pn x px) (b : QE X K W pn y py) (hm : behindInMarks .In y = false := by with_unfolding_all rfl) : QT X K W pn (.Compare x [.In] [y] pos) (pTest (pOp (gIn false) px py)) := t_cmp c o_in z_in (fun b h => by rw [h]; exact hm) a b
abbrev r_nin : PySem.W.Frag → R2 := fun K => rInU K true rsNin
theorem o_nin : HoC .NotIn r_nin := fun X h => op_ninU (by have := h.hu; omega)
theorem z_nin : ∀ K, S2 K (r_nin K) (gIn true) := fun K => s_nin
theorem q_nin (c : Ct X P w K mg base N W k) (a : QE X K W pn x px) (b : QE X K W pn y py) (hm : behindInMarks .NotIn y = false := by with_unfolding_all rfl) : QE X K W pn (.Compare x [.NotIn] [y] pos) (pOp (gIn true) px py) := q_cmp c o_nin z_nin (fun b h => by rw [h]; exact hm) a b
theorem t_nin (c : Ct X P w K mg base N W k) (a : QE X K W pn x px) (b : QE X K W pn y py) (hm : behindInMarks .NotIn y = false := by with_unfolding_all rfl) : QT X K W pn (.Compare x [.NotIn] [y] pos) (pTest (pOp (gIn true) px py)) := t_cmp c o_nin z_nin (fun b h => by rw [h]; exact hm) a b
theorem qb_len (c : Ct X P w K mg base N W k) (hm : mg "len" = none) (a : QA X K W pn (e :: es) pa) (hg : ∀ j, Gl (X j) "len" := by exact fun _ => rfl)
    (he : ∀ i, starEach (e :: es) (X i).env = (false, eval e (X i).env) :: starEach es (X i).env := by exact fun _ => rfl) (hpl : ∀ i, (backTo pos (starEach es (X i).env)).any (·.1) = false := by exact fun _ => rfl) :
    QE X K W pn (.Call (.Name "len" p) (e :: es) [] pos) (pCB gLen pa) := q_callB (r := fun K xs H Q => (∃ z, xs = [V.str z] ∧ z.length ≤ sizeLine ∧ Q (.int z.length) H) ∨ (fun xs H Q => (∃ p ys, xs = [V.ref p] ∧ (SqL K H p ys ∨ SqT K H p ys) ∧ Q (.int ys.length) H) ∨ ∃ a kvs, xs = [V.ref a] ∧ H a = some (.dK kvs) ∧ Q (.int kvs.length) H) xs H Q) c (fun X h => call_lenU) (fun K => s_len) hm (by decide +kernel) a hg (by decide) (by decide) he hpl
theorem qb_int (c : Ct X P w K mg base N W k) (hm : mg "int" = none) (a : QA X K W pn (e :: es) pa) (hg : ∀ j, Gl (X j) "int" := by exact fun _ => rfl)
    (he : ∀ i, starEach (e :: es) (X i).env = (false, eval e (X i).env) :: starEach es (X i).env := by exact fun _ => rfl) (hpl : ∀ i, (backTo pos (starEach es (X i).env)).any (·.1) = false := by exact fun _ => rfl) :
    QE X K W pn (.Call (.Name "int" p) (e :: es) [] pos) (pCB gInt pa) := q_callTy (r := fun K xs H Q => rInt1 xs H Q ∨ rInt2 xs H Q) c (fun X h => call_intU) (fun K => s_int) hm (by decide +kernel) a hg (by decide) (by decide) he hpl
theorem qb_str (c : Ct X P w K mg base N W k) (hm : mg "str" = none) (a : QA X K W pn (e :: es) pa) (hg : ∀ j, Gl (X j) "str" := by exact fun _ => rfl)
    (he : ∀ i, starEach (e :: es) (X i).env = (false, eval e (X i).env) :: starEach es (X i).env := by exact fun _ => rfl) (hpl : ∀ i, (backTo pos (starEach es (X i).env)).any (·.1) = false := by exact fun _ => rfl) :
    QE X K W pn (.Call (.Name "str" p) (e :: es) [] pos) (pCB gStr pa) := q_callTy (r := fun K xs H Q => rStr1 xs H Q ∨ rStr2 xs H Q) c (fun X h => call_strU) (fun K => s_str) hm (by decide +kernel) a hg (by decide) (by decide) he hpl
theorem qb_isinstance (c : Ct X P w K mg base N W k) (hm : mg "isinstance" = none) (a : QA X K W pn (e :: es) pa) (hg : ∀ j, Gl (X j) "isinstance" := by exact fun _ => rfl)
    (he : ∀ i, starEach (e :: es) (X i).env = (false, eval e (X i).env) :: starEach es (X i).env := by exact fun _ => rfl) (hpl : ∀ i, (backTo pos (starEach es (X i).env)).any (·.1) = false := by exact fun _ => rfl) :
    QE X K W pn (.Call (.Name "isinstance" p) (e :: es) [] pos) (pCB gIsi pa) := q_callB (r := rIsi) c (fun X h => call_isi) (fun K => s_isi) hm (by decide +kernel) a hg (by decide) (by decide) he hpl
theorem qb_min (c : Ct X P w K mg base N W k) (hm : mg "min" = none) (a : QA X K W pn (e :: es) pa) (hg : ∀ j, Gl (X j) "min" := by exact fun _ => rfl)
    (he : ∀ i, starEach (e :: es) (X i).env = (false, eval e (X i).env) :: starEach es (X i).env := by exact fun _ => rfl) (hpl : ∀ i, (backTo pos (starEach es (X i).env)).any (·.1) = false := by exact fun _ => rfl) :
    QE X K W pn (.Call (.Name "min" p) (e :: es) [] pos) (pCB gMin pa) := q_callB (r := fun K xs H Q => rMin2 xs H Q ∨ rMin K xs H Q) c (fun X h => call_minU h.calm) (fun K => s_min) hm (by decide +kernel) a hg (by decide) (by decide) he hpl
theorem qb_max (c : Ct X P w K mg base N W k) (hm : mg "max" = none) (a : QA X K W pn (e :: es) pa) (hg : ∀ j, Gl (X j) "max" := by exact fun _ => rfl)
    (he : ∀ i, starEach (e :: es) (X i).env = (false, eval e (X i).env) :: starEach es (X i).env := by exact fun _ => rfl) (hpl : ∀ i, (backTo pos (starEach es (X i).env)).any (·.1) = false := by exact fun _ => rfl) :
    QE X K W pn (.Call (.Name "max" p) (e :: es) [] pos) (pCB gMax pa) := q_callB (r := fun K xs H Q => rMax2 xs H Q ∨ rMax K xs H Q) c (fun X h => call_maxU h.calm) (fun K => s_max) hm (by decide +kernel) a hg (by decide) (by decide) he hpl
theorem qb_abs (c : Ct X P w K mg base N W k) (hm : mg "abs" = none) (a : QA X K W pn (e :: es) pa) (hg : ∀ j, Gl (X j) "abs" := by exact fun _ => rfl)
    (he : ∀ i, starEach (e :: es) (X i).env = (false, eval e (X i).env) :: starEach es (X i).env := by exact fun _ => rfl) (hpl : ∀ i, (backTo pos (starEach es (X i).env)).any (·.1) = false := by exact fun _ => rfl) :
    QE X K W pn (.Call (.Name "abs" p) (e :: es) [] pos) (pCB gAbs pa) := q_callB (r := fun _ xs H Q => ∃ i, xs = [V.int i] ∧ Q (.int (if i < 0 then -i else i)) H) c (fun X h => call_abs) (fun K => s_abs) hm (by decide +kernel) a hg (by decide) (by decide) he hpl
theorem qb_sum (c : Ct X P w K mg base N W k) (hm : mg "sum" = none) (a : QA X K W pn (e :: es) pa) (hg : ∀ j, Gl (X j) "sum" := by exact fun _ => rfl)
    (he : ∀ i, starEach (e :: es) (X i).env = (false, eval e (X i).env) :: starEach es (X i).env := by exact fun _ => rfl) (hpl : ∀ i, (backTo pos (starEach es (X i).env)).any (·.1) = false := by exact fun _ => rfl) :
    QE X K W pn (.Call (.Name "sum" p) (e :: es) [] pos) (pCB gSum pa) := q_callB (r := rSum) c (fun X h => cr_sum h.calm) (fun K => s_sum) hm (by decide +kernel) a hg (by decide) (by decide) he hpl
theorem qb_any (c : Ct X P w K mg base N W k) (hm : mg "any" = none) (a : QA X K W pn (e :: es) pa) (hg : ∀ j, Gl (X j) "any" := by exact fun _ => rfl)
    (he : ∀ i, starEach (e :: es) (X i).env = (false, eval e (X i).env) :: starEach es (X i).env := by exact fun _ => rfl) (hpl : ∀ i, (backTo pos (starEach es (X i).env)).any (·.1) = false := by exact fun _ => rfl) :
    QE X K W pn (.Call (.Name "any" p) (e :: es) [] pos) (pCB gAny pa) := q_callB (r := rAny) c (fun X h => cr_any h.calm) (fun K => s_any) hm (by decide +kernel) a hg (by decide) (by decide) he hpl
theorem qb_all (c : Ct X P w K mg base N W k) (hm : mg "all" = none) (a : QA X K W pn (e :: es) pa) (hg : ∀ j, Gl (X j) "all" := by exact fun _ => rfl)
    (he : ∀ i, starEach (e :: es) (X i).env = (false, eval e (X i).env) :: starEach es (X i).env := by exact fun _ => rfl) (hpl : ∀ i, (backTo pos (starEach es (X i).env)).any (·.1) = false := by exact fun _ => rfl) :
    QE X K W pn (.Call (.Name "all" p) (e :: es) [] pos) (pCB gAll pa) := q_callB (r := rAll) c (fun X h => cr_all h.calm) (fun K => s_all) hm (by decide +kernel) a hg (by decide) (by decide) he hpl
theorem qb_sorted (c : Ct X P w K mg base N W k) (hm : mg "sorted" = none) (a : QA X K W pn (e :: es) pa) (hg : ∀ j, Gl (X j) "sorted" := by exact fun _ => rfl)
    (he : ∀ i, starEach (e :: es) (X i).env = (false, eval e (X i).env) :: starEach es (X i).env := by exact fun _ => rfl) (hpl : ∀ i, (backTo pos (starEach es (X i).env)).any (·.1) = false := by exact fun _ => rfl) :
    QE X K W pn (.Call (.Name "sorted" p) (e :: es) [] pos) (pCB gSorted pa) := q_callB (r := rSortedI) c (fun X h => cr_sortedI) (fun K => s_sorted) hm (by decide +kernel) a hg (by decide) (by decide) he hpl
theorem qb_list (c : Ct X P w K mg base N W k) (hm : mg "list" = none) (a : QA X K W pn (e :: es) pa) (hg : ∀ j, Gl (X j) "list" := by exact fun _ => rfl)
    (he : ∀ i, starEach (e :: es) (X i).env = (false, eval e (X i).env) :: starEach es (X i).env := by exact fun _ => rfl) (hpl : ∀ i, (backTo pos (starEach es (X i).env)).any (·.1) = false := by exact fun _ => rfl) :
    QE X K W pn (.Call (.Name "list" p) (e :: es) [] pos) (pCB gList pa) := q_callTy (r := fun K xs H Q => ∃ p ys, xs = [V.ref p] ∧ (SqL K H p ys ∨ SqT K H p ys) ∧ ∀ l, H l = none → Q (.ref l) (upd H l (.lst ys))) c (fun X h => call_list_of) (fun K => s_list) hm (by decide +kernel) a hg (by decide) (by decide) he hpl
theorem qb_tuple (c : Ct X P w K mg base N W k) (hm : mg "tuple" = none) (a : QA X K W pn (e :: es) pa) (hg : ∀ j, Gl (X j) "tuple" := by exact fun _ => rfl)
    (he : ∀ i, starEach (e :: es) (X i).env = (false, eval e (X i).env) :: starEach es (X i).env := by exact fun _ => rfl) (hpl : ∀ i, (backTo pos (starEach es (X i).env)).any (·.1) = false := by exact fun _ => rfl) :
    QE X K W pn (.Call (.Name "tuple" p) (e :: es) [] pos) (pCB gTuple pa) := q_callTy (r := fun K xs H Q => ∃ p ys, xs = [V.ref p] ∧ ((SqL K H p ys ∧ ∀ l, H l = none → Q (.ref l) (upd H l (.tup ys))) ∨ (SqT K H p ys ∧ Q (.ref p) H))) c (fun X h => call_tuple_of) (fun K => s_tuple) hm (by decide +kernel) a hg (by decide) (by decide) he hpl
theorem qb_repr (c : Ct X P w K mg base N W k) (hm : mg "repr" = none) (a : QA X K W pn (e :: es) pa) (hg : ∀ j, Gl (X j) "repr" := by exact fun _ => rfl)
    (he : ∀ i, starEach (e :: es) (X i).env = (false, eval e (X i).env) :: starEach es (X i).env := by exact fun _ => rfl) (hpl : ∀ i, (backTo pos (starEach es (X i).env)).any (·.1) = false := by exact fun _ => rfl) :
    QE X K W pn (.Call (.Name "repr" p) (e :: es) [] pos) (pCB gRepr pa) := q_callB (r := rRepr) c (fun X h => call_repr h.gu h.hu) (fun K => s_repr) hm (by decide +kernel) a hg (by decide) (by decide) he hpl
end
end Qv
set_option Elab.async false
set_option linter.all false
set_option maxRecDepth 100000
set_option maxHeartbeats 4000000
namespace Qv
open PySem PySem.Spec PyProof.Rows L2
section
variable {P : Program} {w : World} {K : PySem.W.Frag} {mg : Str → Option Value} {base : Heap} {N : List Str} {k : Nat} {x qual : Str} {params : Arguments} {body : List Stmt} {scope : Scope} {f : Addr} {prm : List Str} {ms : List Bool} {p : PSt} {F : FSp}
theorem fnf {n : Nat} (D : ∃ fd, FunD K x qual params body scope [] [] f fd) (S : FnScope N prm scope) (hm : ms.length = prm.length) (hN : ms.length ≤ n) (hn : N.length = n)
    (hbody : ∀ (cdv : Value) (A : Around) (fr : List PySem.Env) (s : Shared) (H : Hp) (E : XK), Ct (fun _ : Unit => cxOf (L2.CX P w) P w K mg base N qual scope f cdv A fr s H E) P w K mg base N (fun cls d _ H => E cls d H) k →
      QSs (fun _ : Unit => cxOf (L2.CX P w) P w K mg base N qual scope f cdv A fr s H E) K (fun cls d _ H => E cls d H) (lentAt ms) body p) :
    ∃ fd, FunD K x qual params body scope [] [] f fd ∧ FnG P w K mg base (k + 1) f fd prm (spOf K ms (fspN n ms p)) := by
  subst hn
  obtain ⟨fd, D⟩ := D
  refine ⟨fd, D, FnG.of D S (fun vs H Q E h => ?_) fun cdv A fr s H vs Q E hr hg h => ?_⟩
  · obtain ⟨args, Fz, O, fp, Qe, Qr, hl, Fm1, _⟩ := h
    have z := Fm1.len
    rw [List.length_map, List.length_map] at z
    omega
  · obtain ⟨t, h1, h2⟩ := hbody cdv A fr s H E (ct_fn S.nd hr hg)
    exact ⟨t, h1 (), fn_sim hN h2 h⟩
theorem okf_of (hl : ∀ vs Qe Qr, F vs Qe Qr → vs.length = ms.length) (h : ∃ fd, FunD K x qual params body scope [] [] f fd ∧ FnG P w K mg base k f fd prm (spOf K ms F))
    (hb : ∀ (kV doc pm : Value) (an : Option Addr) (cdv ct : Value) (us : List Value), us.length = prm.length → bindArgs (PySem.W.fnOf x qual params body scope .none kV doc pm an cdv ct) ⟨us, []⟩ = pure (prm.zip us)) :
    OkF P w K mg base k f prm ms [] F := by
  obtain ⟨fd, D, G⟩ := h
  exact ⟨hl, fd, [], [], D.kp, D.bindsN hb, .nil, fun _ _ => rfl, G⟩
theorem kwf_of (h : ∃ fd, FunD K x qual params body scope [] [] f fd ∧ FnG P w K mg base k f fd prm (spOf K ms F))
    (hb : ∀ (kV doc pm : Value) (an : Option Addr) (cdv ct : Value) (us : List Value), us.length = prm.length → bindArgs (PySem.W.fnOf x qual params body scope .none kV doc pm an cdv ct) ⟨[], List.zip prm us⟩ = pure (prm.zip us)) :
    ∃ fd, PySem.W.keepIn K (.ref f) = true ∧ (∀ (s : Shared) (ws : List Value), ws.length = prm.length → BindsTo s fd ⟨[], List.zip prm ws⟩ (List.zip prm ws)) ∧ FnG P w K mg base k f fd prm (spOf K ms F) := by
  obtain ⟨fd, D, G⟩ := h
  refine ⟨fd, D.kp, fun s ws hl => ?_, G⟩
  obtain ⟨oc, od, dV, kV, doc, pm, an, cdv, ct, osl, rfl, lk, hcd, hD, hK⟩ := D.ex
  rcases hD with ⟨_, rfl⟩ | ⟨e, _⟩
  · exact .of_eq (hb kV doc pm an cdv ct ws hl)
  · exact absurd rfl e
/-- the law's own def -/
theorem law_end {h : Heap} {n kl : Nat} {xp : Str} (D : ∃ fd, FunD K x qual params body scope [] [] f fd)
    (hb : ∀ (kV doc pm : Value) (an : Option Addr) (cdv ct : Value) (us : List Value), us.length = [xp].length → bindArgs (PySem.W.fnOf x qual params body scope .none kV doc pm an cdv ct) ⟨us, []⟩ = pure (List.zip [xp] us))
    (KX : K.In h) (hG : ∀ base : Heap, K.In base → base.Ns mainGlobals mg → ∃ fd, FunD K x qual params body scope [] [] f fd ∧ FnG P w K mg base kl f fd [xp] (spOf K [false] F))
    (hp : ∀ ns : List Int, ns.length ≤ n → (∀ z ∈ ns, Builtin.Int.intBits z ≤ 1048576) → F [.lst false (ns.map Val.int)] (fun _ _ => False) fun v _ => v = .bl true) :
    ∃ (K : PySem.W.Frag) (fd : FuncData) (sp : Sp), K.In h ∧ (∀ (s : Shared) (u : Value), BindsTo s fd ⟨[u], []⟩ [(xp, u)]) ∧
        (∀ (H : Hp) (a : Addr) (ns : List Int), ns.length ≤ n → (∀ z ∈ ns, Builtin.Int.intBits z ≤ 1048576) → Only H → SqL K H a (ns.map V.int) → sp [.ref a] H (fun v _ => v = .bl true) fun _ _ _ => False) ∧
        ∀ base : Heap, K.In base → base.Ns mainGlobals mg → FnG P w K mg base kl f fd [xp] sp := by
  obtain ⟨fd, D⟩ := D
  refine ⟨K, fd, spOf K [false] F, KX, fun s u => ?_, fun H a ns hl hbits hO hS => ?_, fun base b1 b2 => ?_⟩
  · obtain ⟨oc, od, dV, kV, doc, pm, an, cdv, ct, osl, rfl, lk, hcd, hD, hK⟩ := D.ex
    rcases hD with ⟨_, rfl⟩ | ⟨e, _⟩
    · exact .of_eq (hb kV doc pm an cdv ct [u] rfl)
    · exact absurd rfl e
  · have fl : FL K (fun b => b = a ∧ H a ≠ none) H a (ns.map V.int) := by
      rcases hS with r | r
      · refine .inl ⟨⟨rfl, ?_⟩, r⟩
        rcases r with r | ⟨_, r⟩ <;> (rw [r]; exact fun z => by cases z)
      · exact .inr fun _ => .inr r
    refine ⟨[.lst false (ns.map Val.int)], fun b => b = a ∧ H a ≠ none, fun _ => False, fun _ => [], _, _, rfl, ?_, hp ns hl hbits, fun v V H' Fz' fp' ft fin s F' o t q => ?_, fun _ _ _ _ _ _ _ _ _ _ q => q⟩
    · refine ⟨rfl, fun i v e => ?_, fun _ _ _ h => (by cases h), fun _ => List.nodup_nil, fun _ _ h => (by cases h), fun b h => ⟨fun z => z, by rw [h.1]; exact h.2⟩, fun _ h => h.elim⟩
      cases i with
      | zero =>
        cases e
        exact ⟨.ref a, rfl, rfl, rfl, a, ns.map V.int, rfl, fl, fzn_ints ns⟩
      | succ i => cases i <;> cases e
    · subst q
      exact Ow.bl ⟨_, o⟩
  · obtain ⟨fd', D', G⟩ := hG base b1 b2
    obtain ⟨oc, od, dV, kV, doc, pm, an, cdv, ct, osl, e1, lk, _⟩ := D.ex
    obtain ⟨oc', od', dV', kV', doc', pm', an', cdv', ct', osl', e1', lk', _⟩ := D'.ex
    rw [lk] at lk'
    cases lk'
    exact G
def blkB (N : List Str) (sc scope : Scope) (own : List (Str × Nat)) : Bool :=
  decide (scope.kind = .function) && (scope.names.all (fun y => decide (scope.names.lookup y.1 = some y.2)) && (own.all (fun p => decide (N[p.2]? = some p.1)) &&
    (scope.names.all (fun y => decide (y.2 = .free → (sc.names.lookup y.1 = some .cell ∨ sc.names.lookup y.1 = some .free))) && scope.names.all (fun y => decide (y.2 = .local ∨ y.2 = .cell → (y.1 ∈ own.map (·.1) ∨ y.1 ∉ N))))))
theorem blk_ok {sc sc' : Scope} {own : List (Str × Nat)} (h : blkB N sc sc' own = true) : BlkOk N sc sc' own := by
  unfold blkB at h
  simp only [Bool.and_eq_true, decide_eq_true_eq, List.all_eq_true] at h
  obtain ⟨h1, h2, h3, h4, h5⟩ := h
  exact ⟨h1, h2, h3, h4, h5⟩
end
end Qv
set_option Elab.async false
set_option linter.all false
set_option maxRecDepth 100000
set_option maxHeartbeats 4000000
namespace Qv
open PySem PySem.Spec L2
/-! ### the p-terms, step by step -/
section
variable {W : PX} {nx bk ct : Env → Prop} {rt : Val → Env → Prop} {env e1 : Env} {p q ps qs : PSt} {pe px py pz : PEx} {pt pu : PTe} {pa pr : PAr} {pg : PGt} {pgs : PGts} {pi : PIt} {Q : Res → Env → Prop} {Qt : Bool → Env → Prop} {Qa : List Res → Env → Prop} {v u x y : Val} {r ra rb : Res} {rs : List Res} {vs xs ys : List Val} {i j : Nat} {b c : Bool} {A B : Prop}
abbrev En (nx : Env → Prop) (rt : Val → Env → Prop) (bk ct : Env → Prop) : PEnd := ⟨nx, rt, bk, ct⟩
theorem r_seq (k : p W ⟨q W ⟨nx, rt, bk, ct⟩, rt, bk, ct⟩ env) : pSeq p q W ⟨nx, rt, bk, ct⟩ env := k
theorem r_next (k : nx env) : pNext W ⟨nx, rt, bk, ct⟩ env := k
theorem r_brk (k : bk env) : pBreak W ⟨nx, rt, bk, ct⟩ env := k
theorem r_ct (k : ct env) : pCont W ⟨nx, rt, bk, ct⟩ env := k
theorem r_drop (k : pe W env fun _ e1 => nx e1) : pDrop pe W ⟨nx, rt, bk, ct⟩ env := k
theorem r_ret (k : pe W env fun r e1 => esc r e1 rt) : pRet pe W ⟨nx, rt, bk, ct⟩ env := k
theorem r_retN (k : rt .non env) : pRetN W ⟨nx, rt, bk, ct⟩ env := k
theorem r_ifS (k : pt W env fun b e1 => if b = true then p W ⟨nx, rt, bk, ct⟩ e1 else q W ⟨nx, rt, bk, ct⟩ e1) : pIfS pt p q W ⟨nx, rt, bk, ct⟩ env := k
def SetK (i : Nat) (v : Val) (e : Env) (nx : Env → Prop) : Prop := i < e.length ∧ nx (e.set i (some v))
theorem r_set (k : pe W env fun r e1 => esc r e1 fun v e2 => SetK i v e2 nx) : pSet i pe W ⟨nx, rt, bk, ct⟩ env := k
theorem r_setK (h : Nat.ble (i + 1) env.length = true) (k : nx (env.set i (some v))) : SetK i v env nx := ⟨Nat.le_of_ble_eq_true h, k⟩
theorem r_escV (k : rt v env) : esc (.val v) env rt := k
theorem r_escL (h : env[i]? = some (some (.lst true xs))) (k : rt (.lst false xs) (env.set i (some (.lst false xs)))) : esc (.pl i) env rt := by
  unfold esc
  simp only [h]
  exact k
theorem r_escD {ks : List Key} (h : env[i]? = some (some (.dic true ks xs))) (k : rt (.dic false ks xs) (env.set i (some (.dic false ks xs)))) : esc (.pl i) env rt := by
  unfold esc
  simp only [h]
  exact k
theorem r_var (h : env[i]? = some (some v)) (o : v.owned = false) (k : Q (.val v) env) : pVar i W env Q := by
  unfold pVar
  simp only [h, o]
  exact k
theorem r_varO (h : env[i]? = some (some v)) (o : v.owned = true) (k : Q (.pl i) env) : pVar i W env Q := by
  unfold pVar
  simp only [h, o]
  exact k
theorem r_c (k : Q (.val v) env) : pC v W env Q := k
def Op2 (g : G2) (ra rb : Res) (e : Env) (Q : Res → Env → Prop) : Prop := match rd e ra, rd e rb with
  | some v, some w => g v w fun u => Q (.val u) e
  | _, _ => False
theorem r_op {g : G2} (k : px W env fun ra e1 => py W e1 fun rb e2 => Op2 g ra rb e2 Q) : pOp g px py W env Q := k
theorem r_op2 {g : G2} (h1 : rd env ra = some v) (h2 : rd env rb = some u) (k : g v u fun x => Q (.val x) env) : Op2 g ra rb env Q := by
  unfold Op2
  simp only [h1, h2]
  exact k
def Op1 (g : G1) (ra : Res) (e : Env) (Q : Res → Env → Prop) : Prop := match rd e ra with
  | some v => g v fun u => Q (.val u) e
  | _ => False
theorem r_un {g : G1} (k : px W env fun ra e1 => Op1 g ra e1 Q) : pUn g px W env Q := k
theorem r_op1 {g : G1} (h1 : rd env ra = some v) (k : g v fun x => Q (.val x) env) : Op1 g ra env Q := by
  unfold Op1
  simp only [h1]
  exact k
theorem r_nil (k : Qa [] env) : aNil W env Qa := k
theorem r_cons (k : px W env fun r e1 => pr W e1 fun rs e2 => Qa (r :: rs) e2) : aCons px pr W env Qa := k
def Cb (g : GN) (rs : List Res) (e : Env) (Q : Res → Env → Prop) : Prop := match rds e rs with
  | some vs => g vs fun u => Q (.val u) e
  | none => False
theorem r_cb {g : GN} (k : pa W env fun rs e1 => Cb g rs e1 Q) : pCB g pa W env Q := k
theorem r_cbE {g : GN} (h : rds env rs = some vs) (k : g vs fun u => Q (.val u) env) : Cb g rs env Q := by
  unfold Cb
  simp only [h]
  exact k
def Ts (r : Res) (e : Env) (Q : Bool → Env → Prop) : Prop := match rd e r with
  | some (.bl b) => Q b e
  | _ => False
theorem r_test (k : pe W env fun r e1 => Ts r e1 Qt) : pTest pe W env Qt := k
theorem r_ts (h : rd env r = some (.bl b)) (k : Qt b env) : Ts r env Qt := by
  unfold Ts
  simp only [h]
  exact k
def Tu (r : Res) (e : Env) (Q : Bool → Env → Prop) : Prop := match rd e r with
  | some v => (match truth v with
    | some b => fits v ∧ Q b e
    | none => False)
  | none => False
theorem r_tru (k : pe W env fun r e1 => Tu r e1 Qt) : pTru pe W env Qt := k
theorem r_tu (h : rd env r = some v) (h2 : truth v = some b) (h3 : fits v) (k : Qt b env) : Tu r env Qt := by
  unfold Tu
  simp only [h, h2]
  exact ⟨h3, k⟩
theorem r_and (k : pt W env fun c e1 => if c = true then pu W e1 Qt else Qt false e1) : pAnd pt pu W env Qt := k
theorem r_or (k : pt W env fun c e1 => if c = true then Qt true e1 else pu W e1 Qt) : pOr pt pu W env Qt := k
theorem r_not (k : pt W env fun c e1 => Qt (!c) e1) : pNot pt W env Qt := k
theorem r_if (k : pt W env fun c e1 => if c = true then px W e1 Q else py W e1 Q) : pIf pt px py W env Q := k
def AndV (r : Res) (e : Env) (A : Env → Prop) (Q : Res → Env → Prop) : Prop := match rd e r with
  | some (.bl c) => if c = true then A e else Q (.val (.bl false)) e
  | _ => False
def OrV (r : Res) (e : Env) (A : Env → Prop) (Q : Res → Env → Prop) : Prop := match rd e r with
  | some (.bl c) => if c = true then Q (.val (.bl true)) e else A e
  | _ => False
theorem r_andV (k : px W env fun r e1 => AndV r e1 (fun e => py W e Q) Q) : pAndV px py W env Q := k
theorem r_orV (k : px W env fun r e1 => OrV r e1 (fun e => py W e Q) Q) : pOrV px py W env Q := k
theorem r_andE {A : Env → Prop} (h : rd env r = some (.bl c)) (k : if c = true then A env else Q (.val (.bl false)) env) : AndV r env A Q := by
  unfold AndV
  simp only [h]
  exact k
theorem r_orE {A : Env → Prop} (h : rd env r = some (.bl c)) (k : if c = true then Q (.val (.bl true)) env else A env) : OrV r env A Q := by
  unfold OrV
  simp only [h]
  exact k
def NotV (r : Res) (e : Env) (Q : Res → Env → Prop) : Prop := match rd e r with
  | some (.bl c) => Q (.val (.bl (!c))) e
  | _ => False
theorem r_notV (k : px W env fun r e1 => NotV r e1 Q) : pNotV px W env Q := k
theorem r_notE (h : rd env r = some (.bl c)) (k : Q (.val (.bl (!c))) env) : NotV r env Q := by
  unfold NotV
  simp only [h]
  exact k
/-- a op b op c -/
def Ch1 (g h : G2) (ra rb : Res) (e2 : Env) (pc : (Res → Env → Prop) → Prop) (Q : Res → Env → Prop) : Prop := match rd e2 ra, rd e2 rb with
  | some v, some w => g v w fun u => match u with
    | .bl k => if k = true then pc fun rc e3 => (match rd e3 rb, rd e3 rc with
        | some w, some x => h w x fun y => Q (.val y) e3
        | _, _ => False) else Q (.val (.bl false)) e2
    | _ => False
  | _, _ => False
def Ch2 (g : G2) (ra rb : Res) (e : Env) (Q : Res → Env → Prop) : Prop := match rd e ra, rd e rb with
  | some v, some w => g v w fun u => Q (.val u) e
  | _, _ => False
def ChB (u : Val) (A : Prop) (B : Prop) : Prop := match u with
  | .bl k => if k = true then A else B
  | _ => False
theorem r_chain {g h : G2} (k : px W env fun ra e1 => py W e1 fun rb e2 => Ch1 g h ra rb e2 (fun R => pz W e2 R) Q) : pChain g h px py pz W env Q := k
theorem r_ch1 {g h : G2} {pc : (Res → Env → Prop) → Prop} (h1 : rd env ra = some v) (h2 : rd env rb = some u) (k : g v u fun x => ChB x (pc fun rc e3 => Ch2 h rb rc e3 Q) (Q (.val (.bl false)) env)) : Ch1 g h ra rb env pc Q := by
  unfold Ch1
  simp only [h1, h2]
  exact k
theorem r_ch2 {g : G2} (h1 : rd env ra = some v) (h2 : rd env rb = some u) (k : g v u fun x => Q (.val x) env) : Ch2 g ra rb env Q := by
  unfold Ch2
  simp only [h1, h2]
  exact k
theorem r_chB (k : if c = true then A else B) : ChB (.bl c) A B := k
/-! rows -/
def EscK (rs : List Res) (e : Env) (k : List Val → Env → Prop) : Prop := escs rs e k
theorem r_escsN {k : List Val → Env → Prop} (h : k [] env) : escs [] env k := h
theorem r_escsC {k : List Val → Env → Prop} (h : esc r env fun v e1 => escs rs e1 fun vs e2 => k (v :: vs) e2) : escs (r :: rs) env k := h
def TupK (vs : List Val) (e : Env) (Q : Res → Env → Prop) : Prop := vs.length ≤ sizeLine ∧ Q (.val (.tup (freezeL vs))) e
def LstK (vs : List Val) (e : Env) (Q : Res → Env → Prop) : Prop := vs.length ≤ sizeLine ∧ Q (.val (.lst true (freezeL vs))) e
theorem r_tup (k : pa W env fun rs e1 => escs rs e1 fun vs e2 => TupK vs e2 Q) : pTup pa W env Q := k
theorem r_lst (k : pa W env fun rs e1 => escs rs e1 fun vs e2 => LstK vs e2 Q) : pLst pa W env Q := k
theorem len_ok {n : Nat} (h : vs.length = n) (h2 : Nat.ble n 1000 = true) : vs.length ≤ sizeLine := by
  have z := Nat.le_of_ble_eq_true h2
  rw [sizeLine_eq]
  omega
theorem r_tupK {n : Nat} (h : vs.length = n) (h2 : Nat.ble n 1000 = true) (h3 : freezeL vs = xs) (k : Q (.val (.tup xs)) env) : TupK vs env Q := ⟨len_ok h h2, by rw [h3]; exact k⟩
theorem r_lstK {n : Nat} (h : vs.length = n) (h2 : Nat.ble n 1000 = true) (h3 : freezeL vs = xs) (k : Q (.val (.lst true xs)) env) : LstK vs env Q := ⟨len_ok h h2, by rw [h3]; exact k⟩
theorem fr_nil : freezeL [] = [] := rfl
theorem fr_cons (h : freeze v = u) (h2 : freezeL vs = xs) : freezeL (v :: vs) = u :: xs := by
  show freeze v :: freezeL vs = _
  rw [h, h2]
theorem fr_id (h : v.owned = false) (h2 : ∀ C ns xs, v ≠ .obj false C ns xs) : freeze v = v := by
  cases v with
  | lst o xs => cases h; rfl
  | dic o ks xs => cases h; rfl
  | obj o C ns xs => cases h; exact absurd rfl (h2 C ns xs)
  | _ => rfl
theorem fz_non : freeze .non = .non := rfl
theorem fz_bl {b : Bool} : freeze (.bl b) = .bl b := rfl
theorem fz_int {z : Int} : freeze (.int z) = .int z := rfl
theorem fz_str {z : Str} : freeze (.str z) = .str z := rfl
theorem fz_tup : freeze (.tup xs) = .tup xs := rfl
theorem fz_lst {o : Bool} : freeze (.lst o xs) = .lst false xs := rfl
theorem fz_dic {o : Bool} {ks : List Key} : freeze (.dic o ks xs) = .dic false ks xs := rfl
theorem fz_ty {n : String} : freeze (.ty n) = .ty n := rfl
theorem fz_atm {n : Addr} : freeze (.atm n) = .atm n := rfl
theorem fz_id (h : v.owned = false) (h2 : v.tyName.isSome = true) : freeze v = v := fr_id h fun C ns xs e => by
  rw [e] at h2
  cases h2
/-! values' operations -/
theorem r_addI {R : Val → Prop} {i j : Int} (k : R (.int (i + j))) : gAdd (.int i) (.int j) R := k
theorem r_addS {R : Val → Prop} {i j : Str} (h : i.length + j.length ≤ sizeLine) (k : R (.str (i ++ j))) : gAdd (.str i) (.str j) R := ⟨h, k⟩
theorem r_addL {R : Val → Prop} {o o' : Bool} (h : xs.length + ys.length ≤ sizeLine) (k : R (.lst true (xs ++ ys))) : gAdd (.lst o xs) (.lst o' ys) R := ⟨h, k⟩
theorem r_addT {R : Val → Prop} (h : xs.length + ys.length ≤ sizeLine) (k : R (.tup (xs ++ ys))) : gAdd (.tup xs) (.tup ys) R := ⟨h, k⟩
theorem r_subI {R : Val → Prop} {i j : Int} (k : R (.int (i - j))) : gSub (.int i) (.int j) R := k
theorem r_addBI {R : Val → Prop} {j : Int} (k : R (.int (b2 b + j))) : gAdd (.bl b) (.int j) R := k
theorem r_subBI {R : Val → Prop} {j : Int} (k : R (.int (b2 b - j))) : gSub (.bl b) (.int j) R := k
theorem r_mulI {R : Val → Prop} {i j : Int} (h : CMulW i j) (k : R (.int (i * j))) : gMul (.int i) (.int j) R := ⟨h, k⟩
theorem r_fdivI {R : Val → Prop} {i j : Int} (h : CDivW i j) (k : R (.int (i / j))) : gFdiv (.int i) (.int j) R := ⟨h, k⟩
theorem r_modI {R : Val → Prop} {i j : Int} (h : 0 < j) (k : R (.int (i % j))) : gMod (.int i) (.int j) R := ⟨h, k⟩
theorem r_powI {R : Val → Prop} {i j : Int} (h : CPow i j) (k : R (.int (i ^ j.toNat))) : gPow (.int i) (.int j) R := ⟨h, k⟩
theorem r_negI {R : Val → Prop} {i : Int} (k : R (.int (-i))) : gNeg (.int i) R := k
theorem r_ltI {R : Val → Prop} {i j : Int} (k : R (.bl (decide (i < j)))) : gLt (.int i) (.int j) R := k
theorem r_leI {R : Val → Prop} {i j : Int} (k : R (.bl (decide (i ≤ j)))) : gLe (.int i) (.int j) R := k
theorem r_gtI {R : Val → Prop} {i j : Int} (k : R (.bl (decide (j < i)))) : gGt (.int i) (.int j) R := k
theorem r_geI {R : Val → Prop} {i j : Int} (k : R (.bl (decide (j ≤ i)))) : gGe (.int i) (.int j) R := k
theorem r_eqv {R : Val → Prop} (h1 : v.nod = true) (h2 : u.nod = true) (h3 : SeqAt.shaped v.dat = true) (h4 : SeqAt.shaped u.dat = true) (h5 : PyData.eqv v.dat u.dat = c) (k : R (.bl c)) : gEq v u R := ⟨h1, h2, h3, h4, by rw [h5]; exact k⟩
theorem r_nev {R : Val → Prop} (h1 : v.nod = true) (h2 : u.nod = true) (h3 : SeqAt.shaped v.dat = true) (h4 : SeqAt.shaped u.dat = true) (h5 : PyData.eqv v.dat u.dat = c) (k : R (.bl (!c))) : gNe v u R := ⟨h1, h2, h3, h4, by rw [h5]; exact k⟩
theorem beqI (i j : Int) : (i == j) = decide (i = j) := by
  by_cases h : i = j
  · subst h; simp
  · simp [h]
theorem eqvI (i j : Int) : PyData.eqv (Val.int i).dat (Val.int j).dat = decide (i = j) := by
  simp only [Val.dat, PyData.eqv]
  exact beqI i j
theorem shI (i : Int) : SeqAt.shaped (Val.int i).dat = true := by
  simp [Val.dat, SeqAt.shaped, PyData.canLay0, PyData.depth]
theorem r_eqI {R : Val → Prop} {i j : Int} (k : R (.bl (decide (i = j)))) : gEq (.int i) (.int j) R := r_eqv rfl rfl (shI i) (shI j) (eqvI i j) k
theorem r_neI {R : Val → Prop} {i j : Int} (k : R (.bl (!decide (i = j)))) : gNe (.int i) (.int j) R := r_nev rfl rfl (shI i) (shI j) (eqvI i j) k
theorem r_isN {R : Val → Prop} (k : R (.bl v.isN)) : gIsN v .non R := ⟨rfl, k⟩
theorem r_notN {R : Val → Prop} (k : R (.bl (!v.isN))) : gNotN v .non R := ⟨rfl, k⟩
theorem r_ixL {R : Val → Prop} {o : Bool} {z : Int} (h : atI xs z = some u) (k : R u) : gIx (.lst o xs) (.int z) R := by
  unfold gIx
  simp only [h]
  exact k
theorem r_ixT {R : Val → Prop} {z : Int} (h : atI xs z = some u) (k : R u) : gIx (.tup xs) (.int z) R := by
  unfold gIx
  simp only [h]
  exact k
theorem r_ixD {R : Val → Prop} {o : Bool} {ks : List Key} {w : Val} {kk : Key} (h1 : keyOf w = some kk) (h : getK ks xs kk = some u) (k : R u) : gIx (.dic o ks xs) w R := by
  unfold gIx
  simp only [h1, h]
  exact k
theorem r_lenL {R : Val → Prop} {o : Bool} (k : R (.int xs.length)) : gLen [.lst o xs] R := k
theorem r_lenT {R : Val → Prop} (k : R (.int xs.length)) : gLen [.tup xs] R := k
theorem r_lenS {R : Val → Prop} {z : Str} (h : z.length ≤ sizeLine) (k : R (.int z.length)) : gLen [.str z] R := ⟨h, k⟩
theorem r_intI {R : Val → Prop} {z : Int} (k : R (.int z)) : gInt [.int z] R := k
theorem r_intB {R : Val → Prop} (k : R (.int (if b then 1 else 0))) : gInt [.bl b] R := k
theorem r_isi {R : Val → Prop} {T : String} (h1 : v.tyName.isSome = true) (h2 : isT v T = some b) (k : R (.bl b)) : gIsi [v, .ty T] R := by
  refine ⟨h1, ?_⟩
  simp only [h2]
  exact k
theorem isT_int (v : Val) : isT v "int" = some (match v with
    | .int _ => true
    | .bl _ => true
    | .ty _ => false
    | _ => false) := by
  unfold isT
  rw [if_pos rfl]
  all_goals (cases v <;> rfl)
theorem isT_bool (v : Val) : isT v "bool" = some (match v with
    | .bl _ => true
    | _ => false) := by
  unfold isT
  rw [if_neg (by decide), if_pos rfl]
  all_goals (cases v <;> rfl)
theorem isT_str (v : Val) : isT v "str" = some (match v with
    | .str _ => true
    | _ => false) := by
  unfold isT
  rw [if_neg (by decide), if_neg (by decide), if_pos rfl]
  all_goals (cases v <;> rfl)
theorem isT_tuple (v : Val) : isT v "tuple" = some (match v with
    | .tup _ => true
    | _ => false) := by
  unfold isT
  rw [if_neg (by decide), if_neg (by decide), if_neg (by decide), if_pos rfl]
  all_goals (cases v <;> rfl)
theorem isT_list (v : Val) : isT v "list" = some (match v with
    | .lst _ _ => true
    | _ => false) := by
  unfold isT
  rw [if_neg (by decide), if_neg (by decide), if_neg (by decide), if_neg (by decide), if_pos rfl]
  all_goals (cases v <;> rfl)
theorem r_min2 {R : Val → Prop} {i j : Int} (k : R (.int (if j < i then j else i))) : gMin [.int i, .int j] R := k
theorem r_max2 {R : Val → Prop} {i j : Int} (k : R (.int (if j > i then j else i))) : gMax [.int i, .int j] R := k
theorem r_listL {R : Val → Prop} {o : Bool} (k : R (.lst true xs)) : gList [.lst o xs] R := k
theorem r_listT {R : Val → Prop} (k : R (.lst true xs)) : gList [.tup xs] R := k
theorem r_tupleL {R : Val → Prop} {o : Bool} (k : R (.tup xs)) : gTuple [.lst o xs] R := k
theorem r_tupleT {R : Val → Prop} (k : R (.tup xs)) : gTuple [.tup xs] R := k
/-! slices -/
def SlK (r : Res) (lo hi : Option Int) (e : Env) (Q : Res → Env → Prop) : Prop := match rd e r with
  | some v => gSl v lo hi fun u => Q (.val u) e
  | none => False
theorem r_sl {pl ph : POp} (k : pe W env fun r e1 => pl W e1 fun lo e2 => ph W e2 fun hi e3 => SlK r lo hi e3 Q) : pSl pe pl ph W env Q := k
theorem r_oN {Qo : Option Int → Env → Prop} (k : Qo none env) : oNone W env Qo := k
def OsK (r : Res) (e : Env) (Q : Option Int → Env → Prop) : Prop := match rd e r with
  | some (.int i) => Q (some i) e
  | _ => False
theorem r_oS {Qo : Option Int → Env → Prop} (k : pe W env fun r e1 => OsK r e1 Qo) : oSome pe W env Qo := k
theorem r_osK {Qo : Option Int → Env → Prop} {z : Int} (h : rd env r = some (.int z)) (k : Qo (some z) env) : OsK r env Qo := by
  unfold OsK
  simp only [h]
  exact k
theorem r_slT {lo hi : Option Int} (h : rd env r = some (.tup xs)) (h2 : cutL xs lo hi = ys) (k : Q (.val (.tup ys)) env) : SlK r lo hi env Q := by
  unfold SlK
  simp only [h]
  unfold gSl
  rw [← h2] at k
  exact k
theorem r_slL {lo hi : Option Int} {o : Bool} (h : rd env r = some (.lst o xs)) (h2 : cutL xs lo hi = ys) (k : Q (.val (.lst true ys)) env) : SlK r lo hi env Q := by
  unfold SlK
  simp only [h]
  unfold gSl
  rw [← h2] at k
  exact k
/-! choices -/
theorem r_iteT (h : c = true) (k : A) : if c = true then A else B := by
  rw [if_pos h]
  exact k
theorem r_iteF (h : c = false) (k : B) : if c = true then A else B := by
  rw [if_neg (by rw [h]; decide)]
  exact k
theorem r_ite (k : c = true → A) (k2 : c = false → B) : if c = true then A else B := by
  cases c with
  | true => exact k rfl
  | false => exact k2 rfl
/-! calls -/
theorem r_call {f : FSp} {ms : List Bool} (k : pa W env fun rs e1 => prep ms rs e1 fun vs ls e2 => f vs (fun exc fin => W exc (wb ls fin e2)) fun v fin => Q (.val v) (wb ls fin e2)) : pCall f ms [] pa W env Q := by
  unfold pCall
  simp only [List.append_nil]
  exact k
theorem r_prepN {ms : List Bool} {k : List Val → List (Option Nat) → Env → Prop} (h : k [] [] env) : prep ms [] env k := by
  unfold prep
  exact h
theorem r_prepC {m : Bool} {ms : List Bool} {k : List Val → List (Option Nat) → Env → Prop} (h : lend m r env fun v l e1 => prep ms rs e1 fun vs ls e2 => k (v :: vs) (l :: ls) e2) : prep (m :: ms) (r :: rs) env k := by
  unfold prep
  exact h
theorem r_lendV {m : Bool} {k : Val → Option Nat → Env → Prop} (h : k v none env) : lend m (.val v) env k := h
theorem r_lendT {k : Val → Option Nat → Env → Prop} (h : env[i]? = some (some v)) (h2 : k v (some i) (env.set i none)) : lend true (.pl i) env k := by
  unfold lend
  simp only [h]
  exact h2
theorem r_lendF {k : Val → Option Nat → Env → Prop} (h : env[i]? = some (some v)) (h2 : k (freeze v) none (env.set i (some (freeze v)))) : lend false (.pl i) env k := by
  unfold lend
  simp only [h]
  exact h2
theorem r_lendFL {k : Val → Option Nat → Env → Prop} (h : env[i]? = some (some (.lst true xs))) (h2 : k (.lst false xs) none (env.set i (some (.lst false xs)))) : lend false (.pl i) env k := r_lendF h h2
theorem r_lendFD {ks : List Key} {k : Val → Option Nat → Env → Prop} (h : env[i]? = some (some (.dic true ks xs))) (h2 : k (.dic false ks xs) none (env.set i (some (.dic false ks xs)))) : lend false (.pl i) env k := r_lendF h h2
/-! targets, two at once -/
theorem r_asg (k : pe W env fun r e1 => esc r e1 fun v e2 => pg v e2 nx) : pAsg pe pg W ⟨nx, rt, bk, ct⟩ env := k
theorem r_gnm (h : Nat.ble (i + 1) env.length = true) (k : nx (env.set i (some v))) : gnm i v env nx := ⟨Nat.le_of_ble_eq_true h, k⟩
theorem r_gtp {n : Nat} (h : xs.length = n) (k : pgs xs env nx) : gtp n pgs (.tup xs) env nx := ⟨h, k⟩
theorem r_gcons (k : pg v env fun e1 => pgs vs e1 nx) : gcons pg pgs (v :: vs) env nx := k
theorem r_gnil (k : nx env) : gnil [] env nx := ⟨rfl, k⟩
def ParK (i j : Nat) (vs : List Val) (e : Env) (nx : Env → Prop) : Prop := match vs with
  | [v, w] => i < e.length ∧ j < e.length ∧ nx ((e.set i (some v)).set j (some w))
  | _ => False
theorem r_par (k : pa W env fun rs e1 => escs rs e1 fun vs e2 => ParK i j vs e2 nx) : pPar i j pa W ⟨nx, rt, bk, ct⟩ env := k
theorem r_parK (h1 : Nat.ble (i + 1) env.length = true) (h2 : Nat.ble (j + 1) env.length = true) (k : nx ((env.set i (some v)).set j (some u))) : ParK i j [v, u] env nx := ⟨Nat.le_of_ble_eq_true h1, Nat.le_of_ble_eq_true h2, k⟩
/-! places -/
def SixK (r k : Res) (v : Val) (e : Env) (nx : Env → Prop) : Prop := match r, rd e k with
  | .pl i, some kv => setIx i kv (freeze v) e nx
  | _, _ => False
theorem r_setIx (k : pe W env fun r e1 => esc r e1 fun v e2 => px W e2 fun r e3 => py W e3 fun kk e4 => SixK r kk v e4 nx) : pSetIx pe px py W ⟨nx, rt, bk, ct⟩ env := k
theorem r_sixL {z : Int} (h : env[i]? = some (some (.lst true xs))) (h2 : rd env r = some (.int z)) (h3 : ixN xs.length z = some j) (h4 : freeze v = u) (h5 : xs.set j u = ys) (k : nx (env.set i (some (.lst true ys)))) : SixK (.pl i) r v env nx := by
  unfold SixK
  simp only [h2]
  unfold setIx
  simp only [h]
  subst h5 h4
  exact ⟨j, h3, k⟩
theorem r_sixD {ks ks' : List Key} {w : Val} {kk : Key} (h : env[i]? = some (some (.dic true ks xs))) (h2 : rd env r = some w) (h3 : keyOf w = some kk) (h4 : freeze v = u) (h6 : ks.length < sizeLine) (h5 : putKs ks kk = ks') (h7 : putXs ks xs kk u = ys) (k : nx (env.set i (some (.dic true ks' ys)))) : SixK (.pl i) r v env nx := by
  unfold SixK
  simp only [h2]
  unfold setIx
  simp only [h, h3]
  subst h5 h4 h7
  exact ⟨h6, k⟩
def DispK (vs : List Val) (e : Env) (Q : Res → Env → Prop) : Prop := match unpair (freezeL vs) with
  | some (ks, xs) => ks.length ≤ 15 ∧ Q (.val (.dic true (dispL [] [] ks xs).1 (dispL [] [] ks xs).2)) e
  | none => False
theorem r_disp (k : pa W env fun rs e1 => escs rs e1 fun vs e2 => DispK vs e2 Q) : pDisp pa W env Q := k
theorem r_dispK {ks ks' : List Key} {xs' : List Val} (h : freezeL vs = ys) (h1 : unpair ys = some (ks, xs)) (h2 : Nat.ble ks.length 15 = true) (h3 : dispL [] [] ks xs = (ks', xs')) (k : Q (.val (.dic true ks' xs')) env) : DispK vs env Q := by
  unfold DispK
  rw [h]
  simp only [h1]
  rw [h3]
  exact ⟨Nat.le_of_ble_eq_true h2, k⟩
theorem r_dict0 (k : Q (.val (.dic true [] [])) env) : pDict0 W env Q := k
/-! loops -/
theorem r_for (k : pi W env fun xs e1 => pForL pg p xs W ⟨nx, rt, bk, ct⟩ e1) : pFor pi pg p W ⟨nx, rt, bk, ct⟩ env := k
def AnyK (v : Val) (e : Env) (Q : List Val → Env → Prop) : Prop := match items v with
  | some xs => Q xs e
  | none => False
theorem r_iAny {Qi : List Val → Env → Prop} (k : pe W env fun r e1 => esc r e1 fun v e2 => AnyK v e2 Qi) : iAny pe W env Qi := k
theorem r_anyK {Qi : List Val → Env → Prop} (h : items v = some xs) (k : Qi xs env) : AnyK v env Qi := by
  unfold AnyK
  simp only [h]
  exact k
def Rg1 (rs : List Res) (e : Env) (Q : List Val → Env → Prop) : Prop := match rds e rs with
  | some [.int j] => -(2 ^ 62) ≤ j ∧ j < 2 ^ 62 ∧ Q (rangeV 0 1 j.toNat) e
  | _ => False
theorem r_iR1 {Qi : List Val → Env → Prop} (k : pa W env fun rs e1 => Rg1 rs e1 Qi) : iRange1 pa W env Qi := k
theorem r_rg1 {Qi : List Val → Env → Prop} {z : Int} (h : rds env rs = some [.int z]) (h1 : -(2 ^ 62) ≤ z) (h2 : z < 2 ^ 62) (k : Qi (rangeV 0 1 z.toNat) env) : Rg1 rs env Qi := by
  unfold Rg1
  simp only [h]
  exact ⟨h1, h2, k⟩
def ZipK (vs : List Val) (e : Env) (Q : List Val → Env → Prop) : Prop := match vs with
  | [v, w] => (match items v, items w with
    | some xs, some ys => Q (pairs xs ys) e
    | _, _ => False)
  | _ => False
theorem r_iZip {Qi : List Val → Env → Prop} (k : pa W env fun rs e1 => escs rs e1 fun vs e2 => ZipK vs e2 Qi) : iZip pa W env Qi := k
theorem r_zipK {Qi : List Val → Env → Prop} (h1 : items v = some xs) (h2 : items u = some ys) (k : Qi (pairs xs ys) env) : ZipK [v, u] env Qi := by
  unfold ZipK
  simp only [h1, h2]
  exact k
theorem r_forN (k : nx env) : pForL pg p [] W ⟨nx, rt, bk, ct⟩ env := k
theorem r_forC (k : pg x env fun e1 => p W ⟨pForL pg p xs W ⟨nx, rt, bk, ct⟩, rt, nx, pForL pg p xs W ⟨nx, rt, bk, ct⟩⟩ e1) : pForL pg p (x :: xs) W ⟨nx, rt, bk, ct⟩ env := k
theorem for_inv (I : Nat → Env → Prop) (h0 : I 0 env) (hs : ∀ i x e (Nx : Env → Prop), xs[i]? = some x → I i e → (∀ e', I (i + 1) e' → Nx e') → pg x e fun e1 => p W ⟨Nx, rt, nx, Nx⟩ e1) (hd : ∀ e, I xs.length e → nx e) : pForL pg p xs W ⟨nx, rt, bk, ct⟩ env := by
  suffices h : ∀ (n i : Nat) (e : Env), n = xs.length - i → i ≤ xs.length → I i e → pForL pg p (xs.drop i) W ⟨nx, rt, bk, ct⟩ e by
    have z := h xs.length 0 env (by simp) (Nat.zero_le _) h0
    simpa using z
  intro n
  induction n with
  | zero =>
    intro i e hn hi hI
    have ei : i = xs.length := by omega
    subst ei
    rw [List.drop_length]
    exact hd e hI
  | succ n ih =>
    intro i e hn hi hI
    have hlt : i < xs.length := by omega
    rw [List.drop_eq_getElem_cons hlt]
    exact hs i xs[i] e (pForL pg p (xs.drop (i + 1)) W ⟨nx, rt, bk, ct⟩) (by simp [hlt]) hI fun e' h' => ih (i + 1) e' (by omega) hlt h'
theorem while_inv (I : Nat → Env → Prop) (m : Nat) (h0 : I m env) (hs : ∀ m e (Nx : Env → Prop), I m e → (∀ m' e', m' < m → I m' e' → Nx e') → pt W e fun b e1 => if b = true then p W ⟨Nx, rt, nx, Nx⟩ e1 else nx e1) : pWhile pt p W ⟨nx, rt, bk, ct⟩ env := by
  suffices h : ∀ (n m : Nat) (e : Env), m ≤ n → I m e → pWhN pt p (n + 1) W ⟨nx, rt, bk, ct⟩ e from ⟨m + 1, h m m env (Nat.le_refl _) h0⟩
  intro n
  induction n with
  | zero =>
    intro m e hm hI
    exact hs m e _ hI fun m' e' h' _ => absurd h' (by omega)
  | succ n ih =>
    intro m e hm hI
    exact hs m e _ hI fun m' e' h' hI' => ih m' e' (by omega) hI'
/-! comprehensions -/
theorem r_lc {own : List Nat} (k : pi W env fun xs e1 => ownOk e1 own ∧ pLcL pg pt pe own xs [] (wipeE e1 own) fun acc e2 => Q (.val (.lst true acc)) (unwipe e2 e1 own)) : pLc pi pg pt pe own W env Q := k
theorem lc_inv {own : List Nat} {Ql : List Val → Env → Prop} {acc : List Val} (I : Nat → List Val → Env → Prop) (h0 : I 0 acc env)
    (hs : ∀ i x acc e (Nx : List Val → Env → Prop), xs[i]? = some x → I i acc e → (∀ acc' e', I (i + 1) acc' e' → Nx acc' e') → pg x e fun e1 => pt (fun _ _ => False) e1 fun b e2 => if b = true then pe (fun _ _ => False) e2 fun r e3 => esc r e3 fun v e4 => acc.length < sizeLine ∧ Nx (acc ++ [freeze v]) (wipeE e4 own) else Nx acc (wipeE e2 own))
    (hd : ∀ acc e, I xs.length acc e → Ql acc e) : pLcL pg pt pe own xs acc env Ql := by
  suffices h : ∀ (n i : Nat) (acc : List Val) (e : Env), n = xs.length - i → i ≤ xs.length → I i acc e → pLcL pg pt pe own (xs.drop i) acc e Ql by
    have z := h xs.length 0 acc env (by simp) (Nat.zero_le _) h0
    simpa using z
  intro n
  induction n with
  | zero =>
    intro i acc e hn hi hI
    have ei : i = xs.length := by omega
    subst ei
    rw [List.drop_length]
    exact hd acc e hI
  | succ n ih =>
    intro i acc e hn hi hI
    have hlt : i < xs.length := by omega
    rw [List.drop_eq_getElem_cons hlt]
    exact hs i xs[i] acc e (fun acc e => pLcL pg pt pe own (xs.drop (i + 1)) acc e Ql) (by simp [hlt]) hI fun acc' e' h' => ih (i + 1) acc' e' (by omega) hlt h'
end
end Qv
set_option Elab.async false
set_option linter.all false
set_option maxRecDepth 100000
set_option maxHeartbeats 4000000
namespace Qv
open PySem PySem.Spec L2
/-! ### sizes of numbers -/
theorem log_of {n : Nat} (h : n ≤ 1267650600228229401496703205376) : n.log2 < 400 := by
  by_cases h0 : n = 0
  · subst h0
    decide
  · rw [Nat.log2_lt h0]
    exact Nat.lt_of_le_of_lt h (by decide +kernel)
theorem cmul {i j : Int} (h1 : -1267650600228229401496703205376 ≤ i) (h2 : i ≤ 1267650600228229401496703205376) (h3 : -1267650600228229401496703205376 ≤ j) (h4 : j ≤ 1267650600228229401496703205376) : CMulW i j := by
  have a := log_of (n := i.natAbs) (by omega)
  have b := log_of (n := j.natAbs) (by omega)
  unfold CMulW
  omega
theorem cdiv {i j : Int} (h1 : 0 < j) (h2 : j ≤ 1267650600228229401496703205376) : CDivW i j := by
  have b := log_of (n := j.natAbs) (by omega)
  exact ⟨h1, by omega⟩
/-- a loop that changes one number alone -/
theorem while_int {W : PX} {nx bk ct : Env → Prop} {rt : Val → Env → Prop} {env : Env} {pt : PTe} {p : PSt} (i : Nat) (J : Nat → Int → Prop) (m : Nat) (a0 : Int) (h0 : env[i]? = some (some (.int a0))) (hJ : J m a0)
    (hs : ∀ m a (Nx : Env → Prop), J m a → (∀ m' a', m' < m → J m' a' → Nx (env.set i (some (.int a')))) → pt W (env.set i (some (.int a))) fun b e1 => if b = true then p W ⟨Nx, rt, nx, Nx⟩ e1 else nx e1) : pWhile pt p W ⟨nx, rt, bk, ct⟩ env := by
  have e0 : env.set i (some (.int a0)) = env := by
    apply List.ext_getElem?
    intro j
    by_cases hj : i = j
    · subst hj
      rw [List.getElem?_set_self (List.getElem?_eq_some_iff.mp h0).1, h0]
    · rw [List.getElem?_set_ne hj]
  refine while_inv (fun m e => ∃ a, e = env.set i (some (.int a)) ∧ J m a) m ⟨a0, e0.symm, hJ⟩ ?_
  rintro m e Nx ⟨a, rfl, h⟩ hN
  exact hs m a Nx h fun m' a' h1 h2 => hN m' _ h1 ⟨a', rfl, h2⟩
/-! ### the laws' own drawing -/
abbrev dk : List Key := [.inr "cells", .inr "at", .inr "left", .inr "used"]
def DR (cells : List Int) (at_ left used : Int) : Val := .dic true dk [.lst false (cells.map .int), .int at_, .int left, .int used]
theorem kne {a b : Str} (h : a ≠ b) : (Sum.inr a : Key) ≠ Sum.inr b := fun e => h (Sum.inr.inj e)
theorem k12 : ("cells" : Str) ≠ "at" := by decide +kernel
theorem k13 : ("cells" : Str) ≠ "left" := by decide +kernel
theorem k14 : ("cells" : Str) ≠ "used" := by decide +kernel
theorem k23 : ("at" : Str) ≠ "left" := by decide +kernel
theorem k24 : ("at" : Str) ≠ "used" := by decide +kernel
theorem k34 : ("left" : Str) ≠ "used" := by decide +kernel
section
variable {W : PX} {nx : Env → Prop} {env : Env} {cells : List Int} {a l u z : Int} {R : Val → Prop} {r : Res} {i : Nat} {v : Val}
theorem r_drC (k : R (.lst false (cells.map .int))) : gIx (DR cells a l u) (.str "cells") R := r_ixD (kk := .inr "cells") rfl (by simp [getK]) k
theorem r_drA (k : R (.int a)) : gIx (DR cells a l u) (.str "at") R := r_ixD (kk := .inr "at") rfl (by simp [getK, k12]) k
theorem r_drL (k : R (.int l)) : gIx (DR cells a l u) (.str "left") R := r_ixD (kk := .inr "left") rfl (by simp [getK, k13, k23]) k
theorem r_drU (k : R (.int u)) : gIx (DR cells a l u) (.str "used") R := r_ixD (kk := .inr "used") rfl (by simp [getK, k14, k24, k34]) k
theorem r_sdA (h : env[i]? = some (some (DR cells a l u))) (h2 : rd env r = some (.str "at")) (k : nx (env.set i (some (DR cells z l u)))) : SixK (.pl i) r (.int z) env nx :=
  r_sixD (kk := .inr "at") (u := .int z) h h2 rfl rfl (by show 4 < sizeLine; decide) (ks' := dk) (by simp [putKs, hasK]) (ys := [.lst false (cells.map .int), .int z, .int l, .int u]) (by simp [putXs, hasK, putAll, k12, k23.symm, k24.symm]) k
theorem r_sdL (h : env[i]? = some (some (DR cells a l u))) (h2 : rd env r = some (.str "left")) (k : nx (env.set i (some (DR cells a z u)))) : SixK (.pl i) r (.int z) env nx :=
  r_sixD (kk := .inr "left") (u := .int z) h h2 rfl rfl (by show 4 < sizeLine; decide) (ks' := dk) (by simp [putKs, hasK]) (ys := [.lst false (cells.map .int), .int a, .int z, .int u]) (by simp [putXs, hasK, putAll, k13, k23, k34.symm]) k
theorem r_sdU (h : env[i]? = some (some (DR cells a l u))) (h2 : rd env r = some (.str "used")) (k : nx (env.set i (some (DR cells a l z)))) : SixK (.pl i) r (.int z) env nx :=
  r_sixD (kk := .inr "used") (u := .int z) h h2 rfl rfl (by show 4 < sizeLine; decide) (ks' := dk) (by simp [putKs, hasK]) (ys := [.lst false (cells.map .int), .int a, .int l, .int z]) (by simp [putXs, hasK, putAll, k14, k24, k34]) k
end
theorem dr_owned {cells : List Int} {a l u : Int} : (DR cells a l u).owned = true := rfl
theorem dr_disp (x y z w : Val) : dispL [] [] dk [x, y, z, w] = (dk, [x, y, z, w]) := by
  simp [dk, dispL, putKs, putXs, hasK, k12, k13, k14, k23, k24, k34]
/-- an item of a list of numbers -/
theorem at_map {ns : List Int} {z : Int} (h0 : 0 ≤ z) (h1 : z < ns.length) : ∃ c, c ∈ ns ∧ atI (ns.map Val.int) z = some (.int c) := by
  have hz : z.toNat < ns.length := by omega
  refine ⟨ns[z.toNat], List.getElem_mem hz, ?_⟩
  unfold atI ixN
  rw [if_pos h0, List.length_map, if_pos h1]
  simp [hz]
theorem at_mem {xs : List Val} {z : Int} (h0 : 0 ≤ z) (h1 : z < xs.length) : ∃ u, u ∈ xs ∧ atI xs z = some u := by
  have hz : z.toNat < xs.length := by omega
  refine ⟨xs[z.toNat], List.getElem_mem hz, ?_⟩
  unfold atI ixN
  rw [if_pos h0, if_pos h1]
  simp [hz]
theorem all_nil {α : Type} {P : α → Prop} : ∀ u ∈ ([] : List α), P u := fun _ h => by cases h
theorem all_cons {α : Type} {P : α → Prop} {a : α} {l : List α} (h : P a) (t : ∀ u ∈ l, P u) : ∀ u ∈ a :: l, P u := fun u hu => by
  rcases List.mem_cons.mp hu with e | hu
  · rw [e]; exact h
  · exact t u hu
/-- a number between two -/
def BI (lo hi : Int) (v : Val) : Prop := ∃ i, v = .int i ∧ lo ≤ i ∧ i ≤ hi
/-- an item of a list display -/
theorem r_pick {R : Val → Prop} {o : Bool} {xs : List Val} {z : Int} (P : Val → Prop) (ha : ∀ u ∈ xs, P u) (h0 : 0 ≤ z) (h1 : z < xs.length) (k : ∀ u, P u → R u) : gIx (.lst o xs) (.int z) R := by
  obtain ⟨u, hu, e⟩ := at_mem h0 h1
  exact r_ixL e (k u (ha u hu))
theorem cut_lo {xs : List Val} {z : Int} (h0 : 0 ≤ z) (h1 : z ≤ xs.length) : cutL xs none (some z) = xs.take z.toNat := by
  unfold cutL
  rw [show HT.sIx xs.length 0 none = 0 from rfl, show HT.sIx xs.length xs.length (some z) = z.toNat by
    show (if z < 0 then _ else min z.toNat xs.length) = _
    rw [if_neg (by omega)]
    omega]
  simp
theorem cut_hi {xs : List Val} {z : Int} (h0 : 0 ≤ z) (h1 : z ≤ xs.length) : cutL xs (some z) none = xs.drop z.toNat := by
  unfold cutL
  rw [show HT.sIx xs.length xs.length none = xs.length from rfl, show HT.sIx xs.length 0 (some z) = z.toNat by
    show (if z < 0 then _ else min z.toNat xs.length) = _
    rw [if_neg (by omega)]
    omega]
  rw [List.take_of_length_le (by simp)]
theorem cat_nil {ys : List Val} : ([] : List Val) ++ ys = ys := rfl
theorem cat_cons {x : Val} {xs ys zs : List Val} (h : xs ++ ys = zs) : (x :: xs) ++ ys = x :: zs := by
  rw [← h] <;> rfl
theorem r_addTk {R : Val → Prop} {xs ys zs : List Val} {n : Nat} (h1 : xs.length + ys.length = n) (h2 : Nat.ble n 1000 = true) (h3 : xs ++ ys = zs) (k : R (.tup zs)) : gAdd (.tup xs) (.tup ys) R := r_addT (by
  have z := Nat.le_of_ble_eq_true h2
  rw [sizeLine_eq]
  omega) (by rw [h3]; exact k)
theorem r_addLk {R : Val → Prop} {xs ys zs : List Val} {o o' : Bool} {n : Nat} (h1 : xs.length + ys.length = n) (h2 : Nat.ble n 1000 = true) (h3 : xs ++ ys = zs) (k : R (.lst true zs)) : gAdd (.lst o xs) (.lst o' ys) R := r_addL (by
  have z := Nat.le_of_ble_eq_true h2
  rw [sizeLine_eq]
  omega) (by rw [h3]; exact k)
/-- the drawing dict: as many draws at most -/
def Dr (n : Nat) (v : Val) : Prop := ∃ cells a l u, v = DR cells a l u ∧ cells ≠ [] ∧ 0 ≤ a ∧ a ≤ n ∧ 0 ≤ l ∧ 0 ≤ u ∧ u ≤ n
theorem Dr.mono {n m : Nat} {v : Val} (h : Dr n v) (e : n ≤ m) : Dr m v := by
  obtain ⟨cells, a, l, u, e1, e2, h1, h2, h3, h4, h5⟩ := h
  exact ⟨cells, a, l, u, e1, e2, h1, by omega, h3, h4, by omega⟩
theorem Dr.owned {n : Nat} {v : Val} (h : Dr n v) : v.owned = true := by
  obtain ⟨cells, a, l, u, e1, _⟩ := h
  rw [e1] <;> rfl
end Qv
set_option Elab.async false
set_option linter.all false
set_option maxRecDepth 100000
set_option maxHeartbeats 4000000
namespace Qv
open PySem PySem.Spec PyProof.Rows L2
/-! ### methods of texts -/
abbrev GS := Str → List Val → (Val → Prop) → Prop
def pMs (g : GS) (po : PEx) (pa : PAr) : PEx := fun W env Q => po W env fun r e1 => match r with
  | .val (.str x) => pa W e1 fun rs e2 => (match rds e2 rs with
    | some vs => g x vs fun u => Q (.val u) e2
    | none => False)
  | _ => False
section
variable {K : PySem.W.Frag} {W : WX} {pn : List Nat} {fl fl2 : Bool}
def SM (K : PySem.W.Frag) (r : V → List V → Hp → VK → Prop) (g : GS) : Prop := ∀ (Fz : Addr → Prop) (H : Hp) (x : Str) (vs : List Val) (Vs : List V) (Qp : Val → Prop) (Q' : VK), (∀ a, Fz a → H a ≠ none) → OwAs K Fz H vs Vs → g x vs Qp → Aft K Fz H Qp Q' → r (.str x) Vs H Q'
theorem sim_ms {r : V → List V → Hp → VK → Prop} {g : GS} {to : TE} {po : PEx} {t : TA} {pa : PAr} (ho : SimE K W pn fl to po) (ha : SimA K W pn fl2 t pa) (hs : SM K r g) : SimE K W pn (fl && fl2) (tBM K "str" r to t) (pMs g po pa) := by
  intro Wp env σ H Fz O fp pv Q Q' F P hp hx hq
  refine ho Wp env σ H Fz O fp pv _ _ F P hp hx fun r1 e1 V1 H1 Fz1 fp1 f1 s1 k1 F1 o1 t1 q1 => ?_
  split at q1
  · rename_i x
    have e1 : V1 = .str x := Ow.str ⟨f1, o1⟩
    subst e1
    refine ⟨rfl, ?_⟩
    refine ha Wp e1 σ H1 Fz1 (Oft O f1) fp1 pv _ _ (F1.ext t1) P q1 (hx.step s1 fun _ h => .inl h) fun rs e2 Vs H2 Fz2 fp2 f2 s2 k2 F2 r2 t2 q2 => ?_
    split at q2
    · rename_i vs hv
      have F2' := F2.weak (O := O) fun _ h => .inl h
      refine hs Fz2 H2 x vs Vs _ Q' F2.tr (RRs.peek F2 r2 hv) q2 (F2'.aft true fun r V H' Fz' fp' ft s' k' F' o t' q' => ?_)
      refine hq r e2 V H' Fz' fp' ft ((s1.trans s2 fun _ h => .inl h).trans s' fun _ h => h) (fun e => ?_) F' o t' q'
      obtain ⟨z1, z2⟩ := Bool.and_eq_true_iff.mp e
      exact ((k1 z1).trans (k2 z2) s2).trans (k' rfl) s'
    · exact q2.elim
  · exact q1.elim
theorem sim_ms0 {r : V → List V → Hp → VK → Prop} {g : GS} {to : TE} {po : PEx} (ho : SimE K W pn fl to po) (hs : SM K r g) : SimE K W pn (fl && true) (tBM0 K "str" r to) (pMs g po aNil) := by
  intro Wp env σ H Fz O fp pv Q Q' F P hp hx hq
  exact sim_ms ho sim_anil hs Wp env σ H Fz O fp pv Q Q' F P hp hx hq
end
section
variable {K : PySem.W.Frag} {Fz : Addr → Prop} {H : Hp}
def strsOf : List Val → Option (List Str)
  | [] => some []
  | .str i :: xs => (strsOf xs).map (i :: ·)
  | _ => none
theorem strs_of : ∀ {xs : List Val} {ns : List Str} {vs : List V}, strsOf xs = some ns → FznL K Fz H xs vs → vs = ns.map V.str
  | [], ns, vs, e, l => by cases e; exact l
  | .str i :: xs, ns, _, e, l => by
    obtain ⟨v, r, e1, h1, h2⟩ := l
    subst e1
    unfold strsOf at e
    cases z : strsOf xs with
    | none => rw [z] at e; cases e
    | some ms =>
      rw [z] at e
      cases e
      cases (show v = .str i from h1)
      rw [strs_of z h2] <;> rfl
  | .non :: _, _, _, e, _ => by cases e
  | .bl _ :: _, _, _, e, _ => by cases e
  | .int _ :: _, _, _, e, _ => by cases e
  | .ty _ :: _, _, _, e, _ => by cases e
  | .atm _ :: _, _, _, e, _ => by cases e
  | .tup _ :: _, _, _, e, _ => by cases e
  | .lst _ _ :: _, _, _, e, _ => by cases e
  | .dic _ _ _ :: _, _, _, e, _ => by cases e
  | .obj _ _ _ _ :: _, _, _, e, _ => by cases e
  | .exc _ _ _ :: _, _, _, e, _ => by cases e
  | .glo _ :: _, _, _, e, _ => by cases e
theorem fzn_strs (ms : List Str) : FznL K Fz H (ms.map .str) (ms.map V.str) := by
  induction ms with
  | nil => rfl
  | cons m r ih => exact ⟨.str m, _, rfl, rfl, ih⟩
theorem OwAs.zero {vs : List Val} {Vs : List V} (o : OwAs K Fz H vs Vs) (e : vs = []) : Vs = [] := by
  subst e
  cases o
  rfl
def m_lower : GS := fun x vs Q => vs = [] ∧ x.length ≤ 5592405 ∧ Q (.str (Txt.lower x))
theorem s_lower : SM K (fun x xs H Q => ∃ a, x = .str a ∧ xs = [] ∧ a.length ≤ 5592405 ∧ Q (.str (Txt.lower a)) H) m_lower := fun Fz H x vs Vs Qp Q' F o q a => ⟨x, rfl, o.zero q.1, q.2.1, aft_str a q.2.2⟩
def m_upper : GS := fun x vs Q => vs = [] ∧ x.length ≤ 5592405 ∧ Q (.str (Txt.upper x))
theorem s_upper : SM K (fun x xs H Q => ∃ a, x = .str a ∧ xs = [] ∧ a.length ≤ 5592405 ∧ Q (.str (Txt.upper a)) H) m_upper := fun Fz H x vs Vs Qp Q' F o q a => ⟨x, rfl, o.zero q.1, q.2.1, aft_str a q.2.2⟩
def m_strip : GS := fun x vs Q => vs = [] ∧ x.length ≤ sizeLine ∧ Q (.str (Txt.strip x))
theorem s_strip : SM K (fun x xs H Q => ∃ a, x = .str a ∧ xs = [] ∧ a.length ≤ sizeLine ∧ Q (.str (Txt.strip a)) H) m_strip := fun Fz H x vs Vs Qp Q' F o q a => ⟨x, rfl, o.zero q.1, q.2.1, aft_str a q.2.2⟩
def m_lstrip : GS := fun x vs Q => vs = [] ∧ x.length ≤ sizeLine ∧ Q (.str (Txt.lstrip x))
theorem s_lstrip : SM K (fun x xs H Q => ∃ a, x = .str a ∧ xs = [] ∧ a.length ≤ sizeLine ∧ Q (.str (Txt.lstrip a)) H) m_lstrip := fun Fz H x vs Vs Qp Q' F o q a => ⟨x, rfl, o.zero q.1, q.2.1, aft_str a q.2.2⟩
def m_rstrip : GS := fun x vs Q => vs = [] ∧ x.length ≤ sizeLine ∧ Q (.str (Txt.rstrip x))
theorem s_rstrip : SM K (fun x xs H Q => ∃ a, x = .str a ∧ xs = [] ∧ a.length ≤ sizeLine ∧ Q (.str (Txt.rstrip a)) H) m_rstrip := fun Fz H x vs Vs Qp Q' F o q a => ⟨x, rfl, o.zero q.1, q.2.1, aft_str a q.2.2⟩
def m_isdigit : GS := fun x vs Q => vs = [] ∧ True ∧ Q (.bl (Txt.isdigit x))
theorem s_isdigit : SM K (fun x xs H Q => ∃ a, x = .str a ∧ xs = [] ∧ True ∧ Q (.bl (Txt.isdigit a)) H) m_isdigit := fun Fz H x vs Vs Qp Q' F o q a => ⟨x, rfl, o.zero q.1, q.2.1, aft_bl a q.2.2⟩
def m_isalpha : GS := fun x vs Q => vs = [] ∧ True ∧ Q (.bl (Txt.isalpha x))
theorem s_isalpha : SM K (fun x xs H Q => ∃ a, x = .str a ∧ xs = [] ∧ True ∧ Q (.bl (Txt.isalpha a)) H) m_isalpha := fun Fz H x vs Vs Qp Q' F o q a => ⟨x, rfl, o.zero q.1, q.2.1, aft_bl a q.2.2⟩
def m_isalnum : GS := fun x vs Q => vs = [] ∧ True ∧ Q (.bl (Txt.isalnum x))
theorem s_isalnum : SM K (fun x xs H Q => ∃ a, x = .str a ∧ xs = [] ∧ True ∧ Q (.bl (Txt.isalnum a)) H) m_isalnum := fun Fz H x vs Vs Qp Q' F o q a => ⟨x, rfl, o.zero q.1, q.2.1, aft_bl a q.2.2⟩
def m_isspace : GS := fun x vs Q => vs = [] ∧ True ∧ Q (.bl (Txt.isspace x))
theorem s_isspace : SM K (fun x xs H Q => ∃ a, x = .str a ∧ xs = [] ∧ True ∧ Q (.bl (Txt.isspace a)) H) m_isspace := fun Fz H x vs Vs Qp Q' F o q a => ⟨x, rfl, o.zero q.1, q.2.1, aft_bl a q.2.2⟩
def m_isupper : GS := fun x vs Q => vs = [] ∧ True ∧ Q (.bl (Txt.isupper x))
theorem s_isupper : SM K (fun x xs H Q => ∃ a, x = .str a ∧ xs = [] ∧ True ∧ Q (.bl (Txt.isupper a)) H) m_isupper := fun Fz H x vs Vs Qp Q' F o q a => ⟨x, rfl, o.zero q.1, q.2.1, aft_bl a q.2.2⟩
def m_islower : GS := fun x vs Q => vs = [] ∧ True ∧ Q (.bl (Txt.islower x))
theorem s_islower : SM K (fun x xs H Q => ∃ a, x = .str a ∧ xs = [] ∧ True ∧ Q (.bl (Txt.islower a)) H) m_islower := fun Fz H x vs Vs Qp Q' F o q a => ⟨x, rfl, o.zero q.1, q.2.1, aft_bl a q.2.2⟩
def m_isascii : GS := fun x vs Q => vs = [] ∧ True ∧ Q (.bl (Txt.isascii x))
theorem s_isascii : SM K (fun x xs H Q => ∃ a, x = .str a ∧ xs = [] ∧ True ∧ Q (.bl (Txt.isascii a)) H) m_isascii := fun Fz H x vs Vs Qp Q' F o q a => ⟨x, rfl, o.zero q.1, q.2.1, aft_bl a q.2.2⟩
def m_isdecimal : GS := fun x vs Q => vs = [] ∧ True ∧ Q (.bl (Txt.isdecimal x))
theorem s_isdecimal : SM K (fun x xs H Q => ∃ a, x = .str a ∧ xs = [] ∧ True ∧ Q (.bl (Txt.isdecimal a)) H) m_isdecimal := fun Fz H x vs Vs Qp Q' F o q a => ⟨x, rfl, o.zero q.1, q.2.1, aft_bl a q.2.2⟩
def m_startswith : GS := fun x vs Q => match vs with
  | [.str y] => Q (.bl (Txt.startswith x y))
  | _ => False
theorem s_startswith : SM K (fun x xs H Q => ∃ a b, x = .str a ∧ xs = [.str b] ∧ Q (.bl (Txt.startswith a b)) H) m_startswith := by
  intro Fz H x vs Vs Qp Q' F o q a
  unfold m_startswith at q
  split at q
  · obtain ⟨V, e, o⟩ := o.one rfl
    cases Ow.str o
    exact ⟨x, _, rfl, e, aft_bl a q⟩
  · exact q.elim
def m_endswith : GS := fun x vs Q => match vs with
  | [.str y] => Q (.bl (Txt.endswith x y))
  | _ => False
theorem s_endswith : SM K (fun x xs H Q => ∃ a b, x = .str a ∧ xs = [.str b] ∧ Q (.bl (Txt.endswith a b)) H) m_endswith := by
  intro Fz H x vs Vs Qp Q' F o q a
  unfold m_endswith at q
  split at q
  · obtain ⟨V, e, o⟩ := o.one rfl
    cases Ow.str o
    exact ⟨x, _, rfl, e, aft_bl a q⟩
  · exact q.elim
def m_find : GS := fun x vs Q => match vs with
  | [.str y] => Q (.int (Txt.find x y))
  | _ => False
theorem s_find : SM K (fun x xs H Q => ∃ a b, x = .str a ∧ xs = [.str b] ∧ Q (.int (Txt.find a b)) H) m_find := by
  intro Fz H x vs Vs Qp Q' F o q a
  unfold m_find at q
  split at q
  · obtain ⟨V, e, o⟩ := o.one rfl
    cases Ow.str o
    exact ⟨x, _, rfl, e, aft_int a q⟩
  · exact q.elim
def m_count : GS := fun x vs Q => match vs with
  | [.str y] => Q (.int (Txt.count x y))
  | _ => False
theorem s_count : SM K (fun x xs H Q => ∃ a b, x = .str a ∧ xs = [.str b] ∧ Q (.int (Txt.count a b)) H) m_count := by
  intro Fz H x vs Vs Qp Q' F o q a
  unfold m_count at q
  split at q
  · obtain ⟨V, e, o⟩ := o.one rfl
    cases Ow.str o
    exact ⟨x, _, rfl, e, aft_int a q⟩
  · exact q.elim
def m_rfind : GS := fun x vs Q => match vs with
  | [.str y] => Q (.int (Txt.rfind x y))
  | _ => False
theorem s_rfind : SM K (fun x xs H Q => ∃ a b, x = .str a ∧ xs = [.str b] ∧ Q (.int (Txt.rfind a b)) H) m_rfind := by
  intro Fz H x vs Vs Qp Q' F o q a
  unfold m_rfind at q
  split at q
  · obtain ⟨V, e, o⟩ := o.one rfl
    cases Ow.str o
    exact ⟨x, _, rfl, e, aft_int a q⟩
  · exact q.elim
def m_stripc : GS := fun x vs Q => match vs with
  | [.str y] => x.length ≤ sizeLine ∧ Q (.str (Txt.stripChars x y))
  | _ => False
theorem s_stripc : SM K (fun x xs H Q => ∃ a b, x = .str a ∧ xs = [.str b] ∧ a.length ≤ sizeLine ∧ Q (.str (Txt.stripChars a b)) H) m_stripc := by
  intro Fz H x vs Vs Qp Q' F o q a
  unfold m_stripc at q
  split at q
  · obtain ⟨V, e, o⟩ := o.one rfl
    cases Ow.str o
    exact ⟨x, _, rfl, e, q.1, aft_str a q.2⟩
  · exact q.elim
def m_lstripc : GS := fun x vs Q => match vs with
  | [.str y] => x.length ≤ sizeLine ∧ Q (.str (Txt.lstripChars x y))
  | _ => False
theorem s_lstripc : SM K (fun x xs H Q => ∃ a b, x = .str a ∧ xs = [.str b] ∧ a.length ≤ sizeLine ∧ Q (.str (Txt.lstripChars a b)) H) m_lstripc := by
  intro Fz H x vs Vs Qp Q' F o q a
  unfold m_lstripc at q
  split at q
  · obtain ⟨V, e, o⟩ := o.one rfl
    cases Ow.str o
    exact ⟨x, _, rfl, e, q.1, aft_str a q.2⟩
  · exact q.elim
def m_rstripc : GS := fun x vs Q => match vs with
  | [.str y] => x.length ≤ sizeLine ∧ Q (.str (Txt.rstripChars x y))
  | _ => False
theorem s_rstripc : SM K (fun x xs H Q => ∃ a b, x = .str a ∧ xs = [.str b] ∧ a.length ≤ sizeLine ∧ Q (.str (Txt.rstripChars a b)) H) m_rstripc := by
  intro Fz H x vs Vs Qp Q' F o q a
  unfold m_rstripc at q
  split at q
  · obtain ⟨V, e, o⟩ := o.one rfl
    cases Ow.str o
    exact ⟨x, _, rfl, e, q.1, aft_str a q.2⟩
  · exact q.elim
def m_removeprefix : GS := fun x vs Q => match vs with
  | [.str y] => x.length ≤ sizeLine ∧ Q (.str (Txt.removeprefix x y))
  | _ => False
theorem s_removeprefix : SM K (fun x xs H Q => ∃ a b, x = .str a ∧ xs = [.str b] ∧ a.length ≤ sizeLine ∧ Q (.str (Txt.removeprefix a b)) H) m_removeprefix := by
  intro Fz H x vs Vs Qp Q' F o q a
  unfold m_removeprefix at q
  split at q
  · obtain ⟨V, e, o⟩ := o.one rfl
    cases Ow.str o
    exact ⟨x, _, rfl, e, q.1, aft_str a q.2⟩
  · exact q.elim
def m_removesuffix : GS := fun x vs Q => match vs with
  | [.str y] => x.length ≤ sizeLine ∧ Q (.str (Txt.removesuffix x y))
  | _ => False
theorem s_removesuffix : SM K (fun x xs H Q => ∃ a b, x = .str a ∧ xs = [.str b] ∧ a.length ≤ sizeLine ∧ Q (.str (Txt.removesuffix a b)) H) m_removesuffix := by
  intro Fz H x vs Vs Qp Q' F o q a
  unfold m_removesuffix at q
  split at q
  · obtain ⟨V, e, o⟩ := o.one rfl
    cases Ow.str o
    exact ⟨x, _, rfl, e, q.1, aft_str a q.2⟩
  · exact q.elim
def m_split : GS := fun x vs Q => match vs with
  | [.str y] => (y.length == 0) = false ∧ x.length + 2 ≤ sizeLine ∧ Q (.lst true ((Txt.split x y).map .str))
  | _ => False
theorem s_split : SM K (fun x xs H Q => ∃ a b, x = .str a ∧ xs = [.str b] ∧ (b.length == 0) = false ∧ a.length + 2 ≤ sizeLine ∧ rNewStrs (Txt.split a b) H Q) m_split := by
  intro Fz H x vs Vs Qp Q' F o q a
  unfold m_split at q
  split at q
  · obtain ⟨V, e, o⟩ := o.one rfl
    cases Ow.str o
    exact ⟨x, _, rfl, e, q.1, q.2.1, fun p hp => aft_lst F a (fzn_strs _) hp q.2.2⟩
  · exact q.elim
def m_words : GS := fun x vs Q => vs = [] ∧ x.length + 2 ≤ sizeLine ∧ Q (.lst true ((Txt.words x).map .str))
theorem s_words : SM K (fun x xs H Q => ∃ a, x = .str a ∧ xs = [] ∧ a.length + 2 ≤ sizeLine ∧ rNewStrs (Txt.words a) H Q) m_words := fun Fz H x vs Vs Qp Q' F o q a => ⟨x, rfl, o.zero q.1, q.2.1, fun p hp => aft_lst F a (fzn_strs _) hp q.2.2⟩
def m_partition : GS := fun x vs Q => match vs with
  | [.str y] => (y.length == 0) = false ∧ x.length ≤ sizeLine ∧ Q (.tup [.str (Txt.partition x y).1, .str (Txt.partition x y).2.1, .str (Txt.partition x y).2.2])
  | _ => False
theorem s_partition : SM K (fun x xs H Q => ∃ a b, x = .str a ∧ xs = [.str b] ∧ (b.length == 0) = false ∧ a.length ≤ sizeLine ∧
    ∀ p, H p = none → Q (.ref p) (upd H p (.tup [.str (Txt.partition a b).1, .str (Txt.partition a b).2.1, .str (Txt.partition a b).2.2]))) m_partition := by
  intro Fz H x vs Vs Qp Q' F o q a
  unfold m_partition at q
  split at q
  · obtain ⟨V, e, o⟩ := o.one rfl
    cases Ow.str o
    exact ⟨x, _, rfl, e, q.1, q.2.1, fun p hp => aft_tup (xs := [.str (Txt.partition x _).1, .str (Txt.partition x _).2.1, .str (Txt.partition x _).2.2]) F a ⟨_, _, rfl, rfl, _, _, rfl, rfl, _, _, rfl, rfl, rfl⟩ hp q.2.2⟩
  · exact q.elim
def m_join : GS := fun x vs Q => match vs with
  | [.lst _ xs] => ∃ ys, strsOf xs = some ys ∧ (ys.map (·.length)).sum + ys.length * x.length ≤ 16777216 ∧ Q (.str (Txt.join x ys))
  | [.tup xs] => ∃ ys, strsOf xs = some ys ∧ (ys.map (·.length)).sum + ys.length * x.length ≤ 16777216 ∧ Q (.str (Txt.join x ys))
  | _ => False
theorem s_join : SM K (fun x xs H Q => ∃ a p, ∃ ys : List Str, x = .str a ∧ xs = [.ref p] ∧ (SqL K H p (ys.map V.str) ∨ SqT K H p (ys.map V.str)) ∧
    (ys.map (·.length)).sum + ys.length * a.length ≤ 16777216 ∧ Q (.str (Txt.join a ys)) H) m_join := by
  intro Fz H x vs Vs Qp Q' F o q a
  unfold m_join at q
  split at q
  · obtain ⟨V, e, o⟩ := o.one rfl
    obtain ⟨ys, h1, h2, h3⟩ := q
    obtain ⟨l, ws, e1, h, z⟩ := o.lst
    subst e1
    have e2 := strs_of h1 z
    subst e2
    exact ⟨x, l, ys, rfl, e, .inl h, h2, aft_str a h3⟩
  · obtain ⟨V, e, o⟩ := o.one rfl
    obtain ⟨ys, h1, h2, h3⟩ := q
    obtain ⟨l, ws, e1, h, z⟩ := o.tup
    subst e1
    have e2 := strs_of h1 z
    subst e2
    exact ⟨x, l, ys, rfl, e, .inr h.sq, h2, aft_str a h3⟩
  · exact q.elim
end
end Qv
set_option Elab.async false
set_option linter.all false
set_option maxRecDepth 100000
set_option maxHeartbeats 4000000
namespace Qv
open PySem PySem.Spec PyProof.Rows L2
section
variable {ι : Type} {X : ι → Cx} {P : Program} {w : World} {K : PySem.W.Frag} {mg : Str → Option Value} {base : Heap} {N : List Str} {W : WX} {pn ts us : List Nat} {k : Nat}
variable {x y z : Expr} {px py pz : PEx} {e f : Expr} {es : List Expr} {pos pos' p apos cpos : Pos} {pt pu : PTe} {pa : PAr} {st : Stmt} {sts : List Stmt}
/-- a statement that is not met -/
theorem s_never : QS X K W pn st pNever := ⟨_, fun _ => ps_never, sim_never⟩
theorem q_ms {id : String} {name : Str} {r : PySem.W.Frag → V → List V → Hp → VK → Prop} {g : GS} (c : Ct X P w K mg base N W k) (hm : ∀ X : Cx, Cm X → MtR X id (r X.K)) (hs : ∀ K, SM K (r K) g) (slot : Slot "str" name id) (hty : typeOf (.builtin id) = pure (.type "method_descriptor"))
    (a : QE X K W pn x px) (b : QA X K W pn (e :: es) pa)
    (hbase : ∀ i, attributeBase x name (X i).env (eval x (X i).env) = eval x (X i).env := by exact fun _ => rfl)
    (hfew : ∀ i, ((backTo cpos (starEach (e :: es) (X i).env)).all (fun x => !x.1) && (backToKw cpos (keywordEach [] (X i).env)).all (fun x => x.1.isSome)
      && decide ((e :: es).length + ([] : List Keyword).length + (if ([] : List Keyword).isEmpty then 0 else 1) < 30)) = true := by exact fun _ => rfl)
    (hline : (apos.endLine == cpos.line) = true := by rfl) (hst : ∀ i, starEach (e :: es) (X i).env = (false, eval e (X i).env) :: starEach es (X i).env := by exact fun _ => rfl) (hpl : ∀ i, (backTo cpos (starEach es (X i).env)).any (·.1) = false := by exact fun _ => rfl) :
    QE X K W pn (.Call (.Attribute x name apos) (e :: es) [] cpos) (pMs g px pa) := by
  obtain ⟨t, fl, a, a2⟩ := a
  obtain ⟨u, fl2, b, b2⟩ := b
  refine ⟨_, _, fun i => ?_, sim_ms a2 b2 (hs K)⟩
  have z := pe_bm F.plainAttrs_str slot hty (hm (X i) (c.cm i)) (a i) (b i) (hbase i) (hfew i) hline (hst i) (hpl i)
  rw [c.hK i] at z
  exact z
theorem q_ms0 {id : String} {name : Str} {r : PySem.W.Frag → V → List V → Hp → VK → Prop} {g : GS} (c : Ct X P w K mg base N W k) (hm : ∀ X : Cx, Cm X → MtR X id (r X.K)) (hs : ∀ K, SM K (r K) g) (slot : Slot "str" name id) (hty : typeOf (.builtin id) = pure (.type "method_descriptor"))
    (a : QE X K W pn x px)
    (hbase : ∀ i, attributeBase x name (X i).env (eval x (X i).env) = eval x (X i).env := by exact fun _ => rfl)
    (hline : (apos.endLine == cpos.line) = true := by rfl) :
    QE X K W pn (.Call (.Attribute x name apos) [] [] cpos) (pMs g px aNil) := by
  obtain ⟨t, fl, a, a2⟩ := a
  refine ⟨_, _, fun i => ?_, sim_ms0 a2 (hs K)⟩
  have z := pe_bm0 F.plainAttrs_str slot hty (hm (X i) (c.cm i)) (a i) (hbase i) hline
  rw [c.hK i] at z
  exact z
theorem qm_lower (c : Ct X P w K mg base N W k) (a : QE X K W pn x px)
    (hbase : ∀ i, attributeBase x "lower" (X i).env (eval x (X i).env) = eval x (X i).env := by exact fun _ => rfl) (hline : (apos.endLine == cpos.line) = true := by rfl) :
    QE X K W pn (.Call (.Attribute x "lower" apos) [] [] cpos) (pMs m_lower px aNil) := q_ms0 (r := fun K => fun x xs H Q => ∃ a, x = .str a ∧ xs = [] ∧ a.length ≤ 5592405 ∧ Q (.str (Txt.lower a)) H) c (fun X h => mt_lower) (fun K => s_lower) F.slot_str_lower F.type_str_lower a hbase hline
theorem qm_upper (c : Ct X P w K mg base N W k) (a : QE X K W pn x px)
    (hbase : ∀ i, attributeBase x "upper" (X i).env (eval x (X i).env) = eval x (X i).env := by exact fun _ => rfl) (hline : (apos.endLine == cpos.line) = true := by rfl) :
    QE X K W pn (.Call (.Attribute x "upper" apos) [] [] cpos) (pMs m_upper px aNil) := q_ms0 (r := fun K => fun x xs H Q => ∃ a, x = .str a ∧ xs = [] ∧ a.length ≤ 5592405 ∧ Q (.str (Txt.upper a)) H) c (fun X h => mt_upper) (fun K => s_upper) F.slot_str_upper F.type_str_upper a hbase hline
theorem qm_strip (c : Ct X P w K mg base N W k) (a : QE X K W pn x px)
    (hbase : ∀ i, attributeBase x "strip" (X i).env (eval x (X i).env) = eval x (X i).env := by exact fun _ => rfl) (hline : (apos.endLine == cpos.line) = true := by rfl) :
    QE X K W pn (.Call (.Attribute x "strip" apos) [] [] cpos) (pMs m_strip px aNil) := q_ms0 (r := fun K => fun x xs H Q => ∃ a, x = .str a ∧ xs = [] ∧ a.length ≤ sizeLine ∧ Q (.str (Txt.strip a)) H) c (fun X h => mt_strip) (fun K => s_strip) F.slot_str_strip F.type_str_strip a hbase hline
theorem qm_lstrip (c : Ct X P w K mg base N W k) (a : QE X K W pn x px)
    (hbase : ∀ i, attributeBase x "lstrip" (X i).env (eval x (X i).env) = eval x (X i).env := by exact fun _ => rfl) (hline : (apos.endLine == cpos.line) = true := by rfl) :
    QE X K W pn (.Call (.Attribute x "lstrip" apos) [] [] cpos) (pMs m_lstrip px aNil) := q_ms0 (r := fun K => fun x xs H Q => ∃ a, x = .str a ∧ xs = [] ∧ a.length ≤ sizeLine ∧ Q (.str (Txt.lstrip a)) H) c (fun X h => mt_lstrip) (fun K => s_lstrip) F.slot_str_lstrip F.type_str_lstrip a hbase hline
theorem qm_rstrip (c : Ct X P w K mg base N W k) (a : QE X K W pn x px)
    (hbase : ∀ i, attributeBase x "rstrip" (X i).env (eval x (X i).env) = eval x (X i).env := by exact fun _ => rfl) (hline : (apos.endLine == cpos.line) = true := by rfl) :
    QE X K W pn (.Call (.Attribute x "rstrip" apos) [] [] cpos) (pMs m_rstrip px aNil) := q_ms0 (r := fun K => fun x xs H Q => ∃ a, x = .str a ∧ xs = [] ∧ a.length ≤ sizeLine ∧ Q (.str (Txt.rstrip a)) H) c (fun X h => mt_rstrip) (fun K => s_rstrip) F.slot_str_rstrip F.type_str_rstrip a hbase hline
theorem qm_isdigit (c : Ct X P w K mg base N W k) (a : QE X K W pn x px)
    (hbase : ∀ i, attributeBase x "isdigit" (X i).env (eval x (X i).env) = eval x (X i).env := by exact fun _ => rfl) (hline : (apos.endLine == cpos.line) = true := by rfl) :
    QE X K W pn (.Call (.Attribute x "isdigit" apos) [] [] cpos) (pMs m_isdigit px aNil) := q_ms0 (r := fun K => fun x xs H Q => ∃ a, x = .str a ∧ xs = [] ∧ True ∧ Q (.bl (Txt.isdigit a)) H) c (fun X h => mt_isdigit) (fun K => s_isdigit) F.slot_str_isdigit F.type_str_isdigit a hbase hline
theorem qm_isalpha (c : Ct X P w K mg base N W k) (a : QE X K W pn x px)
    (hbase : ∀ i, attributeBase x "isalpha" (X i).env (eval x (X i).env) = eval x (X i).env := by exact fun _ => rfl) (hline : (apos.endLine == cpos.line) = true := by rfl) :
    QE X K W pn (.Call (.Attribute x "isalpha" apos) [] [] cpos) (pMs m_isalpha px aNil) := q_ms0 (r := fun K => fun x xs H Q => ∃ a, x = .str a ∧ xs = [] ∧ True ∧ Q (.bl (Txt.isalpha a)) H) c (fun X h => mt_isalpha) (fun K => s_isalpha) F.slot_str_isalpha F.type_str_isalpha a hbase hline
theorem qm_isalnum (c : Ct X P w K mg base N W k) (a : QE X K W pn x px)
    (hbase : ∀ i, attributeBase x "isalnum" (X i).env (eval x (X i).env) = eval x (X i).env := by exact fun _ => rfl) (hline : (apos.endLine == cpos.line) = true := by rfl) :
    QE X K W pn (.Call (.Attribute x "isalnum" apos) [] [] cpos) (pMs m_isalnum px aNil) := q_ms0 (r := fun K => fun x xs H Q => ∃ a, x = .str a ∧ xs = [] ∧ True ∧ Q (.bl (Txt.isalnum a)) H) c (fun X h => mt_isalnum) (fun K => s_isalnum) F.slot_str_isalnum F.type_str_isalnum a hbase hline
theorem qm_isspace (c : Ct X P w K mg base N W k) (a : QE X K W pn x px)
    (hbase : ∀ i, attributeBase x "isspace" (X i).env (eval x (X i).env) = eval x (X i).env := by exact fun _ => rfl) (hline : (apos.endLine == cpos.line) = true := by rfl) :
    QE X K W pn (.Call (.Attribute x "isspace" apos) [] [] cpos) (pMs m_isspace px aNil) := q_ms0 (r := fun K => fun x xs H Q => ∃ a, x = .str a ∧ xs = [] ∧ True ∧ Q (.bl (Txt.isspace a)) H) c (fun X h => mt_isspace) (fun K => s_isspace) F.slot_str_isspace F.type_str_isspace a hbase hline
theorem qm_isupper (c : Ct X P w K mg base N W k) (a : QE X K W pn x px)
    (hbase : ∀ i, attributeBase x "isupper" (X i).env (eval x (X i).env) = eval x (X i).env := by exact fun _ => rfl) (hline : (apos.endLine == cpos.line) = true := by rfl) :
    QE X K W pn (.Call (.Attribute x "isupper" apos) [] [] cpos) (pMs m_isupper px aNil) := q_ms0 (r := fun K => fun x xs H Q => ∃ a, x = .str a ∧ xs = [] ∧ True ∧ Q (.bl (Txt.isupper a)) H) c (fun X h => mt_isupper) (fun K => s_isupper) F.slot_str_isupper F.type_str_isupper a hbase hline
theorem qm_islower (c : Ct X P w K mg base N W k) (a : QE X K W pn x px)
    (hbase : ∀ i, attributeBase x "islower" (X i).env (eval x (X i).env) = eval x (X i).env := by exact fun _ => rfl) (hline : (apos.endLine == cpos.line) = true := by rfl) :
    QE X K W pn (.Call (.Attribute x "islower" apos) [] [] cpos) (pMs m_islower px aNil) := q_ms0 (r := fun K => fun x xs H Q => ∃ a, x = .str a ∧ xs = [] ∧ True ∧ Q (.bl (Txt.islower a)) H) c (fun X h => mt_islower) (fun K => s_islower) F.slot_str_islower F.type_str_islower a hbase hline
theorem qm_isascii (c : Ct X P w K mg base N W k) (a : QE X K W pn x px)
    (hbase : ∀ i, attributeBase x "isascii" (X i).env (eval x (X i).env) = eval x (X i).env := by exact fun _ => rfl) (hline : (apos.endLine == cpos.line) = true := by rfl) :
    QE X K W pn (.Call (.Attribute x "isascii" apos) [] [] cpos) (pMs m_isascii px aNil) := q_ms0 (r := fun K => fun x xs H Q => ∃ a, x = .str a ∧ xs = [] ∧ True ∧ Q (.bl (Txt.isascii a)) H) c (fun X h => mt_isascii) (fun K => s_isascii) F.slot_str_isascii F.type_str_isascii a hbase hline
theorem qm_isdecimal (c : Ct X P w K mg base N W k) (a : QE X K W pn x px)
    (hbase : ∀ i, attributeBase x "isdecimal" (X i).env (eval x (X i).env) = eval x (X i).env := by exact fun _ => rfl) (hline : (apos.endLine == cpos.line) = true := by rfl) :
    QE X K W pn (.Call (.Attribute x "isdecimal" apos) [] [] cpos) (pMs m_isdecimal px aNil) := q_ms0 (r := fun K => fun x xs H Q => ∃ a, x = .str a ∧ xs = [] ∧ True ∧ Q (.bl (Txt.isdecimal a)) H) c (fun X h => mt_isdecimal) (fun K => s_isdecimal) F.slot_str_isdecimal F.type_str_isdecimal a hbase hline
theorem qm_words (c : Ct X P w K mg base N W k) (a : QE X K W pn x px)
    (hbase : ∀ i, attributeBase x "split" (X i).env (eval x (X i).env) = eval x (X i).env := by exact fun _ => rfl) (hline : (apos.endLine == cpos.line) = true := by rfl) :
    QE X K W pn (.Call (.Attribute x "split" apos) [] [] cpos) (pMs m_words px aNil) := q_ms0 (r := fun K => fun x xs H Q => ∃ a, x = .str a ∧ xs = [] ∧ a.length + 2 ≤ sizeLine ∧ rNewStrs (Txt.words a) H Q) c (fun X h => mt_words) (fun K => s_words) F.slot_str_split F.type_str_split a hbase hline
theorem qm_startswith (c : Ct X P w K mg base N W k) (a : QE X K W pn x px) (b : QA X K W pn (e :: es) pa)
    (hbase : ∀ i, attributeBase x "startswith" (X i).env (eval x (X i).env) = eval x (X i).env := by exact fun _ => rfl)
    (hfew : ∀ i, ((backTo cpos (starEach (e :: es) (X i).env)).all (fun x => !x.1) && (backToKw cpos (keywordEach [] (X i).env)).all (fun x => x.1.isSome)
      && decide ((e :: es).length + ([] : List Keyword).length + (if ([] : List Keyword).isEmpty then 0 else 1) < 30)) = true := by exact fun _ => rfl)
    (hline : (apos.endLine == cpos.line) = true := by rfl) (hst : ∀ i, starEach (e :: es) (X i).env = (false, eval e (X i).env) :: starEach es (X i).env := by exact fun _ => rfl) (hpl : ∀ i, (backTo cpos (starEach es (X i).env)).any (·.1) = false := by exact fun _ => rfl) :
    QE X K W pn (.Call (.Attribute x "startswith" apos) (e :: es) [] cpos) (pMs m_startswith px pa) := q_ms (r := fun K => fun x xs H Q => ∃ a b, x = .str a ∧ xs = [.str b] ∧ Q (.bl (Txt.startswith a b)) H) c (fun X h => mt_startswith) (fun K => s_startswith) F.slot_str_startswith F.type_str_startswith a b hbase hfew hline hst hpl
theorem qm_endswith (c : Ct X P w K mg base N W k) (a : QE X K W pn x px) (b : QA X K W pn (e :: es) pa)
    (hbase : ∀ i, attributeBase x "endswith" (X i).env (eval x (X i).env) = eval x (X i).env := by exact fun _ => rfl)
    (hfew : ∀ i, ((backTo cpos (starEach (e :: es) (X i).env)).all (fun x => !x.1) && (backToKw cpos (keywordEach [] (X i).env)).all (fun x => x.1.isSome)
      && decide ((e :: es).length + ([] : List Keyword).length + (if ([] : List Keyword).isEmpty then 0 else 1) < 30)) = true := by exact fun _ => rfl)
    (hline : (apos.endLine == cpos.line) = true := by rfl) (hst : ∀ i, starEach (e :: es) (X i).env = (false, eval e (X i).env) :: starEach es (X i).env := by exact fun _ => rfl) (hpl : ∀ i, (backTo cpos (starEach es (X i).env)).any (·.1) = false := by exact fun _ => rfl) :
    QE X K W pn (.Call (.Attribute x "endswith" apos) (e :: es) [] cpos) (pMs m_endswith px pa) := q_ms (r := fun K => fun x xs H Q => ∃ a b, x = .str a ∧ xs = [.str b] ∧ Q (.bl (Txt.endswith a b)) H) c (fun X h => mt_endswith) (fun K => s_endswith) F.slot_str_endswith F.type_str_endswith a b hbase hfew hline hst hpl
theorem qm_find (c : Ct X P w K mg base N W k) (a : QE X K W pn x px) (b : QA X K W pn (e :: es) pa)
    (hbase : ∀ i, attributeBase x "find" (X i).env (eval x (X i).env) = eval x (X i).env := by exact fun _ => rfl)
    (hfew : ∀ i, ((backTo cpos (starEach (e :: es) (X i).env)).all (fun x => !x.1) && (backToKw cpos (keywordEach [] (X i).env)).all (fun x => x.1.isSome)
      && decide ((e :: es).length + ([] : List Keyword).length + (if ([] : List Keyword).isEmpty then 0 else 1) < 30)) = true := by exact fun _ => rfl)
    (hline : (apos.endLine == cpos.line) = true := by rfl) (hst : ∀ i, starEach (e :: es) (X i).env = (false, eval e (X i).env) :: starEach es (X i).env := by exact fun _ => rfl) (hpl : ∀ i, (backTo cpos (starEach es (X i).env)).any (·.1) = false := by exact fun _ => rfl) :
    QE X K W pn (.Call (.Attribute x "find" apos) (e :: es) [] cpos) (pMs m_find px pa) := q_ms (r := fun K => fun x xs H Q => ∃ a b, x = .str a ∧ xs = [.str b] ∧ Q (.int (Txt.find a b)) H) c (fun X h => mt_find) (fun K => s_find) F.slot_str_find F.type_str_find a b hbase hfew hline hst hpl
theorem qm_count (c : Ct X P w K mg base N W k) (a : QE X K W pn x px) (b : QA X K W pn (e :: es) pa)
    (hbase : ∀ i, attributeBase x "count" (X i).env (eval x (X i).env) = eval x (X i).env := by exact fun _ => rfl)
    (hfew : ∀ i, ((backTo cpos (starEach (e :: es) (X i).env)).all (fun x => !x.1) && (backToKw cpos (keywordEach [] (X i).env)).all (fun x => x.1.isSome)
      && decide ((e :: es).length + ([] : List Keyword).length + (if ([] : List Keyword).isEmpty then 0 else 1) < 30)) = true := by exact fun _ => rfl)
    (hline : (apos.endLine == cpos.line) = true := by rfl) (hst : ∀ i, starEach (e :: es) (X i).env = (false, eval e (X i).env) :: starEach es (X i).env := by exact fun _ => rfl) (hpl : ∀ i, (backTo cpos (starEach es (X i).env)).any (·.1) = false := by exact fun _ => rfl) :
    QE X K W pn (.Call (.Attribute x "count" apos) (e :: es) [] cpos) (pMs m_count px pa) := q_ms (r := fun K => fun x xs H Q => ∃ a b, x = .str a ∧ xs = [.str b] ∧ Q (.int (Txt.count a b)) H) c (fun X h => mt_count) (fun K => s_count) F.slot_str_count F.type_str_count a b hbase hfew hline hst hpl
theorem qm_rfind (c : Ct X P w K mg base N W k) (a : QE X K W pn x px) (b : QA X K W pn (e :: es) pa)
    (hbase : ∀ i, attributeBase x "rfind" (X i).env (eval x (X i).env) = eval x (X i).env := by exact fun _ => rfl)
    (hfew : ∀ i, ((backTo cpos (starEach (e :: es) (X i).env)).all (fun x => !x.1) && (backToKw cpos (keywordEach [] (X i).env)).all (fun x => x.1.isSome)
      && decide ((e :: es).length + ([] : List Keyword).length + (if ([] : List Keyword).isEmpty then 0 else 1) < 30)) = true := by exact fun _ => rfl)
    (hline : (apos.endLine == cpos.line) = true := by rfl) (hst : ∀ i, starEach (e :: es) (X i).env = (false, eval e (X i).env) :: starEach es (X i).env := by exact fun _ => rfl) (hpl : ∀ i, (backTo cpos (starEach es (X i).env)).any (·.1) = false := by exact fun _ => rfl) :
    QE X K W pn (.Call (.Attribute x "rfind" apos) (e :: es) [] cpos) (pMs m_rfind px pa) := q_ms (r := fun K => fun x xs H Q => ∃ a b, x = .str a ∧ xs = [.str b] ∧ Q (.int (Txt.rfind a b)) H) c (fun X h => mt_rfind) (fun K => s_rfind) F.slot_str_rfind F.type_str_rfind a b hbase hfew hline hst hpl
theorem qm_stripc (c : Ct X P w K mg base N W k) (a : QE X K W pn x px) (b : QA X K W pn (e :: es) pa)
    (hbase : ∀ i, attributeBase x "strip" (X i).env (eval x (X i).env) = eval x (X i).env := by exact fun _ => rfl)
    (hfew : ∀ i, ((backTo cpos (starEach (e :: es) (X i).env)).all (fun x => !x.1) && (backToKw cpos (keywordEach [] (X i).env)).all (fun x => x.1.isSome)
      && decide ((e :: es).length + ([] : List Keyword).length + (if ([] : List Keyword).isEmpty then 0 else 1) < 30)) = true := by exact fun _ => rfl)
    (hline : (apos.endLine == cpos.line) = true := by rfl) (hst : ∀ i, starEach (e :: es) (X i).env = (false, eval e (X i).env) :: starEach es (X i).env := by exact fun _ => rfl) (hpl : ∀ i, (backTo cpos (starEach es (X i).env)).any (·.1) = false := by exact fun _ => rfl) :
    QE X K W pn (.Call (.Attribute x "strip" apos) (e :: es) [] cpos) (pMs m_stripc px pa) := q_ms (r := fun K => fun x xs H Q => ∃ a b, x = .str a ∧ xs = [.str b] ∧ a.length ≤ sizeLine ∧ Q (.str (Txt.stripChars a b)) H) c (fun X h => mt_stripChars) (fun K => s_stripc) F.slot_str_strip F.type_str_strip a b hbase hfew hline hst hpl
theorem qm_lstripc (c : Ct X P w K mg base N W k) (a : QE X K W pn x px) (b : QA X K W pn (e :: es) pa)
    (hbase : ∀ i, attributeBase x "lstrip" (X i).env (eval x (X i).env) = eval x (X i).env := by exact fun _ => rfl)
    (hfew : ∀ i, ((backTo cpos (starEach (e :: es) (X i).env)).all (fun x => !x.1) && (backToKw cpos (keywordEach [] (X i).env)).all (fun x => x.1.isSome)
      && decide ((e :: es).length + ([] : List Keyword).length + (if ([] : List Keyword).isEmpty then 0 else 1) < 30)) = true := by exact fun _ => rfl)
    (hline : (apos.endLine == cpos.line) = true := by rfl) (hst : ∀ i, starEach (e :: es) (X i).env = (false, eval e (X i).env) :: starEach es (X i).env := by exact fun _ => rfl) (hpl : ∀ i, (backTo cpos (starEach es (X i).env)).any (·.1) = false := by exact fun _ => rfl) :
    QE X K W pn (.Call (.Attribute x "lstrip" apos) (e :: es) [] cpos) (pMs m_lstripc px pa) := q_ms (r := fun K => fun x xs H Q => ∃ a b, x = .str a ∧ xs = [.str b] ∧ a.length ≤ sizeLine ∧ Q (.str (Txt.lstripChars a b)) H) c (fun X h => mt_lstripChars) (fun K => s_lstripc) F.slot_str_lstrip F.type_str_lstrip a b hbase hfew hline hst hpl
theorem qm_rstripc (c : Ct X P w K mg base N W k) (a : QE X K W pn x px) (b : QA X K W pn (e :: es) pa)
    (hbase : ∀ i, attributeBase x "rstrip" (X i).env (eval x (X i).env) = eval x (X i).env := by exact fun _ => rfl)
    (hfew : ∀ i, ((backTo cpos (starEach (e :: es) (X i).env)).all (fun x => !x.1) && (backToKw cpos (keywordEach [] (X i).env)).all (fun x => x.1.isSome)
      && decide ((e :: es).length + ([] : List Keyword).length + (if ([] : List Keyword).isEmpty then 0 else 1) < 30)) = true := by exact fun _ => rfl)
    (hline : (apos.endLine == cpos.line) = true := by rfl) (hst : ∀ i, starEach (e :: es) (X i).env = (false, eval e (X i).env) :: starEach es (X i).env := by exact fun _ => rfl) (hpl : ∀ i, (backTo cpos (starEach es (X i).env)).any (·.1) = false := by exact fun _ => rfl) :
    QE X K W pn (.Call (.Attribute x "rstrip" apos) (e :: es) [] cpos) (pMs m_rstripc px pa) := q_ms (r := fun K => fun x xs H Q => ∃ a b, x = .str a ∧ xs = [.str b] ∧ a.length ≤ sizeLine ∧ Q (.str (Txt.rstripChars a b)) H) c (fun X h => mt_rstripChars) (fun K => s_rstripc) F.slot_str_rstrip F.type_str_rstrip a b hbase hfew hline hst hpl
theorem qm_removeprefix (c : Ct X P w K mg base N W k) (a : QE X K W pn x px) (b : QA X K W pn (e :: es) pa)
    (hbase : ∀ i, attributeBase x "removeprefix" (X i).env (eval x (X i).env) = eval x (X i).env := by exact fun _ => rfl)
    (hfew : ∀ i, ((backTo cpos (starEach (e :: es) (X i).env)).all (fun x => !x.1) && (backToKw cpos (keywordEach [] (X i).env)).all (fun x => x.1.isSome)
      && decide ((e :: es).length + ([] : List Keyword).length + (if ([] : List Keyword).isEmpty then 0 else 1) < 30)) = true := by exact fun _ => rfl)
    (hline : (apos.endLine == cpos.line) = true := by rfl) (hst : ∀ i, starEach (e :: es) (X i).env = (false, eval e (X i).env) :: starEach es (X i).env := by exact fun _ => rfl) (hpl : ∀ i, (backTo cpos (starEach es (X i).env)).any (·.1) = false := by exact fun _ => rfl) :
    QE X K W pn (.Call (.Attribute x "removeprefix" apos) (e :: es) [] cpos) (pMs m_removeprefix px pa) := q_ms (r := fun K => fun x xs H Q => ∃ a b, x = .str a ∧ xs = [.str b] ∧ a.length ≤ sizeLine ∧ Q (.str (Txt.removeprefix a b)) H) c (fun X h => mt_removeprefix) (fun K => s_removeprefix) F.slot_str_removeprefix F.type_str_removeprefix a b hbase hfew hline hst hpl
theorem qm_removesuffix (c : Ct X P w K mg base N W k) (a : QE X K W pn x px) (b : QA X K W pn (e :: es) pa)
    (hbase : ∀ i, attributeBase x "removesuffix" (X i).env (eval x (X i).env) = eval x (X i).env := by exact fun _ => rfl)
    (hfew : ∀ i, ((backTo cpos (starEach (e :: es) (X i).env)).all (fun x => !x.1) && (backToKw cpos (keywordEach [] (X i).env)).all (fun x => x.1.isSome)
      && decide ((e :: es).length + ([] : List Keyword).length + (if ([] : List Keyword).isEmpty then 0 else 1) < 30)) = true := by exact fun _ => rfl)
    (hline : (apos.endLine == cpos.line) = true := by rfl) (hst : ∀ i, starEach (e :: es) (X i).env = (false, eval e (X i).env) :: starEach es (X i).env := by exact fun _ => rfl) (hpl : ∀ i, (backTo cpos (starEach es (X i).env)).any (·.1) = false := by exact fun _ => rfl) :
    QE X K W pn (.Call (.Attribute x "removesuffix" apos) (e :: es) [] cpos) (pMs m_removesuffix px pa) := q_ms (r := fun K => fun x xs H Q => ∃ a b, x = .str a ∧ xs = [.str b] ∧ a.length ≤ sizeLine ∧ Q (.str (Txt.removesuffix a b)) H) c (fun X h => mt_removesuffix) (fun K => s_removesuffix) F.slot_str_removesuffix F.type_str_removesuffix a b hbase hfew hline hst hpl
theorem qm_split (c : Ct X P w K mg base N W k) (a : QE X K W pn x px) (b : QA X K W pn (e :: es) pa)
    (hbase : ∀ i, attributeBase x "split" (X i).env (eval x (X i).env) = eval x (X i).env := by exact fun _ => rfl)
    (hfew : ∀ i, ((backTo cpos (starEach (e :: es) (X i).env)).all (fun x => !x.1) && (backToKw cpos (keywordEach [] (X i).env)).all (fun x => x.1.isSome)
      && decide ((e :: es).length + ([] : List Keyword).length + (if ([] : List Keyword).isEmpty then 0 else 1) < 30)) = true := by exact fun _ => rfl)
    (hline : (apos.endLine == cpos.line) = true := by rfl) (hst : ∀ i, starEach (e :: es) (X i).env = (false, eval e (X i).env) :: starEach es (X i).env := by exact fun _ => rfl) (hpl : ∀ i, (backTo cpos (starEach es (X i).env)).any (·.1) = false := by exact fun _ => rfl) :
    QE X K W pn (.Call (.Attribute x "split" apos) (e :: es) [] cpos) (pMs m_split px pa) := q_ms (r := fun K => fun x xs H Q => ∃ a b, x = .str a ∧ xs = [.str b] ∧ (b.length == 0) = false ∧ a.length + 2 ≤ sizeLine ∧ rNewStrs (Txt.split a b) H Q) c (fun X h => mt_split) (fun K => s_split) F.slot_str_split F.type_str_split a b hbase hfew hline hst hpl
theorem qm_partition (c : Ct X P w K mg base N W k) (a : QE X K W pn x px) (b : QA X K W pn (e :: es) pa)
    (hbase : ∀ i, attributeBase x "partition" (X i).env (eval x (X i).env) = eval x (X i).env := by exact fun _ => rfl)
    (hfew : ∀ i, ((backTo cpos (starEach (e :: es) (X i).env)).all (fun x => !x.1) && (backToKw cpos (keywordEach [] (X i).env)).all (fun x => x.1.isSome)
      && decide ((e :: es).length + ([] : List Keyword).length + (if ([] : List Keyword).isEmpty then 0 else 1) < 30)) = true := by exact fun _ => rfl)
    (hline : (apos.endLine == cpos.line) = true := by rfl) (hst : ∀ i, starEach (e :: es) (X i).env = (false, eval e (X i).env) :: starEach es (X i).env := by exact fun _ => rfl) (hpl : ∀ i, (backTo cpos (starEach es (X i).env)).any (·.1) = false := by exact fun _ => rfl) :
    QE X K W pn (.Call (.Attribute x "partition" apos) (e :: es) [] cpos) (pMs m_partition px pa) := q_ms (r := fun K => fun x xs H Q => ∃ a b, x = .str a ∧ xs = [.str b] ∧ (b.length == 0) = false ∧ a.length ≤ sizeLine ∧ ∀ p, H p = none → Q (.ref p) (upd H p (.tup [.str (Txt.partition a b).1, .str (Txt.partition a b).2.1, .str (Txt.partition a b).2.2]))) c (fun X h => mt_partition) (fun K => s_partition) F.slot_str_partition F.type_str_partition a b hbase hfew hline hst hpl
theorem qm_join (c : Ct X P w K mg base N W k) (a : QE X K W pn x px) (b : QA X K W pn (e :: es) pa)
    (hbase : ∀ i, attributeBase x "join" (X i).env (eval x (X i).env) = eval x (X i).env := by exact fun _ => rfl)
    (hfew : ∀ i, ((backTo cpos (starEach (e :: es) (X i).env)).all (fun x => !x.1) && (backToKw cpos (keywordEach [] (X i).env)).all (fun x => x.1.isSome)
      && decide ((e :: es).length + ([] : List Keyword).length + (if ([] : List Keyword).isEmpty then 0 else 1) < 30)) = true := by exact fun _ => rfl)
    (hline : (apos.endLine == cpos.line) = true := by rfl) (hst : ∀ i, starEach (e :: es) (X i).env = (false, eval e (X i).env) :: starEach es (X i).env := by exact fun _ => rfl) (hpl : ∀ i, (backTo cpos (starEach es (X i).env)).any (·.1) = false := by exact fun _ => rfl) :
    QE X K W pn (.Call (.Attribute x "join" apos) (e :: es) [] cpos) (pMs m_join px pa) := q_ms (r := fun K => fun x xs H Q => ∃ a p, ∃ ys : List Str, x = .str a ∧ xs = [.ref p] ∧ (SqL K H p (ys.map V.str) ∨ SqT K H p (ys.map V.str)) ∧ (ys.map (·.length)).sum + ys.length * a.length ≤ 16777216 ∧ Q (.str (Txt.join a ys)) H) c (fun X h => mt_join) (fun K => s_join) F.slot_str_join F.type_str_join a b hbase hfew hline hst hpl
end
end Qv
set_option Elab.async false
set_option linter.all false
set_option maxRecDepth 100000
set_option maxHeartbeats 4000000
namespace Qv
open PySem PySem.Spec PyProof.Rows L2
/-! ### methods that change a list at a place -/
abbrev GL := List Val → List Val → (List Val → Val → Prop) → Prop
def LmK (g : GL) (i : Nat) (vs : List Val) (e : Env) (Q : Res → Env → Prop) : Prop := match e[i]? with
  | some (some (.lst true xs)) => g xs (freezeL vs) fun xs' u => Q (.val u) (e.set i (some (.lst true xs')))
  | _ => False
def pLm (g : GL) (po : PEx) (pa : PAr) : PEx := fun W env Q => po W env fun r e1 => match r with
  | .pl i => (match e1[i]? with
    | some (some (.lst true _)) => pa W e1 fun rs e2 => escs rs e2 fun vs e3 => LmK g i vs e3 Q
    | _ => False)
  | _ => False
section
variable {K : PySem.W.Frag} {W : WX} {pn : List Nat} {fl fl2 : Bool}
def LM (K : PySem.W.Frag) (r : V → List V → Hp → VK → Prop) (g : GL) : Prop := ∀ (Fz : Addr → Prop) (H : Hp) (a : Addr) (xs : List Val) (vs : List V) (as : List Val) (As : List V) (kp : List Val → Val → Prop) (Q' : VK), H a = some (.lst vs) → FznL K Fz H xs vs → FznL K Fz H as As → g xs as kp →
  (∀ xs' u vs' U, FznL K Fz H xs' vs' → Fzn K Fz H u U → kp xs' u → Q' U (upd H a (.lst vs'))) → r (.ref a) As H Q'
theorem sim_lm {r : V → List V → Hp → VK → Prop} {g : GL} {to : TE} {po : PEx} {t : TA} {pa : PAr} (ho : SimE K W pn fl to po) (ha : SimA K W pn fl2 t pa) (hs : LM K r g) : SimE K W pn false (tBM K "list" r to t) (pLm g po pa) := by
  intro Wp env σ H Fz O fp pv Q Q' F P hp hx hq
  refine ho Wp env σ H Fz O fp pv _ _ F P hp hx fun r1 e1 V1 H1 Fz1 fp1 f1 s1 k1 F1 o1 t1 q1 => ?_
  split at q1
  · rename_i i
    obtain ⟨ef, sV⟩ := o1
    subst ef
    split at q1
    · rename_i xs0 hxs0
      obtain ⟨a, vs0, e1', e2', h1', h2'⟩ := F1.lst hxs0 sV
      subst e1'
      refine ⟨.inl ⟨rfl, vs0, .of h1'⟩, ?_⟩
      refine ha Wp e1 σ H1 Fz1 O fp1 pv _ _ F1 P q1 (hx.step s1 fun _ h => h) fun rs e2 Vs H2 Fz2 fp2 f2 s2 k2 F2 r2 t2 q2 => ?_
      obtain ⟨vs, e3, Fz3, fp3, g3, s3, k3, F3, o3, u3, q3⟩ := escs_ok F2 r2 t2 q2
      have F4 := F3.frz u3
      have l4 : FznL K (Fft Fz3 g3) H2 (freezeL vs) Vs := OwL.frz (fun _ h => .inl h) vs Vs g3 (fun _ h => .inr h) o3
      have s4 : Stp Fz3 H2 O (Fft Fz3 g3) H2 := ⟨fun _ h => .inl h, fun _ _ => rfl⟩
      have s14 : Stp Fz H O (Fft Fz3 g3) H2 := ((s1.trans s2 fun _ h => h).trans s3 fun _ h => h).trans s4 fun _ h => h
      unfold LmK at q3
      split at q3
      · rename_i xs hxs
        obtain ⟨a2, ws, e4, e5, h4, h5⟩ := F4.lst hxs sV
        cases e4
        have na : ¬ Fft Fz3 g3 a := (F4.nf i a (by rw [e5]; simp)).1
        refine hs (Fft Fz3 g3) H2 a xs ws (freezeL vs) Vs _ Q' h4 h5 l4 q3 fun xs' u vs' U l' oU q' => ?_
        obtain ⟨F5, s5⟩ := F4.mut (v' := .lst true xs') (o := .lst vs') (List.getElem?_eq_some_iff.mp hxs).1 sV e5 ⟨a, vs', rfl, rfl, upd_same, l'.upd na⟩
        exact hq (.val u) _ U _ _ fp3 [] (s14.trans s5 fun _ h => h) (fun z => by cases z) F5 (oU.upd na).ow .nil q'
      · exact q3.elim
    · exact q1.elim
  · exact q1.elim
theorem sim_lm0 {r : V → List V → Hp → VK → Prop} {g : GL} {to : TE} {po : PEx} (ho : SimE K W pn fl to po) (hs : LM K r g) : SimE K W pn false (tBM0 K "list" r to) (pLm g po aNil) := by
  intro Wp env σ H Fz O fp pv Q Q' F P hp hx hq
  exact sim_lm ho sim_anil hs Wp env σ H Fz O fp pv Q Q' F P hp hx hq
def l_append : GL := fun xs as k => match as with
  | [v] => xs.length < sizeLine ∧ k (xs ++ [v]) .non
  | _ => False
theorem lm_append : LM K rAppend l_append := by
  intro Fz H a xs vs as As kp Q' h l la q hq
  unfold l_append at q
  split at q
  · obtain ⟨V1, _, e1, o1, z⟩ := la
    cases z
    subst e1
    exact ⟨a, vs, V1, rfl, rfl, h, by rw [l.len]; exact q.1, hq _ .non _ _ (l.app o1) rfl q.2⟩
  · exact q.elim
def l_pop : GL := fun xs as k => as = [] ∧ ∃ u, xs[xs.length - 1]? = some u ∧ k xs.dropLast u
theorem FznL.dropLast {Fz : Addr → Prop} {H : Hp} {xs : List Val} {vs : List V} (l : FznL K Fz H xs vs) : FznL K Fz H xs.dropLast vs.dropLast := by
  rw [List.dropLast_eq_take, List.dropLast_eq_take, l.len]
  exact l.take _
theorem lm_pop : LM K rPop l_pop := by
  intro Fz H a xs vs as As kp Q' h l la q hq
  obtain ⟨rfl, u, hu, q⟩ := q
  cases la
  obtain ⟨U, hU, oU⟩ := l.get hu
  exact ⟨a, vs, U, rfl, rfl, h, by rw [l.len]; exact hU, hq _ u _ U l.dropLast oU q⟩
def l_popAt : GL := fun xs as k => match as with
  | [.int i] => (-(2 ^ 63) ≤ i ∧ i < 2 ^ 63) ∧ ∃ j u, seqIndex? i xs.length = some j ∧ xs[j]? = some u ∧ k (xs.eraseIdx j) u
  | _ => False
theorem FznL.erase {Fz : Addr → Prop} {H : Hp} : ∀ {xs : List Val} {vs : List V} (i : Nat), FznL K Fz H xs vs → FznL K Fz H (xs.eraseIdx i) (vs.eraseIdx i)
  | [], _, i, h => by cases h; rfl
  | x :: xs, _, 0, h => by
    obtain ⟨v, r, e, h1, h2⟩ := h
    subst e
    exact h2
  | x :: xs, _, i + 1, h => by
    obtain ⟨v, r, e, h1, h2⟩ := h
    subst e
    exact ⟨v, r.eraseIdx i, rfl, h1, FznL.erase i h2⟩
theorem lm_popAt : LM K rPopAt l_popAt := by
  intro Fz H a xs vs as As kp Q' h l la q hq
  unfold l_popAt at q
  split at q
  · obtain ⟨V1, _, e1, o1, z⟩ := la
    cases z
    subst e1
    cases (show V1 = .int _ from o1)
    obtain ⟨⟨q1, q2⟩, j, u, hj, hu, q⟩ := q
    obtain ⟨U, hU, oU⟩ := l.get hu
    exact ⟨a, vs, _, j, U, rfl, rfl, h, q1, q2, by rw [l.len]; exact hj, hU, hq _ u _ U (l.erase j) oU q⟩
  · exact q.elim
theorem FznL.rev {Fz : Addr → Prop} {H : Hp} : ∀ {xs : List Val} {vs : List V}, FznL K Fz H xs vs → FznL K Fz H xs.reverse vs.reverse
  | [], _, h => by cases h; rfl
  | x :: xs, _, h => by
    obtain ⟨v, r, e, h1, h2⟩ := h
    subst e
    rw [List.reverse_cons, List.reverse_cons]
    exact (FznL.rev h2).app h1
def l_reverse : GL := fun xs as k => as = [] ∧ k xs.reverse .non
theorem lm_reverse : LM K rReverse l_reverse := by
  intro Fz H a xs vs as As kp Q' h l la q hq
  obtain ⟨rfl, q⟩ := q
  cases la
  exact ⟨a, vs, rfl, rfl, h, hq _ .non _ _ l.rev rfl q⟩
def l_clear : GL := fun xs as k => as = [] ∧ k [] .non
theorem lm_clear : LM K rClear l_clear := by
  intro Fz H a xs vs as As kp Q' h l la q hq
  obtain ⟨rfl, q⟩ := q
  cases la
  exact ⟨a, vs, rfl, rfl, h, hq [] .non [] _ rfl rfl q⟩
end
end Qv
set_option Elab.async false
set_option linter.all false
set_option maxRecDepth 100000
set_option maxHeartbeats 4000000
namespace Qv
open PySem PySem.Spec PyProof.Rows L2
section
variable {ι : Type} {X : ι → Cx} {P : Program} {w : World} {K : PySem.W.Frag} {mg : Str → Option Value} {base : Heap} {N : List Str} {W : WX} {pn ts us : List Nat} {k : Nat}
variable {x y z : Expr} {px py pz : PEx} {e f : Expr} {es : List Expr} {pos pos' p apos cpos : Pos} {pt pu : PTe} {pa : PAr} {st : Stmt} {sts : List Stmt}
theorem ql_append (c : Ct X P w K mg base N W k) (a : QE X K W pn x px) (b : QA X K W pn (e :: es) pa)
    (hbase : ∀ i, attributeBase x "append" (X i).env (eval x (X i).env) = eval x (X i).env := by exact fun _ => rfl)
    (hfew : ∀ i, ((backTo cpos (starEach (e :: es) (X i).env)).all (fun x => !x.1) && (backToKw cpos (keywordEach [] (X i).env)).all (fun x => x.1.isSome)
      && decide ((e :: es).length + ([] : List Keyword).length + (if ([] : List Keyword).isEmpty then 0 else 1) < 30)) = true := by exact fun _ => rfl)
    (hline : (apos.endLine == cpos.line) = true := by rfl) (hst : ∀ i, starEach (e :: es) (X i).env = (false, eval e (X i).env) :: starEach es (X i).env := by exact fun _ => rfl) (hpl : ∀ i, (backTo cpos (starEach es (X i).env)).any (·.1) = false := by exact fun _ => rfl) :
    QE X K W pn (.Call (.Attribute x "append" apos) (e :: es) [] cpos) (pLm l_append px pa) := by
  obtain ⟨t, fl, a, a2⟩ := a
  obtain ⟨u, fl2, b, b2⟩ := b
  refine ⟨_, _, fun i => ?_, sim_lm a2 b2 lm_append⟩
  have z := pe_bm F.plainAttrs_list F.slot_list_append F.type_list_append (r := rAppend) mt_append (a i) (b i) (hbase i) (hfew i) hline (hst i) (hpl i)
  rw [c.hK i] at z
  exact z
theorem ql_pop0 (c : Ct X P w K mg base N W k) (a : QE X K W pn x px) (hbase : ∀ i, attributeBase x "pop" (X i).env (eval x (X i).env) = eval x (X i).env := by exact fun _ => rfl) (hline : (apos.endLine == cpos.line) = true := by rfl) :
    QE X K W pn (.Call (.Attribute x "pop" apos) [] [] cpos) (pLm l_pop px aNil) := by
  obtain ⟨t, fl, a, a2⟩ := a
  refine ⟨_, _, fun i => ?_, sim_lm0 a2 lm_pop⟩
  have z := pe_bm0 F.plainAttrs_list F.slot_list_pop F.type_list_pop (r := rPop) mt_pop (a i) (hbase i) hline
  rw [c.hK i] at z
  exact z
theorem ql_pop (c : Ct X P w K mg base N W k) (a : QE X K W pn x px) (b : QA X K W pn (e :: es) pa)
    (hbase : ∀ i, attributeBase x "pop" (X i).env (eval x (X i).env) = eval x (X i).env := by exact fun _ => rfl)
    (hfew : ∀ i, ((backTo cpos (starEach (e :: es) (X i).env)).all (fun x => !x.1) && (backToKw cpos (keywordEach [] (X i).env)).all (fun x => x.1.isSome)
      && decide ((e :: es).length + ([] : List Keyword).length + (if ([] : List Keyword).isEmpty then 0 else 1) < 30)) = true := by exact fun _ => rfl)
    (hline : (apos.endLine == cpos.line) = true := by rfl) (hst : ∀ i, starEach (e :: es) (X i).env = (false, eval e (X i).env) :: starEach es (X i).env := by exact fun _ => rfl) (hpl : ∀ i, (backTo cpos (starEach es (X i).env)).any (·.1) = false := by exact fun _ => rfl) :
    QE X K W pn (.Call (.Attribute x "pop" apos) (e :: es) [] cpos) (pLm l_popAt px pa) := by
  obtain ⟨t, fl, a, a2⟩ := a
  obtain ⟨u, fl2, b, b2⟩ := b
  refine ⟨_, _, fun i => ?_, sim_lm a2 b2 lm_popAt⟩
  have z := pe_bm F.plainAttrs_list F.slot_list_pop F.type_list_pop (r := rPopAt) mt_popAt (a i) (b i) (hbase i) (hfew i) hline (hst i) (hpl i)
  rw [c.hK i] at z
  exact z
theorem ql_reverse (c : Ct X P w K mg base N W k) (a : QE X K W pn x px) (hbase : ∀ i, attributeBase x "reverse" (X i).env (eval x (X i).env) = eval x (X i).env := by exact fun _ => rfl) (hline : (apos.endLine == cpos.line) = true := by rfl) :
    QE X K W pn (.Call (.Attribute x "reverse" apos) [] [] cpos) (pLm l_reverse px aNil) := by
  obtain ⟨t, fl, a, a2⟩ := a
  refine ⟨_, _, fun i => ?_, sim_lm0 a2 lm_reverse⟩
  have z := pe_bm0 F.plainAttrs_list F.slot_list_reverse F.type_list_reverse (r := rReverse) mt_reverse (a i) (hbase i) hline
  rw [c.hK i] at z
  exact z
theorem ql_clear (c : Ct X P w K mg base N W k) (a : QE X K W pn x px) (hbase : ∀ i, attributeBase x "clear" (X i).env (eval x (X i).env) = eval x (X i).env := by exact fun _ => rfl) (hline : (apos.endLine == cpos.line) = true := by rfl) :
    QE X K W pn (.Call (.Attribute x "clear" apos) [] [] cpos) (pLm l_clear px aNil) := by
  obtain ⟨t, fl, a, a2⟩ := a
  refine ⟨_, _, fun i => ?_, sim_lm0 a2 lm_clear⟩
  have z := pe_bm0 F.plainAttrs_list F.slot_list_clear F.type_list_clear (r := rClear) mt_clear (a i) (hbase i) hline
  rw [c.hK i] at z
  exact z
/-! a, b, c = e, f, g: three local names -/
def pPar3 (i j l : Nat) (pa : PAr) : PSt := fun W D env => pa W env fun rs e1 => escs rs e1 fun vs e2 => match vs with
  | [u, v, w] => i < e2.length ∧ j < e2.length ∧ l < e2.length ∧ D.nx (((e2.set i (some u)).set j (some v)).set l (some w))
  | _ => False
theorem sim_par3 {fl : Bool} {i j l : Nat} {tA : TA} (ha : SimA K W pn fl tA pa) (hi : i ∉ pn) (hj : j ∉ pn) (hl : l ∉ pn) : SimS K W pn (tPar3 i j l tA) (pPar3 i j l pa) := by
  intro Wp D env σ H Fz O fp pv D' F P hp hx nx rt bk ct
  refine ha Wp env σ H Fz O fp pv _ _ F P hp hx fun rs e1 Vs H1 Fz1 fp1 f1 s k F1 r1 t q => ?_
  obtain ⟨vs, e2, Fz2, fp2, g, s2, k2, F2, o, u, q2⟩ := escs_ok F1 r1 t q
  split at q2
  · obtain ⟨V1, _, f1, f2, e1, e2, o1, o2⟩ := o
    obtain ⟨V2, _, f3, f4, e3, e4, o3, o4⟩ := o2
    obtain ⟨V3, _, f5, f6, e5, e6, o5, o6⟩ := o4
    obtain ⟨e7, e8⟩ := o6
    subst e8 e7 e6 e5 e4 e3 e2 e1
    rw [List.append_nil] at u
    refine ⟨V1, V2, V3, rfl, ?_⟩
    have F3 := F2.set (i := i) o1 u.left
    have n1 := List.nodup_append.mp u.nd
    have n2 := List.nodup_append.mp n1.2.1
    have t3 : Tm Fz2 _ H1 (put fp2 i f1) f3 := ⟨n2.1, fun a h => u.right.nf a (List.mem_append_left _ h), fun a h m z => by
      unfold put at z
      split at z
      · exact n1.2.2 a z a (List.mem_append_left _ h) rfl
      · exact u.right.ds a (List.mem_append_left _ h) m z⟩
    have F4 := F3.set (i := j) o3 t3
    have t4 : Tm Fz2 _ H1 (put (put fp2 i f1) j f3) f5 := ⟨n2.2.1, fun a h => u.right.nf a (List.mem_append_right _ h), fun a h m z => by
      unfold put at z
      split at z
      · exact n2.2.2 a z a h rfl
      · split at z
        · exact n1.2.2 a z a (List.mem_append_right _ h) rfl
        · exact u.right.ds a (List.mem_append_right _ h) m z⟩
    have F5 := F4.set (i := l) o5 t4
    exact nx _ _ H1 Fz2 _ (s.trans s2 fun _ h => h) F5 (((P.set hi).set hj).set hl) q2.2.2.2
  · exact q2.elim
theorem s_par3 {n m o : Str} {p1 p2 p3 p4 : Pos} {kt k2 : Nat} {pt2 : Pos} (c : Ct X P w K mg base N W k) (i j l : Nat) (a : QA X K W pn [x, y, z] pa) (hi : N[i]? = some n := by rfl) (hj : N[j]? = some m := by rfl) (hl : N[l]? = some o := by rfl) (hij : i ≠ j := by decide) (hil : i ≠ l := by decide) (hjl : j ≠ l := by decide)
    (hip : i ∉ pn := by decide) (hjp : j ∉ pn := by decide) (hlp : l ∉ pn := by decide)
    (hx : ∀ q, (X q).env.scope.names.lookup n = some .local := by exact fun _ => rfl) (hy : ∀ q, (X q).env.scope.names.lookup m = some .local := by exact fun _ => rfl) (hz : ∀ q, (X q).env.scope.names.lookup o = some .local := by exact fun _ => rfl)
    (hw : ∀ q, swappedStores [.Tuple [.Name n p1, .Name m p2, .Name o p4] kt p3] (.Tuple [x, y, z] k2 pt2) (X q).env = pure (some [n, m, o]) := by exact fun _ => rfl)
    (hs : ∀ q, swapsWithSole [.Tuple [.Name n p1, .Name m p2, .Name o p4] kt p3] (.Tuple [x, y, z] k2 pt2) pos.line (X q).env = pure false := by exact fun _ => rfl) :
    QS X K W pn (.Assign [.Tuple [.Name n p1, .Name m p2, .Name o p4] kt p3] (.Tuple [x, y, z] k2 pt2) pos) (pPar3 i j l pa) := by
  obtain ⟨t, fl, a, a2⟩ := a
  exact ⟨_, fun q => ps_par3 (c.calm q) (by rw [c.hN q]; exact c.nd) (by rw [c.hN q]; exact hi) (by rw [c.hN q]; exact hj) (by rw [c.hN q]; exact hl) hij hil hjl (hx q) (hy q) (hz q) (a q) (hw q) (hs q), sim_par3 a2 hip hjp hlp⟩
end
end Qv
set_option Elab.async false
set_option linter.all false
set_option maxRecDepth 100000
set_option maxHeartbeats 4000000
namespace Qv
open PySem PySem.Spec PyProof.Rows L2
/-! ### defs with defaults -/
section
variable {P : Program} {w : World} {K : PySem.W.Frag} {mg : Str → Option Value} {base : Heap} {N : List Str} {k : Nat} {x qual : Str} {params : Arguments} {body : List Stmt} {scope : Scope} {f : Addr} {prm : List Str} {ms : List Bool} {p : PSt} {F : FSp} {dvs : List V}
theorem fnfD {n : Nat} (D : ∃ fd, FunD K x qual params body scope dvs [] f fd) (S : FnScope N prm scope) (hm : ms.length = prm.length) (hN : ms.length ≤ n) (hn : N.length = n)
    (hbody : ∀ (cdv : Value) (A : Around) (fr : List PySem.Env) (s : Shared) (H : Hp) (E : XK), Ct (fun _ : Unit => cxOf (L2.CX P w) P w K mg base N qual scope f cdv A fr s H E) P w K mg base N (fun cls d _ H => E cls d H) k →
      QSs (fun _ : Unit => cxOf (L2.CX P w) P w K mg base N qual scope f cdv A fr s H E) K (fun cls d _ H => E cls d H) (lentAt ms) body p) :
    ∃ fd, FunD K x qual params body scope dvs [] f fd ∧ FnG P w K mg base (k + 1) f fd prm (spOf K ms (fspN n ms p)) := by
  subst hn
  obtain ⟨fd, D⟩ := D
  refine ⟨fd, D, FnG.of D S (fun vs H Q E h => ?_) fun cdv A fr s H vs Q E hr hg h => ?_⟩
  · obtain ⟨args, Fz, O, fp, Qe, Qr, hl, Fm1, _⟩ := h
    have z := Fm1.len
    rw [List.length_map, List.length_map] at z
    omega
  · obtain ⟨t, h1, h2⟩ := hbody cdv A fr s H E (ct_fn S.nd hr hg)
    exact ⟨t, h1 (), fn_sim hN h2 h⟩
/-- n values are written, the defaults behind the first j fill up -/
theorem okfD_of (n j : Nat) {dv : List Val} (hl : ∀ vs Qe Qr, F vs Qe Qr → vs.length = ms.length) (h : ∃ fd, FunD K x qual params body scope dvs [] f fd ∧ FnG P w K mg base k f fd prm (spOf K ms F)) (hd : dvs ≠ []) (hn : n + (dvs.length - j) = prm.length)
    (hb : ∀ (T : Addr) (kV doc pm : Value) (an : Option Addr) (cdv ct : Value) (us its : List Value), us.length = n → its.length = dvs.length →
      ∃ k, bindArgs (PySem.W.fnOf x qual params body scope (.ref T) kV doc pm an cdv ct) ⟨us, []⟩ = seqItems? (.ref T) >>= k ∧ k (some its.toArray) = pure (prm.zip (us ++ its.drop j)))
    (hdv : ∀ Fz H, FznL K Fz H dv (dvs.drop j)) : OkF P w K mg base k f prm ms dv F := by
  obtain ⟨fd, D, G⟩ := h
  obtain ⟨ds, h1, h2⟩ := D.binds1 (ps := prm) n j hd hn hb
  exact ⟨hl, fd, ds, dvs.drop j, D.kp, h2, h1, hdv, G⟩
end
end Qv
set_option Elab.async false
set_option linter.all false
set_option maxRecDepth 100000
set_option maxHeartbeats 4000000
namespace Qv
open PySem PySem.Spec PyProof.Rows L2
/-! ### x is True, x is not False -/
section
variable {K : PySem.W.Frag}
def gIsB : G2 := fun v w Q => match v, w with
  | .bl a, .bl b => Q (.bl (decide (a = b)))
  | _, _ => False
def gNotB : G2 := fun v w Q => match v, w with
  | .bl a, .bl b => Q (.bl (!decide (a = b)))
  | _, _ => False
theorem s_isB : S2 K (fun x y H Q => ∃ a b, x = V.bl a ∧ y = V.bl b ∧ Q (.bl (decide (a = b))) H) gIsB := by
  intro Fz H v w V W Qp Q' F o1 o2 q a
  cases v <;> try exact q.elim
  cases w <;> try exact q.elim
  exact ⟨_, _, Ow.bl o1, Ow.bl o2, aft_bl a q⟩
theorem s_notB : S2 K (fun x y H Q => ∃ a b, x = V.bl a ∧ y = V.bl b ∧ Q (.bl (!decide (a = b))) H) gNotB := by
  intro Fz H v w V W Qp Q' F o1 o2 q a
  cases v <;> try exact q.elim
  cases w <;> try exact q.elim
  exact ⟨_, _, Ow.bl o1, Ow.bl o2, aft_bl a q⟩
theorem r_isB {R : Val → Prop} {a b : Bool} (k : R (.bl (decide (a = b)))) : gIsB (.bl a) (.bl b) R := k
theorem r_notB {R : Val → Prop} {a b : Bool} (k : R (.bl (!decide (a = b)))) : gNotB (.bl a) (.bl b) R := k
end
section
variable {ι : Type} {X : ι → Cx} {P : Program} {w : World} {K : PySem.W.Frag} {mg : Str → Option Value} {base : Heap} {N : List Str} {W : WX} {pn ts us : List Nat} {k : Nat}
variable {x y z : Expr} {px py pz : PEx} {pos : Pos}
abbrev r_isb : PySem.W.Frag → R2 := fun _ x y H Q => ∃ a b, x = V.bl a ∧ y = V.bl b ∧ Q (.bl (decide (a = b))) H
abbrev r_notb : PySem.W.Frag → R2 := fun _ x y H Q => ∃ a b, x = V.bl a ∧ y = V.bl b ∧ Q (.bl (!decide (a = b))) H
theorem q_isb (c : Ct X P w K mg base N W k) (a : QE X K W pn x px) (b : QE X K W pn y py) : QE X K W pn (.Compare x [.Is] [y] pos) (pOp gIsB px py) := q_cmp (r := r_isb) c (fun X _ => op_is_bl) (fun K => s_isB) (fun b _ => nomark b) a b
theorem t_isb (c : Ct X P w K mg base N W k) (a : QE X K W pn x px) (b : QE X K W pn y py) : QT X K W pn (.Compare x [.Is] [y] pos) (pTest (pOp gIsB px py)) := t_cmp (r := r_isb) c (fun X _ => op_is_bl) (fun K => s_isB) (fun b _ => nomark b) a b
theorem q_isnotb (c : Ct X P w K mg base N W k) (a : QE X K W pn x px) (b : QE X K W pn y py) : QE X K W pn (.Compare x [.IsNot] [y] pos) (pOp gNotB px py) := q_cmp (r := r_notb) c (fun X _ => op_isnot_bl) (fun K => s_notB) (fun b _ => nomark b) a b
theorem t_isnotb (c : Ct X P w K mg base N W k) (a : QE X K W pn x px) (b : QE X K W pn y py) : QT X K W pn (.Compare x [.IsNot] [y] pos) (pTest (pOp gNotB px py)) := t_cmp (r := r_notb) c (fun X _ => op_isnot_bl) (fun K => s_notB) (fun b _ => nomark b) a b
end
/-! ### calls that leave defaults out -/
section
variable {W : PX} {env : Env} {pa : PAr} {Q : Res → Env → Prop}
theorem r_callD {f : FSp} {ms : List Bool} {dv : List Val} (k : pa W env fun rs e1 => prep ms rs e1 fun vs ls e2 => f (vs ++ dv) (fun exc fin => W exc (wb ls fin e2)) fun v fin => Q (.val v) (wb ls fin e2)) : pCall f ms dv pa W env Q := k
end
end Qv
set_option Elab.async false
set_option linter.all false
set_option maxRecDepth 100000
set_option maxHeartbeats 4000000
namespace Qv
open PySem PySem.Spec PyProof.Rows L2
/-! ### ranges of two and three -/
section
variable {W : PX} {env : Env} {pa : PAr} {rs : List Res}
def Rg2 (rs : List Res) (e : Env) (Q : List Val → Env → Prop) : Prop := match rds e rs with
  | some [.int i, .int j] => (-(2 ^ 62) ≤ i ∧ i < 2 ^ 62 ∧ -(2 ^ 62) ≤ j ∧ j < 2 ^ 62) ∧ Q (rangeV i 1 (j - i).toNat) e
  | _ => False
theorem r_iR2 {Qi : List Val → Env → Prop} (k : pa W env fun rs e1 => Rg2 rs e1 Qi) : iRange2 pa W env Qi := k
theorem r_rg2 {Qi : List Val → Env → Prop} {y z : Int} (h : rds env rs = some [.int y, .int z]) (h1 : -4611686018427387904 ≤ y) (h2 : y < 4611686018427387904) (h3 : -4611686018427387904 ≤ z) (h4 : z < 4611686018427387904) (k : Qi (rangeV y 1 (z - y).toNat) env) : Rg2 rs env Qi := by
  unfold Rg2
  simp only [h]
  exact ⟨⟨h1, h2, h3, h4⟩, k⟩
def Rg3 (rs : List Res) (e : Env) (Q : List Val → Env → Prop) : Prop := match rds e rs with
  | some [.int i, .int j, .int c] => ∃ n, RgC i j c n ∧ Q (rangeV i c n) e
  | _ => False
theorem r_iR3 {Qi : List Val → Env → Prop} (k : pa W env fun rs e1 => Rg3 rs e1 Qi) : iRange3 pa W env Qi := k
theorem r_rg3 {Qi : List Val → Env → Prop} {y z c : Int} {n : Nat} (h : rds env rs = some [.int y, .int z, .int c]) (h1 : RgC y z c n) (k : Qi (rangeV y c n) env) : Rg3 rs env Qi := by
  unfold Rg3
  simp only [h]
  exact ⟨n, h1, k⟩
end
/-! ### tuples of numbers compared -/
def IL (xs : List Val) (ns : List Int) : Prop := xs = ns.map Val.int
theorem il_nil : IL [] [] := rfl
theorem il_cons {xs : List Val} {ns : List Int} {i : Int} (h : IL xs ns) : IL (.int i :: xs) (i :: ns) := by
  unfold IL at *
  rw [h]
  rfl
theorem cl_ints : ∀ ns : List Int, PyData.canLayAll0 (datL (ns.map Val.int)) = true
  | [] => rfl
  | n :: ns => by simp [datL, Val.dat, PyData.canLayAll0, PyData.canLay0, cl_ints ns]
theorem dp_ints : ∀ ns : List Int, PyData.depthAll (datL (ns.map Val.int)) ≤ 1
  | [] => by simp [datL, PyData.depthAll]
  | n :: ns => by
    have z := dp_ints ns
    simp only [List.map_cons, datL, Val.dat, PyData.depthAll, PyData.depth]
    omega
theorem ea_ints : ∀ ns ms : List Int, PyData.eqvAll (datL (ns.map Val.int)) (datL (ms.map Val.int)) = decide (ns = ms)
  | [], [] => rfl
  | [], m :: ms => rfl
  | n :: ns, [] => rfl
  | n :: ns, m :: ms => by
    have z := ea_ints ns ms
    simp only [List.map_cons, datL, Val.dat, PyData.eqvAll, PyData.eqv, z]
    by_cases h : n = m
    · by_cases h2 : ns = ms
      · simp [h, h2]
      · simp [h, h2]
    · simp [h]
theorem sh_ints (ns : List Int) : SeqAt.shaped (Val.tup (ns.map Val.int)).dat = true := by
  have z := dp_ints ns
  simp only [Val.dat, SeqAt.shaped, PyData.canLay0, PyData.depth, cl_ints, Bool.and_eq_true, decide_eq_true_eq, true_and]
  try omega
theorem nod_ints : ∀ ns : List Int, nodL (ns.map Val.int) = true
  | [] => rfl
  | n :: ns => by simp [nodL, Val.nod, nod_ints ns]
theorem r_eqTI {R : Val → Prop} {xs ys : List Val} {ns ms : List Int} (h : IL xs ns) (h2 : IL ys ms) (k : R (.bl (decide (ns = ms)))) : gEq (.tup xs) (.tup ys) R := by
  rw [show xs = _ from h, show ys = _ from h2]
  refine r_eqv (by simp [Val.nod, nod_ints]) (by simp [Val.nod, nod_ints]) (sh_ints ns) (sh_ints ms) ?_ k
  simp only [Val.dat, PyData.eqv]
  exact ea_ints ns ms
theorem r_neTI {R : Val → Prop} {xs ys : List Val} {ns ms : List Int} (h : IL xs ns) (h2 : IL ys ms) (k : R (.bl (!decide (ns = ms)))) : gNe (.tup xs) (.tup ys) R := by
  rw [show xs = _ from h, show ys = _ from h2]
  refine r_nev (by simp [Val.nod, nod_ints]) (by simp [Val.nod, nod_ints]) (sh_ints ns) (sh_ints ms) ?_ k
  simp only [Val.dat, PyData.eqv]
  exact ea_ints ns ms
/-! ### texts compared -/
theorem shS {x : Str} (hx : PyData.strOk x = true) : SeqAt.shaped (Val.str x).dat = true := by
  simp [Val.dat, SeqAt.shaped, PyData.canLay0, PyData.depth, hx]
theorem eqvS (x y : Str) : PyData.eqv (Val.str x).dat (Val.str y).dat = decide (x = y) := by
  simp only [Val.dat, PyData.eqv]
  by_cases h : x = y
  · simp [h]
  · simp [h]
theorem r_eqS {R : Val → Prop} {x y : Str} (hx : PyData.strOk x = true) (hy : PyData.strOk y = true) (k : R (.bl (decide (x = y)))) : gEq (.str x) (.str y) R := r_eqv rfl rfl (shS hx) (shS hy) (eqvS x y) k
theorem r_neS {R : Val → Prop} {x y : Str} (hx : PyData.strOk x = true) (hy : PyData.strOk y = true) (k : R (.bl (!decide (x = y)))) : gNe (.str x) (.str y) R := r_nev rfl rfl (shS hx) (shS hy) (eqvS x y) k
/-! ### repr -/
def strB (b : Bool) : Str := PyData.shown (.bool b)
theorem r_reprB {R : Val → Prop} {b : Bool} (k : R (.str (strB b))) : gRepr [.bl b] R := by
  refine ⟨rfl, rfl, rfl, ?_, ?_, k⟩
  · cases b <;> decide +kernel
  · cases b <;> decide +kernel
theorem strB_ok (b : Bool) : PyData.strOk (strB b) = true := by cases b <;> decide +kernel
theorem strB_inj (a b : Bool) : decide (strB a = strB b) = decide (a = b) := by cases a <;> cases b <;> decide +kernel
theorem r_eqSB {R : Val → Prop} {a b : Bool} (k : R (.bl (decide (a = b)))) : gEq (.str (strB a)) (.str (strB b)) R := r_eqS (strB_ok a) (strB_ok b) (by rw [strB_inj]; exact k)
theorem r_neSB {R : Val → Prop} {a b : Bool} (k : R (.bl (!decide (a = b)))) : gNe (.str (strB a)) (.str (strB b)) R := r_neS (strB_ok a) (strB_ok b) (by rw [strB_inj]; exact k)
section
variable {W : PX} {env : Env} {nx : Env → Prop} {rt : Val → Env → Prop} {bk ct : Env → Prop} {pa : PAr} {v u x : Val}
def Par3K (i j l : Nat) (vs : List Val) (e : Env) (nx : Env → Prop) : Prop := match vs with
  | [v, u, x] => i < e.length ∧ j < e.length ∧ l < e.length ∧ nx (((e.set i (some v)).set j (some u)).set l (some x))
  | _ => False
theorem r_par3 {i j l : Nat} (k : pa W env fun rs e1 => escs rs e1 fun vs e2 => Par3K i j l vs e2 nx) : pPar3 i j l pa W ⟨nx, rt, bk, ct⟩ env := k
theorem r_par3K {i j l : Nat} (h1 : Nat.ble (i + 1) env.length = true) (h2 : Nat.ble (j + 1) env.length = true) (h3 : Nat.ble (l + 1) env.length = true) (k : nx (((env.set i (some v)).set j (some u)).set l (some x))) : Par3K i j l [v, u, x] env nx :=
  ⟨Nat.le_of_ble_eq_true h1, Nat.le_of_ble_eq_true h2, Nat.le_of_ble_eq_true h3, k⟩
end
/-! ### slices of written lists -/
theorem cutN {xs ys zs : List Val} {lo hi : Option Int} {a n : Nat} (h1 : HT.sIx xs.length 0 lo = a) (h2 : HT.sIx xs.length xs.length hi - a = n) (h3 : xs.drop a = zs) (h4 : zs.take n = ys) : cutL xs lo hi = ys := by
  rw [← h4, ← h3, ← h2, ← h1] <;> rfl
theorem dr_zero {xs : List Val} : xs.drop 0 = xs := rfl
theorem dr_nil {n : Nat} : ([] : List Val).drop n = [] := by cases n <;> rfl
theorem dr_succ {n : Nat} {x : Val} {xs ys : List Val} (h : xs.drop n = ys) : (x :: xs).drop (n + 1) = ys := h
theorem tk_zero {xs : List Val} : xs.take 0 = [] := by simp
theorem tk_nil {n : Nat} : ([] : List Val).take n = [] := by cases n <;> rfl
theorem tk_succ {n : Nat} {x : Val} {xs ys : List Val} (h : xs.take n = ys) : (x :: xs).take (n + 1) = x :: ys := by
  rw [List.take_succ_cons, h]
theorem cut_test (R : List Val → Prop) {a b c d e f g : Val} (h : ∀ ys, cutL [a, b, c, d, e, f, g] none (some 5) = ys → R ys → False) (k : R [a, b, c, d, e]) : False := by
  apply h
  · (apply cutN; rfl; rfl; (focus (repeat (first | exact dr_zero | exact dr_nil | apply dr_succ))); (focus (repeat (first | exact tk_zero | exact tk_nil | apply tk_succ))))
  · exact k
theorem rg249 : RgC (9999 / 40) 0 (-1) 249 := ⟨by decide, by decide, by decide, by decide⟩
end Qv
set_option Elab.async false
set_option linter.all false
set_option maxRecDepth 100000
set_option maxHeartbeats 4000000
namespace Qv
open PySem PySem.Spec PyProof.Rows L2
/-! ### texts as lists of numbers -/
def tx (l : List Nat) : Str := ⟨l.toArray⟩
theorem tx_len (l : List Nat) : (tx l).length = l.length := by simp [tx, Str.length]
theorem tx_cps (l : List Nat) : (tx l).cps.toList = l := by simp [tx]
theorem tx_eta (x : Str) : x = tx x.cps.toList := by
  cases x
  simp [tx]
theorem tx_app (a b : List Nat) : tx a ++ tx b = tx (a ++ b) := by
  show Str.mk (a.toArray ++ b.toArray) = _
  simp [tx]
theorem tx_inj {a b : List Nat} (h : tx a = tx b) : a = b := by
  rw [← tx_cps a, h, tx_cps]
theorem tx_dec (a b : List Nat) : decide (tx a = tx b) = decide (a = b) := decide_eq_decide.mpr ⟨tx_inj, fun e => by rw [e]⟩
/-- letters as they come -/
def Lt (l : List Nat) : Prop := ∀ c ∈ l, c < 1114112
theorem tx_ok {l : List Nat} (h : Lt l) : PyData.strOk (tx l) = true := by
  unfold PyData.strOk tx
  simp only [List.all_toArray, List.all_eq_true, decide_eq_true_eq]
  exact h
theorem tx_sub (l p : List Nat) (i : Nat) : Builtin.Str.subAt (tx l) (tx p) i = decide ((l.drop i).take p.length = p) := by
  unfold Builtin.Str.subAt
  rw [tx_len]
  unfold tx
  simp only [List.extract_toArray]
  have e : (l.extract i (i + p.length)) = (l.drop i).take p.length := by
    rw [List.extract_eq_drop_take]
    congr 1
    omega
  rw [e]
  by_cases h : (l.drop i).take p.length = p
  · simp [h]
  · simp [h]
theorem tx_cut (l : List Nat) (i j : Nat) : Builtin.Str.strSub (tx l) i j = tx ((l.drop i).take (j - i)) := by
  unfold Builtin.Str.strSub tx
  simp only [List.extract_toArray, List.extract_eq_drop_take]
/-! where one letter stands -/
def occL (c : Nat) : Nat → List Nat → List Nat
  | _, [] => []
  | i, x :: xs => if x = c then i :: occL c (i + 1) xs else occL c (i + 1) xs
abbrev occStep (s sub : Str) (hi limit : Nat) (p : Array Nat × Nat) (i : Nat) : Array Nat × Nat :=
  if (decide (p.1.size < limit) && decide (p.2 ≤ i) && decide (i + sub.length ≤ hi) && Builtin.Str.subAt s sub i) = true then (p.1.push i, i + sub.length) else p
theorem occ_fold (s sub : Str) (lo hi limit : Nat) : Builtin.Str.occurrences s sub lo hi limit = ((List.range' lo (hi + 1 - lo)).foldl (occStep s sub hi limit) (#[], lo)).1.toList := by
  unfold Builtin.Str.occurrences
  have e : (fun (i : Nat) (p : Array Nat × Nat) => if (decide (p.fst.size < limit) && decide (p.snd ≤ i) && decide (i + sub.length ≤ hi) && Builtin.Str.subAt s sub i) = true then (pure (ForInStep.yield (p.fst.push i, i + sub.length)) : Id (ForInStep (Array Nat × Nat))) else pure (ForInStep.yield (p.fst, p.snd))) = fun i p => pure (ForInStep.yield (occStep s sub hi limit p i)) := by
    funext i p
    unfold occStep
    split <;> rfl
  simp only [Std.Legacy.Range.forIn_eq_forIn_range', e, List.forIn_pure_yield_eq_foldl]
  simp [Std.Legacy.Range.size]
theorem occ_one (l : List Nat) (c limit : Nat) : ∀ (k i : Nat) (f : Array Nat) (fr : Nat), i + k = l.length → fr ≤ i →
    ((List.range' i (k + 1)).foldl (occStep (tx l) (tx [c]) l.length limit) (f, fr)).1.toList = f.toList ++ (occL c i (l.drop i)).take (limit - f.size)
  | 0, i, f, fr, hk, hf => by
    have e : i = l.length := by omega
    subst e
    rw [List.range'_succ, List.drop_length]
    have z : decide (l.length + 1 ≤ l.length) = false := decide_eq_false (by omega)
    have e1 : occStep (tx l) (tx [c]) l.length limit (f, fr) l.length = (f, fr) := by
      unfold occStep
      rw [tx_len, List.length_singleton, z]
      simp
    rw [List.foldl_cons, e1]
    simp [occL]
  | k + 1, i, f, fr, hk, hf => by
    have hi : i < l.length := by omega
    rw [List.range'_succ, List.foldl_cons, List.drop_eq_getElem_cons hi]
    have es : Builtin.Str.subAt (tx l) (tx [c]) i = decide (l[i] = c) := by
      rw [tx_sub]
      apply decide_eq_decide.mpr
      rw [List.drop_eq_getElem_cons hi]
      simp only [List.length_singleton, List.take_succ_cons, List.take_zero, List.cons.injEq, and_true]
    have ih := occ_one l c limit k (i + 1)
    by_cases h : l[i] = c
    · by_cases h2 : f.size < limit
      · have e1 : occStep (tx l) (tx [c]) l.length limit (f, fr) i = (f.push i, i + 1) := by
          unfold occStep
          rw [es, tx_len]
          simp [h, h2, hf]
          omega
        rw [e1, ih _ _ (by omega) (by omega)]
        simp only [occL, h, if_pos]
        rw [show limit - f.size = (limit - (f.push i).size) + 1 by simp; omega]
        simp
      · have e1 : occStep (tx l) (tx [c]) l.length limit (f, fr) i = (f, fr) := by
          unfold occStep
          simp [h2]
        rw [e1, ih _ _ (by omega) (by omega), show limit - f.size = 0 by omega]
        simp
    · have e1 : occStep (tx l) (tx [c]) l.length limit (f, fr) i = (f, fr) := by
        unfold occStep
        rw [es]
        simp [h]
      rw [e1, ih _ _ (by omega) (by omega)]
      simp only [occL, h, if_neg, not_false_iff, if_false]
theorem occ_tx (l : List Nat) (c limit : Nat) : Builtin.Str.occurrences (tx l) (tx [c]) 0 l.length limit = (occL c 0 l).take limit := by
  rw [occ_fold]
  have z := occ_one l c limit l.length 0 #[] 0 (by omega) (by omega)
  simpa using z
theorem occL_len (c : Nat) : ∀ (l : List Nat) (i : Nat), (occL c i l).length ≤ l.length
  | [], i => by simp [occL]
  | x :: xs, i => by
    have z := occL_len c xs (i + 1)
    unfold occL
    split
    · simp; omega
    · simp; omega
theorem occL_nil (c : Nat) : ∀ (l : List Nat) (i : Nat), occL c i l = [] ↔ c ∉ l
  | [], i => by simp [occL]
  | x :: xs, i => by
    have z := occL_nil c xs (i + 1)
    unfold occL
    by_cases h : x = c
    · simp [h]
    · rw [if_neg h, z]
      simp [Ne.symm h, h]
/-! cut at one letter -/
def splitL (c : Nat) : List Nat → List (List Nat)
  | [] => [[]]
  | x :: xs => if x = c then [] :: splitL c xs else (x :: (splitL c xs).headD []) :: (splitL c xs).tail
theorem splitL_ne (c : Nat) (l : List Nat) : splitL c l ≠ [] := by
  cases l with
  | nil => simp [splitL]
  | cons x xs =>
    unfold splitL
    split <;> simp
theorem parts_one (l : List Nat) (c : Nat) : ∀ (k i a : Nat), i + k = l.length → a ≤ i →
    ((a :: (occL c i (l.drop i)).map (fun x => x + 1)).zip (occL c i (l.drop i) ++ [l.length])).map (fun p => Builtin.Str.strSub (tx l) p.1 p.2) = (((l.drop a).take (i - a) ++ (splitL c (l.drop i)).headD []) :: (splitL c (l.drop i)).tail).map tx
  | 0, i, a, hk, ha => by
    have e : i = l.length := by omega
    subst e
    rw [List.drop_length]
    simp [occL, splitL, tx_cut]
  | k + 1, i, a, hk, ha => by
    have hi : i < l.length := by omega
    rw [List.drop_eq_getElem_cons hi]
    have ih := parts_one l c k (i + 1)
    by_cases h : l[i] = c
    · simp only [occL, h, if_pos, splitL]
      have z := ih (i + 1) (by omega) (by omega)
      rw [List.map_cons, List.cons_append, List.zip_cons_cons, List.map_cons, z]
      simp only [tx_cut]
      rw [show i + 1 - (i + 1) = 0 by omega]
      have z2 := splitL_ne c (l.drop (i + 1))
      cases e : splitL c (l.drop (i + 1)) with
      | nil => exact absurd e z2
      | cons p ps => simp
    · simp only [occL, h, if_neg, not_false_iff, splitL]
      have z := ih a (by omega) (by omega)
      rw [z]
      simp only [List.headD_cons, List.tail_cons]
      congr 2
      have e2 : (l.drop a).take (i + 1 - a) = (l.drop a).take (i - a) ++ [l[i]] := by
        rw [show i + 1 - a = (i - a) + 1 by omega, List.take_succ]
        congr 1
        rw [List.getElem?_drop, show a + (i - a) = i by omega]
        simp [hi]
      rw [e2]
      simp
theorem kind1 (x : Str) : decide (Builtin.Str.strKind x < 1) = false := by
  apply decide_eq_false
  unfold Builtin.Str.strKind
  split
  · omega
  · split <;> omega
theorem splitL_no {c : Nat} : ∀ {l : List Nat}, c ∉ l → splitL c l = [l]
  | [], _ => rfl
  | x :: xs, h => by
    have h1 : ¬ x = c := fun e => h (by rw [e]; exact List.mem_cons_self)
    have h2 : c ∉ xs := fun e => h (List.mem_cons_of_mem _ e)
    unfold splitL
    rw [if_neg h1, splitL_no h2]
    rfl
theorem split_tx (l : List Nat) {c : Nat} (hc : c < 256) : Txt.split (tx l) (tx [c]) = (splitL c l).map tx := by
  unfold Txt.split
  have k1 : Builtin.Str.strKind (tx [c]) = 1 := by
    unfold Builtin.Str.strKind tx
    simp [hc]
  rw [k1, tx_len, tx_len, occ_tx]
  rw [List.take_of_length_le (by have := occL_len c l 0; omega)]
  by_cases h0 : l = []
  · subst h0
    simp [splitL]
  have hl : ¬ l.length < 1 := by
    have := List.length_pos_iff.mpr h0
    omega
  rw [kind1, show decide (l.length < [c].length) = false from decide_eq_false hl, if_neg (by simp)]
  by_cases h : c ∈ l
  · rw [if_neg (by simp [occL_nil, h])]
    unfold Builtin.Str.partsBetween
    have z := parts_one l c l.length 0 0 (by omega) (by omega)
    simp only [List.drop_zero, tx_len, List.length_singleton] at z ⊢
    rw [z]
    have z2 := splitL_ne c l
    cases e : splitL c l with
    | nil => exact absurd e z2
    | cons p ps => simp
  · rw [if_pos (by simp [(occL_nil c l 0).mpr h]), splitL_no h]
    simp
/-! a letter in a text -/
theorem in_tx (l : List Nat) (c : Nat) : (!(Builtin.Str.occurrences (tx l) (tx [c]) 0 (tx l).length 1).isEmpty) = decide (c ∈ l) := by
  rw [tx_len, occ_tx]
  by_cases h : c ∈ l
  · rw [decide_eq_true h]
    cases e : occL c 0 l with
    | nil => exact absurd h ((occL_nil c l 0).mp e)
    | cons a b => simp
  · rw [decide_eq_false h, (occL_nil c l 0).mpr h]
    simp
/-! before and behind the first letter -/
def befL (c : Nat) : List Nat → List Nat
  | [] => []
  | x :: xs => if x = c then [] else x :: befL c xs
def behL (c : Nat) : List Nat → List Nat
  | [] => []
  | x :: xs => if x = c then xs else behL c xs
theorem occL_head (c : Nat) : ∀ (l : List Nat) (i : Nat), c ∈ l → ∃ t, occL c i l = (i + (befL c l).length) :: t ∧ (befL c l).length < l.length ∧ befL c l = l.take (befL c l).length ∧ behL c l = l.drop ((befL c l).length + 1)
  | [], i, h => by cases h
  | x :: xs, i, h => by
    unfold occL befL behL
    by_cases e : x = c
    · rw [if_pos e, if_pos e, if_pos e]
      exact ⟨occL c (i + 1) xs, by simp, by simp, by simp, by simp⟩
    · rw [if_neg e, if_neg e, if_neg e]
      have h1 : c ∈ xs := (List.mem_cons.mp h).elim (fun z => absurd z.symm e) id
      obtain ⟨t, a1, a2, a3, a4⟩ := occL_head c xs (i + 1) h1
      refine ⟨t, ?_, by simp; omega, ?_, ?_⟩
      · rw [a1]
        simp
        omega
      · simp only [List.length_cons, List.take_succ_cons]
        rw [← a3]
      · simp only [List.length_cons, List.drop_succ_cons]
        exact a4
theorem part_tx (l : List Nat) {c : Nat} : Txt.partition (tx l) (tx [c]) = if c ∈ l then (tx (befL c l), tx [c], tx (behL c l)) else (tx l, tx [], tx []) := by
  unfold Txt.partition
  rw [tx_len, occ_tx, tx_len]
  by_cases h : c ∈ l
  · obtain ⟨t, a1, a2, a3, a4⟩ := occL_head c l 0 h
    rw [if_pos h, a1]
    simp only [List.take_succ_cons, Nat.zero_add, tx_cut, List.length_singleton]
    rw [List.drop_zero, Nat.sub_zero, ← a3, ← a4, List.take_of_length_le]
    rw [a4]
    simp
  · rw [if_neg h, (occL_nil c l 0).mpr h]
    rfl
/-! beginnings -/
theorem starts_tx (l p : List Nat) : Txt.startswith (tx l) (tx p) = decide (l.take p.length = p) := by
  unfold Txt.startswith
  rw [tx_sub, tx_len, tx_len, List.drop_zero]
  by_cases h : l.take p.length = p
  · have z : p.length ≤ l.length := by
      have := congrArg List.length h
      rw [List.length_take] at this
      omega
    simp [h, z]
  · simp [h]
/-! joined -/
def joinL (g : List Nat) : List (List Nat) → List Nat
  | [] => []
  | p :: ps => ps.foldl (fun acc q => acc ++ g ++ q) p
theorem join_fold (g : List Nat) : ∀ (ps : List (List Nat)) (a : List Nat), List.foldl (fun acc (p : Str) => acc ++ (tx g).cps ++ p.cps) a.toArray (ps.map tx) = (ps.foldl (fun acc q => acc ++ g ++ q) a).toArray
  | [], a => rfl
  | p :: ps, a => by
    rw [List.map_cons, List.foldl_cons, List.foldl_cons, ← join_fold g ps]
    congr 1
    simp [tx]
theorem join_tx (g : List Nat) (ps : List (List Nat)) : Txt.join (tx g) (ps.map tx) = tx (joinL g ps) := by
  unfold Txt.join Builtin.Str.glued
  cases ps with
  | nil => rfl
  | cons p ps =>
    simp only [List.map_cons, List.headD_cons, List.drop_succ_cons, List.drop_zero]
    show Str.mk _ = tx _
    have z := join_fold g ps p
    unfold tx at z ⊢
    rw [z]
    rfl
theorem joinL_cons (g p : List Nat) (ps : List (List Nat)) (h : ps ≠ []) : joinL g (p :: ps) = p ++ g ++ joinL g ps := by
  have aux : ∀ (ps : List (List Nat)) (a b : List Nat), ps.foldl (fun acc q => acc ++ g ++ q) (a ++ b) = a ++ ps.foldl (fun acc q => acc ++ g ++ q) b := by
    intro ps
    induction ps with
    | nil => intro a b; rfl
    | cons q qs ih =>
      intro a b
      rw [List.foldl_cons, List.foldl_cons, ← ih]
      simp
  cases ps with
  | nil => exact absurd rfl h
  | cons q qs =>
    show List.foldl _ p (q :: qs) = p ++ g ++ List.foldl _ q qs
    rw [List.foldl_cons, ← aux]
theorem joinL_one (g p : List Nat) : joinL g [p] = p := rfl
/-! slices -/
theorem cut_tx (l : List Nat) (lo hi : Option Int) : cutS (tx l) lo hi = tx (cutL l lo hi) := by
  unfold cutS cutL
  rw [tx_len, tx_cps]
  rfl
/-! the letters one by one -/
theorem items_tx (l : List Nat) : items (.str (tx l)) = some (l.map fun c => .str (tx [c])) := by
  show some ((tx l).cps.toList.map _) = _
  rw [tx_cps]
  rfl
end Qv
set_option Elab.async false
set_option linter.all false
set_option maxRecDepth 100000
set_option maxHeartbeats 4000000
namespace Qv
open PySem PySem.Spec PyProof.Rows L2
/-! ### two keywords in the other order -/
def aRev (pa : PAr) : PAr := fun W env Qa => pa W env fun rs e1 => Qa rs.reverse e1
def tARev (t : TA) : TA := fun σ H Q => t σ H fun vs H1 => Q vs.reverse H1
section
variable {K : PySem.W.Frag} {Fz O : Addr → Prop} {H : Hp} {σ : L2.St} {fp : Nat → List Addr} {pn : List Nat} {W : WX} {fl : Bool}
theorem RRs.app : ∀ {rs rs2 : List Res} {Vs Vs2 : List V} {f f2 : List Addr}, RRs K Fz H σ rs Vs f → RRs K Fz H σ rs2 Vs2 f2 → RRs K Fz H σ (rs ++ rs2) (Vs ++ Vs2) (f ++ f2)
  | [], _, _, _, _, _, a, b => by
    obtain ⟨rfl, rfl⟩ := a
    exact b
  | r :: rs, _, _, _, _, _, a, b => by
    obtain ⟨V, Ws, f1, f2', rfl, rfl, x1, x2⟩ := a
    exact ⟨V, _, f1, _, rfl, List.append_assoc .., x1, RRs.app x2 b⟩
theorem RRs.rev : ∀ {rs : List Res} {Vs : List V} {f : List Addr}, RRs K Fz H σ rs Vs f → ∃ f', f'.Perm f ∧ RRs K Fz H σ rs.reverse Vs.reverse f'
  | [], _, _, a => by
    obtain ⟨rfl, rfl⟩ := a
    exact ⟨[], .nil, rfl, rfl⟩
  | r :: rs, _, _, a => by
    obtain ⟨V, Ws, f1, f2', rfl, rfl, x1, x2⟩ := a
    obtain ⟨f', p, x3⟩ := RRs.rev x2
    refine ⟨f' ++ f1, (List.perm_append_comm).trans (p.append_left f1), ?_⟩
    rw [List.reverse_cons, List.reverse_cons]
    exact RRs.app x3 ⟨V, [], f1, [], rfl, (List.append_nil _).symm, x1, rfl, rfl⟩
theorem Tm.perm {ft ft' : List Addr} (t : Tm Fz O H fp ft) (p : ft'.Perm ft) : Tm Fz O H fp ft' :=
  ⟨p.nodup_iff.mpr t.nd, fun a h => t.nf a (p.mem_iff.mp h), fun a h => t.ds a (p.mem_iff.mp h)⟩
theorem sim_rev {t : TA} {p : PAr} (a : SimA K W pn fl t p) : SimA K W pn fl (tARev t) (aRev p) := by
  intro Wp env σ H Fz O fp pv Q Q' F P hp hx hq
  refine a Wp env σ H Fz O fp pv _ _ F P hp hx fun rs env' Vs H' Fz' fp' ft s k F' r t' q => ?_
  obtain ⟨f', pm, r'⟩ := r.rev
  exact hq rs.reverse env' Vs.reverse H' Fz' fp' f' s k F' r' (t'.perm pm) q
end
section
variable {ι : Type} {X : ι → Cx} {P : Program} {w : World} {K : PySem.W.Frag} {mg : Str → Option Value} {base : Heap} {N : List Str} {W : WX} {pn ts us : List Nat} {k : Nat}
variable {x y z : Expr} {px py pz : PEx} {e f : Expr} {es : List Expr} {pos pos' p apos cpos : Pos} {pt pu : PTe} {pa : PAr} {st : Stmt} {sts : List Stmt}
theorem q_callKR {n : Str} {p : Pos} {f : Addr} {m1 m2 : Str} {ms : List Bool} {F : FSp} {j : Nat} {kws : List Keyword} (c : Ct X P w K mg base N W k) (hl : ∀ vs Qe Qr, F vs Qe Qr → vs.length = ms.length)
    (G : ∃ fd, PySem.W.keepIn K (.ref f) = true ∧ (∀ (s : Shared) (ws : List Value), ws.length = 2 → BindsTo s fd ⟨[], [m2, m1].zip ws⟩ ([m1, m2].zip ws.reverse)) ∧ FnG P w K mg base j f fd [m1, m2] (spOf K ms F)) (hj : j ≤ k) (hm : mg n = some (.ref f)) (a : QK X K W pn kws pa)
    (hall : ∀ i, (backToKw pos (keywordEach kws (X i).env)).all (·.1.isSome) = true := by exact fun _ => rfl) (hks : ∀ i, (backToKw pos (keywordEach kws (X i).env)).filterMap (·.1) = [m2, m1] := by exact fun _ => rfl)
    (hg : ∀ j, Gl (X j) n := by exact fun _ => rfl) (hdb : (n == ("__debug__" : Str)) = false := by decide)
    (hpl : ∀ i, ((backTo pos (starEach [] (X i).env)).any (·.1) || (backToKw pos (keywordEach kws (X i).env)).any (·.1.isNone)) = false := by exact fun _ => rfl) : QE X K W pn (.Call (.Name n p) [] kws pos) (pCall F ms [] (aRev pa)) := by
  obtain ⟨t, fl, a, a2⟩ := a
  obtain ⟨fd, kp, hb, FG⟩ := G
  refine ⟨_, _, fun i => ?_, sim_call (dvs := []) (sim_rev a2) (fun _ _ => rfl) hl⟩
  obtain rfl := c.hP i
  obtain rfl := c.hw i
  obtain rfl := c.hK i
  obtain rfl := c.hM i
  obtain rfl := c.hB i
  refine ⟨fun pins s σ H Q I h => wpAny_Call_Name_kw (ld_glob I (hg i) hm ?_ hdb)⟩
  refine PySem.W.callWith_KW0 (h₀ := (X i).base) I.ok.mod.kin kp (hall i) (thn ((a i).run pos pins s σ H _ I h) fun ws s2 ⟨zs, H2, I2, rz, q2⟩ => ⟨I2.kIn, ?_⟩) (hpl i)
  rw [hks i]
  have q3 : spOf (X i).K ms F (zs.reverse ++ []) H2 Q (WE W σ) := q2
  rw [List.append_nil] at q3
  have hlen : zs.reverse.length = 2 := FG.len _ _ _ _ q3
  rw [List.length_reverse] at hlen
  match zs, hlen with
  | [z1, z2], _ =>
    cases rz with
    | cons r1 rz =>
      cases rz with
      | cons r2 rz =>
        cases rz
        refine wpAny_call (codeAny_mono (FG.run (X i).A (X i).stack s2 H2 _ _ _ Q (WE W σ) ((c.room i).mono hj) (c.gu i) I2.env0 (hb s2 [_, _] rfl) (.cons r2 (.cons r1 .nil)) q3) fun q s' hq => ?_)
        match q, hq with
        | .error e, hq => exact passAt (c.tk i) σ pins H2 s2 e s' I2 hq
        | .ok (.ret u), hq => exact I2.after hq
        | .ok .next, hq => exact hq.elim
        | .ok .brk, hq => exact hq.elim
        | .ok .cont, hq => exact hq.elim
theorem kwrf_of {m1 m2 : Str} {x qual : Str} {params : Arguments} {body : List Stmt} {scope : Scope} {f : Addr} {ms : List Bool} {F : FSp} (h : ∃ fd, FunD K x qual params body scope [] [] f fd ∧ FnG P w K mg base k f fd [m1, m2] (spOf K ms F))
    (hb : ∀ (kV doc pm : Value) (an : Option Addr) (cdv ct : Value) (us : List Value), us.length = 2 → bindArgs (PySem.W.fnOf x qual params body scope .none kV doc pm an cdv ct) ⟨[], List.zip [m2, m1] us⟩ = pure ([m1, m2].zip us.reverse)) :
    ∃ fd, PySem.W.keepIn K (.ref f) = true ∧ (∀ (s : Shared) (ws : List Value), ws.length = 2 → BindsTo s fd ⟨[], [m2, m1].zip ws⟩ ([m1, m2].zip ws.reverse)) ∧ FnG P w K mg base k f fd [m1, m2] (spOf K ms F) := by
  obtain ⟨fd, D, G⟩ := h
  refine ⟨fd, D.kp, fun s ws hl => ?_, G⟩
  obtain ⟨oc, od, dV, kV, doc, pm, an, cdv, ct, osl, rfl, lk, hcd, hD, hK⟩ := D.ex
  rcases hD with ⟨_, rfl⟩ | ⟨e, _⟩
  · exact .of_eq (hb kV doc pm an cdv ct ws hl)
  · exact absurd rfl e
/-! ### texts as lists of numbers -/
theorem q_strL {i : Str} {l : List Nat} {j : Nat} (h : i = tx l) : QE X K W pn (.Constant (.str i) j pos) (pC (.str (tx l))) := by
  subst h
  exact q_str
theorem q_gstrL (c : Ct X P w K mg base N W k) {n z : Str} {l : List Nat} (h : z = tx l) (hm : ∃ t, mg n = some (.str z t)) (hg : ∀ j, Gl (X j) n := by exact fun _ => rfl) (hd : (n == ("__debug__" : Str)) = false := by decide) : QE X K W pn (.Name n pos) (pC (.str (tx l))) := by
  subst h
  exact q_gstr c hm hg hd
/-! ### texts and lists times a number -/
def gMulS : G2 := fun v w Q => match v, w with
  | .str x, .int k => MulOk x k ∧ Q (.str (Txt.mul x k))
  | _, _ => False
def gMulL : G2 := fun v w Q => match v, w with
  | .lst true xs, .int k => (-(2 ^ 63) ≤ k ∧ k < 2 ^ 63 ∧ xs.length * k.toNat ≤ sizeLine) ∧ Q (.lst true (List.replicate k.toNat xs).flatten)
  | _, _ => False
theorem op_mul_str {X : Cx} : OpR X (binaryOp .Mult) (fun x y H Q => ∃ i k, x = V.str i ∧ y = V.int k ∧ MulOk i k ∧ Q (.str (Txt.mul i k)) H) := by
  rintro pins s σ H x y v u Q I rx ry ⟨i, k, rfl, rfl, m, q⟩
  obtain ⟨t, rfl⟩ := rx
  obtain ⟨t', rfl⟩ := ry
  exact SB.mul m fun t' tk => ⟨V.str _, H, I.tok _, ⟨t', rfl⟩, q⟩
theorem s_mulS {K : PySem.W.Frag} : S2 K (fun x y H Q => ∃ i k, x = V.str i ∧ y = V.int k ∧ MulOk i k ∧ Q (.str (Txt.mul i k)) H) gMulS := by
  intro Fz H v w V W Qp Q' F o1 o2 q a
  cases v <;> try exact q.elim
  cases w <;> try exact q.elim
  exact ⟨_, _, Ow.str o1, Ow.int o2, q.1, aft_str a q.2⟩
theorem FznL.rep {K : PySem.W.Frag} {Fz : Addr → Prop} {H : Hp} {xs : List Val} {vs : List V} (l : FznL K Fz H xs vs) : ∀ n, FznL K Fz H (List.replicate n xs).flatten (List.replicate n vs).flatten
  | 0 => rfl
  | n + 1 => by
    rw [List.replicate_succ, List.replicate_succ, List.flatten_cons, List.flatten_cons]
    exact l.cat (FznL.rep l n)
theorem s_mulL {K : PySem.W.Frag} : S2 K rRep gMulL := by
  intro Fz H v w V W Qp Q' F o1 o2 q a
  unfold gMulL at q
  split at q
  · obtain ⟨f, l, vs, e1, _, h1, l1⟩ := o1
    cases Ow.int o2
    obtain ⟨⟨q1, q2, q3⟩, q4⟩ := q
    exact ⟨l, _, vs, e1, rfl, h1, q1, q2, by rw [l1.len]; exact q3, fun p hp => aft_lst F a (l1.rep _) hp q4⟩
  · exact q.elim
theorem q_muls (c : Ct X P w K mg base N W k) (a : QE X K W pn x px) (b : QE X K W pn y py) : QE X K W pn (.BinOp x .Mult y pos) (pOp gMulS px py) := q_op (r := fun _ => fun x y H Q => ∃ i k, x = V.str i ∧ y = V.int k ∧ MulOk i k ∧ Q (.str (Txt.mul i k)) H) c (fun X _ => op_mul_str) (fun K => s_mulS) a b
theorem q_mull (c : Ct X P w K mg base N W k) (a : QE X K W pn x px) (b : QE X K W pn y py) : QE X K W pn (.BinOp x .Mult y pos) (pOp gMulL px py) := q_op (r := fun _ => rRep) c (fun X _ => op_rep) (fun K => s_mulL) a b
/-! ### list.extend -/
def l_extend : GL := fun xs as k => match as with
  | [.lst _ ys] => xs.length + ys.length ≤ sizeLine ∧ k (xs ++ ys) .non
  | _ => False
end
end Qv
set_option Elab.async false
set_option linter.all false
set_option maxRecDepth 100000
set_option maxHeartbeats 4000000
namespace Qv
open PySem PySem.Spec PyProof.Rows L2
abbrev sx (l : List Nat) : Val := .str (tx l)
/-- letters below 128 -/
def As (l : List Nat) : Prop := ∀ c ∈ l, c < 128
theorem as_nil : As [] := fun _ h => by cases h
theorem as_cons {c : Nat} {l : List Nat} (h : c < 128) (t : As l) : As (c :: l) := fun x hx => by
  rcases List.mem_cons.mp hx with e | hx
  · rw [e]; exact h
  · exact t x hx
theorem as_app {a b : List Nat} (h : As a) (t : As b) : As (a ++ b) := fun x hx => (List.mem_append.mp hx).elim (h x) (t x)
theorem as_sub {a b : List Nat} (h : As b) (t : ∀ x ∈ a, x ∈ b) : As a := fun x hx => h x (t x hx)
theorem as_take {l : List Nat} {n : Nat} (h : As l) : As (l.take n) := as_sub h fun _ z => List.mem_of_mem_take z
theorem as_drop {l : List Nat} {n : Nat} (h : As l) : As (l.drop n) := as_sub h fun _ z => List.mem_of_mem_drop z
theorem as_cut {l : List Nat} {lo hi : Option Int} (h : As l) : As (cutL l lo hi) := as_take (as_drop h)
theorem bef_mem {c x : Nat} : ∀ {l : List Nat}, x ∈ befL c l → x ∈ l
  | [], h => h
  | y :: ys, h => by
    unfold befL at h
    split at h
    · cases h
    · rcases List.mem_cons.mp h with e | h
      · rw [e]; exact List.mem_cons_self
      · exact List.mem_cons_of_mem _ (bef_mem h)
theorem beh_mem {c x : Nat} : ∀ {l : List Nat}, x ∈ behL c l → x ∈ l
  | [], h => h
  | y :: ys, h => by
    unfold behL at h
    split at h
    · exact List.mem_cons_of_mem _ h
    · exact List.mem_cons_of_mem _ (beh_mem h)
theorem as_bef {l : List Nat} {c : Nat} (h : As l) : As (befL c l) := as_sub h fun _ z => bef_mem z
theorem as_beh {l : List Nat} {c : Nat} (h : As l) : As (behL c l) := as_sub h fun _ z => beh_mem z
theorem as_lt {l : List Nat} (h : As l) : Lt l := fun c hc => Nat.lt_of_lt_of_le (h c hc) (by decide)
theorem as_ok {l : List Nat} (h : As l) : PyData.strOk (tx l) = true := tx_ok (as_lt h)
theorem split_mem {c x : Nat} : ∀ {l : List Nat} {p : List Nat}, p ∈ splitL c l → x ∈ p → x ∈ l
  | [], p, h, hx => by
    simp [splitL] at h
    subst h
    cases hx
  | y :: ys, p, h, hx => by
    unfold splitL at h
    split at h
    · rcases List.mem_cons.mp h with e | h
      · subst e; cases hx
      · exact List.mem_cons_of_mem _ (split_mem h hx)
    · rcases List.mem_cons.mp h with e | h
      · subst e
        rcases List.mem_cons.mp hx with e | hx
        · rw [e]; exact List.mem_cons_self
        · refine List.mem_cons_of_mem _ ?_
          cases e2 : splitL c ys with
          | nil => exact absurd e2 (splitL_ne c ys)
          | cons q qs =>
            rw [e2] at hx
            exact split_mem (by rw [e2]; exact List.mem_cons_self) hx
      · exact List.mem_cons_of_mem _ (split_mem (List.mem_of_mem_tail h) hx)
theorem as_split {l p : List Nat} {c : Nat} (h : As l) (hp : p ∈ splitL c l) : As p := as_sub h fun _ z => split_mem hp z
/-! lengths -/
theorem tl_nil : ([] : List Nat).length ≤ 0 := Nat.le_refl _
theorem tl_cons {c n : Nat} {l : List Nat} (h : l.length ≤ n) : (c :: l).length ≤ n + 1 := Nat.succ_le_succ h
theorem tl_app {a b : List Nat} {n m : Nat} (h : a.length ≤ n) (t : b.length ≤ m) : (a ++ b).length ≤ n + m := by
  rw [List.length_append]
  omega
theorem tl_take {l : List Nat} {n m : Nat} (h : l.length ≤ m) : (l.take n).length ≤ m := by
  rw [List.length_take]
  omega
theorem tl_drop {l : List Nat} {n m : Nat} (h : l.length ≤ m) : (l.drop n).length ≤ m := by
  rw [List.length_drop]
  omega
theorem tl_cut {l : List Nat} {lo hi : Option Int} {m : Nat} (h : l.length ≤ m) : (cutL l lo hi).length ≤ m := tl_take (tl_drop h)
theorem bef_len (c : Nat) : ∀ l : List Nat, (befL c l).length ≤ l.length
  | [] => Nat.le_refl _
  | x :: xs => by
    unfold befL
    split
    · exact Nat.zero_le _
    · exact Nat.succ_le_succ (bef_len c xs)
theorem beh_len (c : Nat) : ∀ l : List Nat, (behL c l).length ≤ l.length
  | [] => Nat.le_refl _
  | x :: xs => by
    unfold behL
    split
    · exact Nat.le_succ _
    · exact Nat.le_succ_of_le (beh_len c xs)
theorem tl_bef {l : List Nat} {c m : Nat} (h : l.length ≤ m) : (befL c l).length ≤ m := Nat.le_trans (bef_len c l) h
theorem tl_beh {l : List Nat} {c m : Nat} (h : l.length ≤ m) : (behL c l).length ≤ m := Nat.le_trans (beh_len c l) h
theorem tl_map {l : List Nat} {f : Nat → Nat} {m : Nat} (h : l.length ≤ m) : (l.map f).length ≤ m := by rw [List.length_map]; exact h
/-! lists of texts -/
def XL (xs : List Val) (ms : List (List Nat)) : Prop := xs = ms.map sx
theorem xl_nil : XL [] [] := rfl
theorem xl_cons {xs : List Val} {ms : List (List Nat)} {l : List Nat} (h : XL xs ms) : XL (.str (tx l) :: xs) (l :: ms) := by
  unfold XL at *
  rw [h]
  rfl
theorem xl_map {ms : List (List Nat)} : XL (ms.map sx) ms := rfl
section
variable {W : PX} {env : Env} {R : Val → Prop} {Q : Res → Env → Prop} {r : Res} {a b l p : List Nat} {n m c : Nat} {o o' : Bool} {xs ys : List Val} {ms : List (List Nat)} {z : Int}
theorem r_addX (h1 : a.length ≤ n) (h2 : b.length ≤ m) (h3 : Nat.ble (n + m) 16777216 = true) (k : R (.str (tx (a ++ b)))) : gAdd (.str (tx a)) (.str (tx b)) R := by
  have h4 := Nat.le_of_ble_eq_true h3
  refine r_addS ?_ ?_
  · rw [tx_len, tx_len, sizeLine_eq]
    omega
  · rw [tx_app]
    exact k
theorem r_eqX (h1 : As a) (h2 : As b) (k : R (.bl (decide (a = b)))) : gEq (.str (tx a)) (.str (tx b)) R := r_eqS (as_ok h1) (as_ok h2) (by rw [tx_dec]; exact k)
theorem r_neX (h1 : As a) (h2 : As b) (k : R (.bl (!decide (a = b)))) : gNe (.str (tx a)) (.str (tx b)) R := r_neS (as_ok h1) (as_ok h2) (by rw [tx_dec]; exact k)
theorem r_lenX (h1 : a.length ≤ n) (h3 : Nat.ble n 16777216 = true) (k : R (.int (a.length : Int))) : gLen [.str (tx a)] R := by
  have h4 := Nat.le_of_ble_eq_true h3
  refine r_lenS ?_ ?_
  · rw [tx_len, sizeLine_eq]
    omega
  · rw [tx_len]
    exact k
theorem r_inX (k : R (.bl (decide (c ∈ l)))) : gIn false (.str (tx [c])) (.str (tx l)) R := by
  show R (.bl _)
  rw [show (if false = true then _ else _) = _ from if_neg (by decide), in_tx]
  exact k
theorem r_ninX (k : R (.bl (!decide (c ∈ l)))) : gIn true (.str (tx [c])) (.str (tx l)) R := by
  show R (.bl _)
  rw [show (if true = true then _ else _) = _ from if_pos rfl, in_tx]
  exact k
theorem any_xl (a : List Nat) : ∀ ms : List (List Nat), ((ms.map sx).any fun y => PyData.eqv y.dat (Val.str (tx a)).dat) = decide (a ∈ ms)
  | [] => rfl
  | m :: ms => by
    have e : PyData.eqv (sx m).dat (Val.str (tx a)).dat = decide (m = a) := by
      unfold sx
      rw [eqvS, tx_dec]
    rw [List.map_cons, List.any_cons, any_xl a ms, e]
    by_cases h : m = a
    · simp [h]
    · by_cases h2 : a ∈ ms
      · simp [h2]
      · have h3 : ¬ a = m := fun z => h z.symm
        simp [h, h2, h3]
theorem flat_xl : ∀ ms : List (List Nat), (ms.map sx).all Val.flat = true
  | [] => rfl
  | m :: ms => by
    rw [List.map_cons, List.all_cons, flat_xl ms]
    rfl
theorem r_inXT (h : XL xs ms) (k : R (.bl (decide (a ∈ ms)))) : gIn false (.str (tx a)) (.tup xs) R := by
  rw [show xs = _ from h]
  refine ⟨rfl, flat_xl ms, ?_⟩
  rw [if_neg (by decide), any_xl]
  exact k
theorem r_ninXT (h : XL xs ms) (k : R (.bl (!decide (a ∈ ms)))) : gIn true (.str (tx a)) (.tup xs) R := by
  rw [show xs = _ from h]
  refine ⟨rfl, flat_xl ms, ?_⟩
  rw [if_pos rfl, any_xl]
  exact k
theorem r_inXL (h : XL xs ms) (k : R (.bl (decide (a ∈ ms)))) : gIn false (.str (tx a)) (.lst o xs) R := by
  rw [show xs = _ from h]
  refine ⟨rfl, flat_xl ms, ?_⟩
  rw [if_neg (by decide), any_xl]
  exact k
theorem r_ninXL (h : XL xs ms) (k : R (.bl (!decide (a ∈ ms)))) : gIn true (.str (tx a)) (.lst o xs) R := by
  rw [show xs = _ from h]
  refine ⟨rfl, flat_xl ms, ?_⟩
  rw [if_pos rfl, any_xl]
  exact k
/-! slices -/
theorem cut_take {α : Type} (l : List α) (n : Nat) : cutL l none (some (OfNat.ofNat n : Int)) = l.take n := by
  show cutL l none (some (n : Int)) = _
  unfold cutL HT.sIx
  simp only [List.drop_zero, Nat.sub_zero]
  rw [if_neg (by omega)]
  by_cases h : n ≤ l.length
  · rw [show min (n : Int).toNat l.length = n by omega]
  · rw [show min (n : Int).toNat l.length = l.length by omega, List.take_length, List.take_of_length_le (by omega)]
theorem cut_drop {α : Type} (l : List α) (n : Nat) : cutL l (some (OfNat.ofNat n : Int)) none = l.drop n := by
  show cutL l (some (n : Int)) none = _
  unfold cutL HT.sIx
  simp only
  rw [if_neg (by omega)]
  by_cases h : n ≤ l.length
  · rw [show min (n : Int).toNat l.length = n by omega, List.take_of_length_le]
    rw [List.length_drop]
    omega
  · rw [show min (n : Int).toNat l.length = l.length by omega, List.drop_length, List.drop_of_length_le (by omega)]
    simp
theorem r_slX {lo hi : Option Int} (h : rd env r = some (.str (tx l))) (h1 : l.length ≤ n) (h3 : Nat.ble n 16777216 = true) (k : Q (.val (.str (tx (cutL l lo hi)))) env) : SlK r lo hi env Q := by
  unfold SlK
  rw [h]
  have h4 := Nat.le_of_ble_eq_true h3
  refine ⟨by rw [tx_len, sizeLine_eq]; omega, ?_⟩
  rw [cut_tx]
  exact k
theorem r_slXt {i : Nat} (h : rd env r = some (.str (tx l))) (h1 : l.length ≤ n) (h3 : Nat.ble n 16777216 = true) (k : Q (.val (.str (tx (l.take i)))) env) : SlK r none (some (OfNat.ofNat i : Int)) env Q :=
  r_slX h h1 h3 (by rw [cut_take]; exact k)
theorem r_slXd {i : Nat} (h : rd env r = some (.str (tx l))) (h1 : l.length ≤ n) (h3 : Nat.ble n 16777216 = true) (k : Q (.val (.str (tx (l.drop i)))) env) : SlK r (some (OfNat.ofNat i : Int)) none env Q :=
  r_slX h h1 h3 (by rw [cut_drop]; exact k)
theorem r_slLt {i : Nat} (h : rd env r = some (.lst o xs)) (k : Q (.val (.lst true (xs.take i))) env) : SlK r none (some (OfNat.ofNat i : Int)) env Q :=
  r_slL h (cut_take xs i) k
theorem r_slLd {i : Nat} (h : rd env r = some (.lst o xs)) (k : Q (.val (.lst true (xs.drop i))) env) : SlK r (some (OfNat.ofNat i : Int)) none env Q :=
  r_slL h (cut_drop xs i) k
/-! methods -/
def MsA (g : GS) (x : Str) (rs : List Res) (e : Env) (Q : Res → Env → Prop) : Prop := match rds e rs with
  | some vs => g x vs fun u => Q (.val u) e
  | none => False
def MsK (g : GS) (r : Res) (pa : PAr) (W : PX) (e : Env) (Q : Res → Env → Prop) : Prop := match r with
  | .val (.str x) => pa W e fun rs e2 => MsA g x rs e2 Q
  | _ => False
theorem r_ms {g : GS} {po : PEx} {pa : PAr} (k : po W env fun r e1 => MsK g r pa W e1 Q) : pMs g po pa W env Q := k
theorem r_msV {g : GS} {x : Str} {pa : PAr} (k : pa W env fun rs e2 => MsA g x rs e2 Q) : MsK g (.val (.str x)) pa W env Q := k
theorem r_msA {g : GS} {x : Str} {rs : List Res} {vs : List Val} (h : rds env rs = some vs) (k : g x vs fun u => Q (.val u) env) : MsA g x rs env Q := by
  unfold MsA
  rw [h]
  exact k
theorem r_split (h1 : l.length ≤ n) (h3 : Nat.ble (n + 2) 16777216 = true) (hc : Nat.ble (c + 1) 256 = true) (k : R (.lst true ((splitL c l).map sx))) : m_split (tx l) [.str (tx [c])] R := by
  have h4 := Nat.le_of_ble_eq_true h3
  have h5 := Nat.le_of_ble_eq_true hc
  refine ⟨by rw [tx_len]; rfl, by rw [tx_len, sizeLine_eq]; omega, ?_⟩
  rw [split_tx l (by omega), List.map_map]
  exact k
theorem bef_no {c : Nat} : ∀ {l : List Nat}, c ∉ l → befL c l = l
  | [], _ => rfl
  | x :: xs, h => by
    unfold befL
    rw [if_neg (fun e => h (by rw [e]; exact List.mem_cons_self)), bef_no fun z => h (List.mem_cons_of_mem _ z)]
theorem beh_no {c : Nat} : ∀ {l : List Nat}, c ∉ l → behL c l = []
  | [], _ => rfl
  | x :: xs, h => by
    unfold behL
    rw [if_neg (fun e => h (by rw [e]; exact List.mem_cons_self)), beh_no fun z => h (List.mem_cons_of_mem _ z)]
theorem r_part (h1 : l.length ≤ n) (h3 : Nat.ble n 16777216 = true) (k : R (.tup [.str (tx (befL c l)), .str (tx (if c ∈ l then [c] else [])), .str (tx (behL c l))])) : m_partition (tx l) [.str (tx [c])] R := by
  have h4 := Nat.le_of_ble_eq_true h3
  refine ⟨by rw [tx_len]; rfl, by rw [tx_len, sizeLine_eq]; omega, ?_⟩
  rw [part_tx]
  by_cases h : c ∈ l
  · rw [if_pos h] at k ⊢
    exact k
  · rw [if_neg h] at k ⊢
    rw [bef_no h, beh_no h] at k
    exact k
theorem strs_xl : ∀ ms : List (List Nat), strsOf (ms.map sx) = some (ms.map tx)
  | [] => rfl
  | m :: ms => by
    rw [List.map_cons, List.map_cons]
    show (strsOf (ms.map sx)).map _ = _
    rw [strs_xl ms]
    rfl
theorem sum_len : ∀ ms : List (List Nat), ((ms.map tx).map (·.length)).sum = (ms.map (·.length)).sum
  | [] => rfl
  | m :: ms => by
    simp only [List.map_cons, List.sum_cons, sum_len ms, tx_len]
theorem r_joinL {g : List Nat} (h : XL xs ms) (hz : (ms.map (·.length)).sum + ms.length * g.length ≤ 16777216) (k : R (.str (tx (joinL g ms)))) : m_join (tx g) [.lst o xs] R := by
  rw [show xs = _ from h]
  refine ⟨_, strs_xl ms, ?_, ?_⟩
  · rw [sum_len, List.length_map, tx_len]
    exact hz
  · rw [join_tx]
    exact k
theorem r_starts (k : R (.bl (decide (l.take p.length = p)))) : m_startswith (tx l) [.str (tx p)] R := by
  show R (.bl (Txt.startswith (tx l) (tx p)))
  rw [starts_tx]
  exact k
/-! the letters of a text -/
theorem r_anyX {Qi : List Val → Env → Prop} (k : Qi (l.map fun c => sx [c]) env) : AnyK (.str (tx l)) env Qi := r_anyK (items_tx l) k
end
/-! ### comprehensions over known rows -/
theorem lc_gen {α : Type} {pg : PGt} {pt : PTe} {pe : PEx} {own : List Nat} {as : List α} {env : Env} {Ql : List Val → Env → Prop} (mk : α → Val) (g : α → List Val) (hl : ∀ i, ((as.take i).flatMap g).length < sizeLine)
    (hs : ∀ a (acc : List Val) (Nx : List Val → Env → Prop), a ∈ as → acc.length < sizeLine → Nx (acc ++ g a) env → pg (mk a) env fun e1 => pt (fun _ _ => False) e1 fun b e2 => if b = true then pe (fun _ _ => False) e2 fun r e3 => esc r e3 fun v e4 => acc.length < sizeLine ∧ Nx (acc ++ [freeze v]) (wipeE e4 own) else Nx acc (wipeE e2 own))
    (hd : Ql (as.flatMap g) env) : pLcL pg pt pe own (as.map mk) [] env Ql := by
  refine lc_inv (fun i acc e => e = env ∧ acc = (as.take i).flatMap g) ⟨rfl, by simp⟩ ?_ ?_
  · rintro i x acc e Nx hx ⟨rfl, rfl⟩ hN
    rw [List.getElem?_map] at hx
    cases ha : as[i]? with
    | none =>
      rw [ha] at hx
      cases hx
    | some a =>
      rw [ha] at hx
      cases hx
      have hi := (List.getElem?_eq_some_iff.mp ha)
      obtain ⟨hi1, hi2⟩ := hi
      refine hs a _ Nx (List.mem_of_getElem? ha) (hl i) (hN _ _ ⟨rfl, ?_⟩)
      rw [List.take_succ, ha]
      simp
  · rintro acc e ⟨rfl, rfl⟩
    rw [List.length_map, List.take_length]
    exact hd
theorem fm_one {α β : Type} (f : α → β) : ∀ as : List α, as.flatMap (fun a => [f a]) = as.map f
  | [] => rfl
  | a :: as => by rw [List.flatMap_cons, fm_one f as]; rfl
theorem fm_filt {α β : Type} (p : α → Bool) (f : α → β) : ∀ as : List α, as.flatMap (fun a => if p a = true then [f a] else []) = (as.filter p).map f
  | [] => rfl
  | a :: as => by
    rw [List.flatMap_cons, fm_filt p f as]
    by_cases h : p a = true
    · rw [if_pos h, List.filter_cons_of_pos h]
      rfl
    · rw [if_neg h, List.filter_cons_of_neg h]
      rfl
theorem lc_map1 {α : Type} {pg : PGt} {pt : PTe} {pe : PEx} {own : List Nat} {as : List α} {env : Env} {Ql : List Val → Env → Prop} {mk : α → Val} (f : α → Val) {n : Nat} (hl : as.length ≤ n) (hb : Nat.ble (n + 1) 16777216 = true)
    (hs : ∀ a (acc : List Val) (Nx : List Val → Env → Prop), a ∈ as → acc.length < sizeLine → Nx (acc ++ [f a]) env → pg (mk a) env fun e1 => pt (fun _ _ => False) e1 fun b e2 => if b = true then pe (fun _ _ => False) e2 fun r e3 => esc r e3 fun v e4 => acc.length < sizeLine ∧ Nx (acc ++ [freeze v]) (wipeE e4 own) else Nx acc (wipeE e2 own))
    (hd : Ql (as.map f) env) : pLcL pg pt pe own (as.map mk) [] env Ql := by
  have h4 := Nat.le_of_ble_eq_true hb
  refine lc_gen mk (fun a => [f a]) (fun i => ?_) hs (by rw [fm_one]; exact hd)
  rw [fm_one, List.length_map, List.length_take, sizeLine_eq]
  omega
theorem lc_filt {α : Type} {pg : PGt} {pt : PTe} {pe : PEx} {own : List Nat} {as : List α} {env : Env} {Ql : List Val → Env → Prop} {mk : α → Val} (p : α → Bool) (f : α → Val) {n : Nat} (hl : as.length ≤ n) (hb : Nat.ble (n + 1) 16777216 = true)
    (hs : ∀ a (acc : List Val) (Nx : List Val → Env → Prop), a ∈ as → acc.length < sizeLine → (p a = true → Nx (acc ++ [f a]) env) → (p a = false → Nx acc env) → pg (mk a) env fun e1 => pt (fun _ _ => False) e1 fun b e2 => if b = true then pe (fun _ _ => False) e2 fun r e3 => esc r e3 fun v e4 => acc.length < sizeLine ∧ Nx (acc ++ [freeze v]) (wipeE e4 own) else Nx acc (wipeE e2 own))
    (hd : Ql ((as.filter p).map f) env) : pLcL pg pt pe own (as.map mk) [] env Ql := by
  have h4 := Nat.le_of_ble_eq_true hb
  refine lc_gen mk (fun a => if p a = true then [f a] else []) (fun i => ?_) (fun a acc Nx h1 h2 h3 => hs a acc Nx h1 h2 (fun e => ?_) fun e => ?_) (by rw [fm_filt]; exact hd)
  · rw [fm_filt, List.length_map, sizeLine_eq]
    have := List.length_filter_le p (as.take i)
    rw [List.length_take] at this
    omega
  · rw [if_pos e] at h3
    exact h3
  · rw [if_neg (by rw [e]; decide), List.append_nil] at h3
    exact h3
theorem own_nil {env : Env} : ownOk env [] := fun i h => by cases h
theorem own_consN {env : Env} {i : Nat} {is : List Nat} (h : env[i]? = some none) (t : ownOk env is) : ownOk env (i :: is) := fun j hj v hv => by
  rcases List.mem_cons.mp hj with e | hj
  · subst e
    rw [h] at hv
    cases hv
  · exact t j hj v hv
theorem own_consV {env : Env} {i : Nat} {is : List Nat} {u : Val} (h : env[i]? = some (some u)) (hu : u.owned = false) (t : ownOk env is) : ownOk env (i :: is) := fun j hj v hv => by
  rcases List.mem_cons.mp hj with e | hj
  · subst e
    rw [h] at hv
    cases hv
    exact hu
  · exact t j hj v hv
theorem r_own {env : Env} {own : List Nat} {B : Prop} (h : ownOk env own) (k : B) : ownOk env own ∧ B := ⟨h, k⟩
theorem r_yes {W : PX} {env : Env} {Q : Bool → Env → Prop} (k : Q true env) : pYes W env Q := k
theorem boolsOf_map {α : Type} (p : α → Bool) : ∀ as : List α, boolsOf (as.map fun a => .bl (p a)) = some (as.map p)
  | [] => rfl
  | a :: as => by
    rw [List.map_cons, List.map_cons]
    show (boolsOf (as.map fun a => .bl (p a))).map _ = _
    rw [boolsOf_map p as]
    rfl
theorem r_allB {α : Type} {p : α → Bool} {as : List α} {o : Bool} {R : Val → Prop} (k : R (.bl (as.all p))) : gAll [.lst o (as.map fun a => .bl (p a))] R := by
  unfold gAll
  simp only [boolsOf_map]
  rw [List.all_map]
  exact k
/-! ### repr of a text -/
theorem repr_tx (l : List Nat) : reprText (tx l) = tx (reprQuote (tx l) :: (l.flatMap (Builtin.Str.reprChar (reprQuote (tx l))) ++ [reprQuote (tx l)])) := by
  have aux : ∀ (q : Nat) (l a : List Nat), List.foldl (fun (out : Array Nat) c => out ++ (Builtin.Str.reprChar q c).toArray) a.toArray l = (a ++ l.flatMap (Builtin.Str.reprChar q)).toArray := by
    intro q l
    induction l with
    | nil => intro a; simp
    | cons x xs ih =>
      intro a
      rw [List.foldl_cons, show a.toArray ++ (Builtin.Str.reprChar q x).toArray = (a ++ Builtin.Str.reprChar q x).toArray by simp, ih]
      simp
  unfold reprText
  generalize reprQuote (tx l) = q
  have z := aux q l [q]
  unfold tx
  simp only [List.foldl_toArray] at z ⊢
  rw [z]
  simp
theorem quote_two (x : Str) : reprQuote x = 39 ∨ reprQuote x = 34 := by
  unfold reprQuote
  split
  · exact .inr rfl
  · exact .inl rfl
theorem rc_ok : ∀ q ∈ [39, 34], ∀ c < 128, (Builtin.Str.reprChar q c).length ≤ 4 ∧ ∀ d ∈ Builtin.Str.reprChar q c, d < 128 := by decide +kernel
theorem repr_ok {l : List Nat} {n : Nat} (h : As l) (hl : l.length ≤ n) : PyData.strOk (reprText (tx l)) = true ∧ (reprText (tx l)).length ≤ 4 * n + 2 := by
  have hq : reprQuote (tx l) ∈ [39, 34] := by rcases quote_two (tx l) with e | e <;> simp [e]
  rw [repr_tx]
  generalize reprQuote (tx l) = q at *
  have q1 : q < 128 := by
    rcases List.mem_cons.mp hq with e | e
    · omega
    · rcases List.mem_cons.mp e with e | e
      · omega
      · cases e
  have aux : ∀ l : List Nat, As l → As (l.flatMap (Builtin.Str.reprChar q)) ∧ (l.flatMap (Builtin.Str.reprChar q)).length ≤ 4 * l.length := by
    intro l
    induction l with
    | nil => exact fun _ => ⟨as_nil, Nat.le_refl _⟩
    | cons x xs ih =>
      intro h
      have ⟨i1, i2⟩ := ih fun c hc => h c (List.mem_cons_of_mem _ hc)
      have ⟨j1, j2⟩ := rc_ok q hq x (h x List.mem_cons_self)
      rw [List.flatMap_cons]
      refine ⟨as_app j2 i1, ?_⟩
      rw [List.length_append, List.length_cons]
      omega
  have ⟨a1, a2⟩ := aux l h
  refine ⟨as_ok (as_cons q1 (as_app a1 (as_cons q1 as_nil))), ?_⟩
  rw [tx_len, List.length_cons, List.length_append]
  show _ + 1 + 1 ≤ _
  omega
section
variable {W : PX} {env : Env} {R : Val → Prop} {Q : Res → Env → Prop} {r : Res} {a b l p : List Nat} {n m c : Nat} {o o' : Bool} {xs ys : List Val} {ms : List (List Nat)} {z : Int}
theorem r_reprX (h : As l) (hl : l.length ≤ n) (hb : Nat.ble (4 * n + 2) 16777216 = true) (k : R (.str (reprText (tx l)))) : gRepr [.str (tx l)] R := by
  have h4 := Nat.le_of_ble_eq_true hb
  have h5 := (repr_ok h hl).2
  exact ⟨rfl, rfl, rfl, by show PyData.depth (.str (tx l)) ≤ 100; simp [PyData.depth], by show (reprText (tx l)).length ≤ _; rw [sizeLine_eq]; omega, k⟩
def sNone : Str := PyData.shown .none
theorem r_reprN (k : R (.str sNone)) : gRepr [.non] R := ⟨rfl, rfl, rfl, by decide +kernel, by decide +kernel, k⟩
theorem none_ok : PyData.strOk sNone = true := by decide +kernel
theorem r_neSS {s : Str} (h : PyData.strOk s = true) (k : R (.bl false)) : gNe (.str s) (.str s) R := r_neS h h (by rw [decide_eq_true rfl]; exact k)
theorem r_eqSS {s : Str} (h : PyData.strOk s = true) (k : R (.bl true)) : gEq (.str s) (.str s) R := r_eqS h h (by rw [decide_eq_true rfl]; exact k)
end
/-! ### small letters -/
def low (c : Nat) : Nat := if 65 ≤ c ∧ c ≤ 90 then c + 32 else c
theorem low_of : ∀ c < 128, Unicode.lowerOf c = [low c] ∧ low c < 128 := by decide +kernel
theorem lower_tx {l : List Nat} (h : As l) : Txt.lower (tx l) = tx (l.map low) := by
  have e : Array.mapIdx (fun i c => ((fun i (_ : Nat) => Unicode.lowerAt l.toArray i) i c).toArray) l.toArray = (l.map fun c => #[low c]).toArray := by
    apply Array.ext
    · simp
    · intro i h1 h2
      have hi : i < l.length := by simpa using h1
      have z := (low_of l[i] (h _ (List.getElem_mem hi))).1
      have z2 : ¬ l[i] = 931 := by
        have := h _ (List.getElem_mem hi)
        omega
      simp [Unicode.lowerAt, hi, z, z2]
  have e2 : ((l.map fun c => #[low c]).toArray).flatten = (l.map low).toArray := by
    apply Array.toList_inj.mp
    rw [Array.toList_flatten]
    have aux : ∀ l : List Nat, (List.map (Array.toList ∘ fun c => #[low c]) l).flatten = List.map low l := by
      intro l
      induction l with
      | nil => rfl
      | cons x xs ih =>
        rw [List.map_cons, List.flatten_cons, ih]
        rfl
    simpa using aux l
  unfold Txt.lower placed tx
  rw [e, e2]
theorem as_low {l : List Nat} (h : As l) : As (l.map low) := fun c hc => by
  obtain ⟨d, hd, e⟩ := List.mem_map.mp hc
  rw [← e]
  exact (low_of d (h d hd)).2
/-! ### the last place of a letter -/
def lastIx (c : Nat) : List Nat → Option Nat
  | [] => none
  | x :: xs => match lastIx c xs with
    | some i => some (i + 1)
    | none => if x = c then some 0 else none
abbrev lastStep (s sub : Str) (hi : Nat) (p : Option Nat) (i : Nat) : Option Nat := if (decide (i + sub.length ≤ hi) && Builtin.Str.subAt s sub i) = true then some i else p
theorem last_fold (s sub : Str) (lo hi : Nat) : Builtin.Str.lastOccurrence s sub lo hi = (List.range' lo (hi + 1 - lo)).foldl (lastStep s sub hi) none := by
  unfold Builtin.Str.lastOccurrence
  have e : (fun (i : Nat) (p : Option Nat) => if (decide (i + sub.length ≤ hi) && Builtin.Str.subAt s sub i) = true then (pure (ForInStep.yield (some i)) : Id (ForInStep (Option Nat))) else pure (ForInStep.yield p)) = fun i p => pure (ForInStep.yield (lastStep s sub hi p i)) := by
    funext i p
    unfold lastStep
    split <;> rfl
  simp only [Std.Legacy.Range.forIn_eq_forIn_range', e, List.forIn_pure_yield_eq_foldl]
  simp [Std.Legacy.Range.size]
theorem last_one (l : List Nat) (c : Nat) : ∀ (k i : Nat) (p : Option Nat), i + k = l.length →
    (List.range' i (k + 1)).foldl (lastStep (tx l) (tx [c]) l.length) p = (match lastIx c (l.drop i) with
      | some j => some (i + j)
      | none => p)
  | 0, i, p, hk => by
    have e : i = l.length := by omega
    subst e
    have z : decide (l.length + 1 ≤ l.length) = false := decide_eq_false (by omega)
    have e1 : lastStep (tx l) (tx [c]) l.length p l.length = p := by
      unfold lastStep
      rw [tx_len, List.length_singleton, z]
      simp
    rw [List.range'_succ, List.foldl_cons, e1, List.drop_length]
    simp [lastIx]
  | k + 1, i, p, hk => by
    have hi : i < l.length := by omega
    have es : Builtin.Str.subAt (tx l) (tx [c]) i = decide (l[i] = c) := by
      rw [tx_sub]
      apply decide_eq_decide.mpr
      rw [List.drop_eq_getElem_cons hi]
      simp only [List.length_singleton, List.take_succ_cons, List.take_zero, List.cons.injEq, and_true]
    have e1 : lastStep (tx l) (tx [c]) l.length p i = if l[i] = c then some i else p := by
      unfold lastStep
      rw [es, tx_len, List.length_singleton, decide_eq_true (show i + 1 ≤ l.length by omega), Bool.true_and]
      simp
    rw [List.range'_succ, List.foldl_cons, e1, last_one l c k (i + 1) _ (by omega), List.drop_eq_getElem_cons hi]
    rw [show lastIx c (l[i] :: l.drop (i + 1)) = (match lastIx c (l.drop (i + 1)) with
      | some i => some (i + 1)
      | none => if l[i] = c then some 0 else none) from rfl]
    cases lastIx c (l.drop (i + 1)) with
    | some j =>
      show some _ = some _
      congr 1
      omega
    | none =>
      by_cases h : l[i] = c
      · simp [h]
      · simp [h]
theorem rfind_tx (l : List Nat) (c : Nat) : Txt.rfind (tx l) (tx [c]) = (match lastIx c l with
    | some j => (j : Int)
    | none => -1) := by
  unfold Txt.rfind
  rw [tx_len, last_fold]
  have z := last_one l c l.length 0 none (by omega)
  rw [List.drop_zero] at z
  rw [show l.length + 1 - 0 = l.length + 1 by omega, z]
  cases lastIx c l with
  | some j => simp
  | none => rfl
/-- up to the last c and with it -/
def upto (c : Nat) (l : List Nat) : List Nat := match lastIx c l with
  | some j => l.take (j + 1)
  | none => []
def lastL (c : Nat) (l : List Nat) : List Nat := ((splitL c l).getLast?).getD []
theorem splitL_eq (c : Nat) (xs : List Nat) : splitL c (c :: xs) = [] :: splitL c xs := if_pos rfl
theorem splitL_neq {c x : Nat} (e : ¬ x = c) (xs : List Nat) : splitL c (x :: xs) = (x :: (splitL c xs).headD []) :: (splitL c xs).tail := if_neg e
theorem lastIx_cons (c x : Nat) (xs : List Nat) : lastIx c (x :: xs) = (match lastIx c xs with
    | some i => some (i + 1)
    | none => if x = c then some 0 else none) := rfl
theorem splitL_last (c : Nat) : ∀ l : List Nat, upto c l ++ lastL c l = l ∧ (lastIx c l = none ↔ (splitL c l).tail = [])
  | [] => by simp [upto, lastIx, lastL, splitL]
  | x :: xs => by
    have ⟨h1, h2⟩ := splitL_last c xs
    have ne := splitL_ne c xs
    unfold upto lastL at *
    rw [lastIx_cons]
    by_cases e : x = c
    · subst e
      rw [splitL_eq]
      cases hs : splitL x xs with
      | nil => exact absurd hs ne
      | cons p ps =>
        rw [hs] at h1
        rw [List.getLast?_cons_cons]
        cases hl : lastIx x xs with
        | some j =>
          rw [hl] at h1
          refine ⟨?_, by simp⟩
          show List.take (j + 1 + 1) (x :: xs) ++ _ = _
          rw [List.take_succ_cons, List.cons_append]
          rw [show List.take (j + 1) xs ++ _ = xs from h1]
        | none =>
          rw [hl] at h1
          refine ⟨?_, by simp⟩
          show (match (if x = x then some 0 else none : Option Nat) with
            | some j => List.take (j + 1) (x :: xs)
            | none => []) ++ _ = _
          rw [if_pos rfl]
          show x :: (p :: ps).getLast?.getD [] = _
          rw [show (p :: ps).getLast?.getD [] = xs from h1]
    · rw [splitL_neq e]
      cases hs : splitL c xs with
      | nil => exact absurd hs ne
      | cons p ps =>
        rw [hs] at h1 h2
        rw [List.headD_cons, List.tail_cons]
        rw [List.tail_cons] at h2
        cases hl : lastIx c xs with
        | some j =>
          rw [hl] at h1 h2
          have np : ps ≠ [] := fun z => by
            have := h2.mpr z
            cases this
          cases ps with
          | nil => exact absurd rfl np
          | cons q qs =>
            rw [List.getLast?_cons_cons] at h1 ⊢
            refine ⟨?_, by simp⟩
            show List.take (j + 1 + 1) (x :: xs) ++ _ = _
            rw [List.take_succ_cons, List.cons_append]
            rw [show List.take (j + 1) xs ++ _ = xs from h1]
        | none =>
          rw [hl] at h1 h2
          have np : ps = [] := h2.mp rfl
          subst np
          refine ⟨?_, by simp [e]⟩
          show (match (if x = c then some 0 else none : Option Nat) with
            | some j => List.take (j + 1) (x :: xs)
            | none => []) ++ _ = _
          rw [if_neg e]
          show x :: p = _
          rw [show p = xs from h1]
theorem upto_len (c : Nat) (l : List Nat) : upto c l = l.take (l.length - (lastL c l).length) := by
  have z := (splitL_last c l).1
  have e : l.length = (upto c l).length + (lastL c l).length := by
    rw [← List.length_append, z]
  rw [e, Nat.add_sub_cancel]
  have z2 := congrArg (List.take (upto c l).length) z
  rw [List.take_left] at z2
  exact z2
theorem cut_takeN {α : Type} (l : List α) (n : Nat) : cutL l none (some (n : Int)) = l.take n := cut_take l n
theorem lastIx_head (c : Nat) (l : List Nat) : ∃ j, lastIx c (c :: l) = some j := by
  rw [lastIx_cons]
  cases lastIx c l with
  | some i => exact ⟨_, rfl⟩
  | none => exact ⟨0, if_pos rfl⟩
theorem upto_head (c : Nat) (l : List Nat) : upto c (c :: l) = c :: (upto c (c :: l)).drop 1 := by
  obtain ⟨j, hj⟩ := lastIx_head c l
  unfold upto
  rw [hj]
  rfl
theorem upto_mem {c x : Nat} {l : List Nat} (h : x ∈ upto c l) : x ∈ l := by
  unfold upto at h
  split at h
  · exact List.mem_of_mem_take h
  · cases h
theorem as_upto {l : List Nat} {c : Nat} (h : As l) : As (upto c l) := as_sub h fun _ z => upto_mem z
theorem tl_upto {l : List Nat} {c m : Nat} (h : l.length ≤ m) : (upto c l).length ≤ m := by
  unfold upto
  split
  · exact tl_take h
  · exact Nat.zero_le _
section
variable {R : Val → Prop} {l : List Nat} {c n j : Nat} {o o' : Bool}
theorem r_rf (h : lastIx c l = some j) (k : R (.int (j : Int))) : m_rfind (tx l) [.str (tx [c])] R := by
  show R (.int (Txt.rfind (tx l) (tx [c])))
  rw [rfind_tx, h]
  exact k
theorem r_lower (h : As l) (h1 : l.length ≤ n) (h3 : Nat.ble n 5592405 = true) (k : R (.str (tx (l.map low)))) : m_lower (tx l) [] R := by
  have h4 := Nat.le_of_ble_eq_true h3
  refine ⟨rfl, by rw [tx_len]; omega, ?_⟩
  rw [lower_tx h]
  exact k
theorem r_lower1 (h : c < 128) (k : R (.str (tx [low c]))) : m_lower (tx [c]) [] R := r_lower (l := [c]) (n := 1) (as_cons h as_nil) (Nat.le_refl _) rfl k
end
/-! rows of texts against an empty one -/
theorem cl_xl : ∀ {ms : List (List Nat)}, (∀ p ∈ ms, As p) → PyData.canLayAll0 (datL (ms.map sx)) = true
  | [], _ => rfl
  | m :: ms, h => by
    have z := cl_xl fun p hp => h p (List.mem_cons_of_mem _ hp)
    have z2 := as_ok (h m List.mem_cons_self)
    simp [datL, Val.dat, PyData.canLayAll0, PyData.canLay0, z, z2]
theorem dp_xl : ∀ ms : List (List Nat), PyData.depthAll (datL (ms.map sx)) ≤ 1
  | [] => by simp [datL, PyData.depthAll]
  | m :: ms => by
    have z := dp_xl ms
    simp only [List.map_cons, datL, Val.dat, PyData.depthAll, PyData.depth]
    omega
theorem nod_xl : ∀ ms : List (List Nat), nodL (ms.map sx) = true
  | [] => rfl
  | m :: ms => by simp [nodL, Val.nod, nod_xl ms]
theorem sh_xl {ms : List (List Nat)} {o : Bool} (h : ∀ p ∈ ms, As p) : SeqAt.shaped (Val.lst o (ms.map sx)).dat = true := by
  have z := dp_xl ms
  simp only [Val.dat, SeqAt.shaped, PyData.canLay0, PyData.depth, cl_xl h, Bool.and_eq_true, decide_eq_true_eq, true_and]
  try omega
theorem ea_xl : ∀ ms ns : List (List Nat), PyData.eqvAll (datL (ms.map sx)) (datL (ns.map sx)) = decide (ms = ns)
  | [], [] => rfl
  | [], m :: ms => rfl
  | m :: ms, [] => rfl
  | n :: ns, m :: ms => by
    have z := ea_xl ns ms
    have z2 := eqvS (tx n) (tx m)
    rw [tx_dec] at z2
    simp only [Val.dat] at z2
    simp only [List.map_cons, datL, Val.dat, PyData.eqvAll, z, z2]
    by_cases h : n = m
    · by_cases h2 : ns = ms
      · simp [h, h2]
      · simp [h, h2]
    · simp [h]
section
variable {R : Val → Prop} {xs ys : List Val} {ms ns : List (List Nat)} {o o' : Bool}
theorem r_eqXL (h : XL xs ms) (h2 : XL ys ns) (a : ∀ p ∈ ms, As p) (b : ∀ p ∈ ns, As p) (k : R (.bl (decide (ms = ns)))) : gEq (.lst o xs) (.lst o' ys) R := by
  rw [show xs = _ from h, show ys = _ from h2]
  refine r_eqv (by simp [Val.nod, nod_xl]) (by simp [Val.nod, nod_xl]) (sh_xl a) (sh_xl b) ?_ k
  simp only [Val.dat, PyData.eqv]
  exact ea_xl ms ns
theorem r_neXL (h : XL xs ms) (h2 : XL ys ns) (a : ∀ p ∈ ms, As p) (b : ∀ p ∈ ns, As p) (k : R (.bl (!decide (ms = ns)))) : gNe (.lst o xs) (.lst o' ys) R := by
  rw [show xs = _ from h, show ys = _ from h2]
  refine r_nev (by simp [Val.nod, nod_xl]) (by simp [Val.nod, nod_xl]) (sh_xl a) (sh_xl b) ?_ k
  simp only [Val.dat, PyData.eqv]
  exact ea_xl ms ns
theorem r_neC0 {l : List Nat} {p : Nat → Bool} (h : As l) (k : R (.bl (!(l.all fun c => !p c)))) : gNe (.lst o ((l.filter p).map fun c => sx [c])) (.lst o' []) R := by
  have e : (l.filter p).map (fun c => sx [c]) = ((l.filter p).map fun c => [c]).map sx := by rw [List.map_map]; rfl
  refine r_neXL (ms := (l.filter p).map fun c => [c]) (ns := []) e rfl (fun q hq => ?_) (fun q hq => by cases hq) ?_
  · obtain ⟨c, hc, e⟩ := List.mem_map.mp hq
    rw [← e]
    exact as_cons (h c (List.mem_filter.mp hc).1) as_nil
  · have e2 : decide ((l.filter p).map (fun c => [c]) = []) = l.all fun c => !p c := by
      rw [Bool.eq_iff_iff]
      simp
    rw [e2]
    exact k
end
/-! ### a letter of a text; texts times a number; rows of texts drawn -/
section
variable {R : Val → Prop} {l : List Nat} {z : Int} {xs : List Val}
theorem r_ixX (h0 : 0 ≤ z) (h1 : z < l.length) (hl : l.length ≤ 16777216) (k : ∀ c, c ∈ l → R (.str (tx [c]))) : gIx (.str (tx l)) (.int z) R := by
  have hz : z.toNat < l.length := by omega
  refine ⟨by rw [tx_len, sizeLine_eq]; exact hl, ?_⟩
  rw [tx_cps]
  have e : atI l z = some l[z.toNat] := by
    unfold atI ixN
    rw [if_pos h0, if_pos h1]
    simp [hz]
  rw [e]
  exact k _ (List.getElem_mem hz)
def mulT (l : List Nat) (n : Nat) : List Nat := (List.replicate n l).flatten
theorem mulT_len (l : List Nat) (n : Nat) : (mulT l n).length = n * l.length := by
  unfold mulT
  induction n with
  | zero => simp
  | succ n ih => rw [List.replicate_succ, List.flatten_cons, List.length_append, ih, Nat.succ_mul, Nat.add_comm]
theorem as_mul {l : List Nat} {n : Nat} (h : As l) : As (mulT l n) := as_sub h fun x hx => by
  unfold mulT at hx
  obtain ⟨p, hp, hx⟩ := List.mem_flatten.mp hx
  rw [(List.mem_replicate.mp hp).2] at hx
  exact hx
theorem mul_tx (l : List Nat) {z : Int} (h1 : 1 ≤ z) : Txt.mul (tx l) z = tx (mulT l z.toNat) := by
  unfold Txt.mul
  rw [if_neg (by omega)]
  by_cases h : z = 1 ∨ l.length = 0
  · have e : (z == 1 || (tx l).length == 0) = true := by
      rw [tx_len]
      rcases h with h | h <;> simp [h]
    rw [if_pos e]
    unfold mulT
    rcases h with h | h
    · subst h
      simp
    · have : l = [] := List.length_eq_zero_iff.mp h
      subst this
      congr 1
      induction z.toNat with
      | zero => rfl
      | succ n ih => rw [List.replicate_succ, List.flatten_cons, ← ih]; rfl
  · have e : ¬ (z == 1 || (tx l).length == 0) = true := by
      rw [tx_len]
      simpa [not_or] using h
    rw [if_neg e]
    have aux : ∀ (n : Nat) (a : List Nat), List.foldl (fun x1 x2 => x1 ++ x2) a.toArray (List.replicate n l.toArray) = (a ++ (List.replicate n l).flatten).toArray := by
      intro n
      induction n with
      | zero => intro a; simp
      | succ n ih =>
        intro a
        rw [List.replicate_succ, List.replicate_succ, List.foldl_cons, List.flatten_cons]
        rw [show a.toArray ++ l.toArray = (a ++ l).toArray by simp, ih]
        simp
    have z2 := aux z.toNat []
    unfold tx mulT
    simp only [List.nil_append] at z2
    rw [z2]
theorem r_mulS (h1 : 1 ≤ z) (h2 : z ≤ 1000) (hl : l.length ≤ 100) (k : R (.str (tx (mulT l z.toNat)))) : gMulS (.str (tx l)) (.int z) R := by
  refine ⟨⟨?_, fun _ _ => ?_, fun _ _ => ?_⟩, ?_⟩
  · rw [decide_eq_false (by omega), decide_eq_false (by omega)]
    rfl
  · rw [tx_len]
    have : 100 ≤ (2 ^ 63 - 1) / z := by
      rw [Int.le_ediv_iff_mul_le (by omega)]
      omega
    omega
  · rw [tx_len]
    have h3 : l.length * z.toNat ≤ 100 * 1000 := Nat.mul_le_mul hl (by omega)
    unfold Builtin.Str.tooLong
    simp only [decide_eq_false_iff_not, sizeLine_eq]
    omega
  · rw [mul_tx l h1]
    exact k
theorem r_mulL (h0 : 0 ≤ z) (h1 : z ≤ 1000) (h2 : xs.length ≤ 1000) (k : R (.lst true (List.replicate z.toNat xs).flatten)) : gMulL (.lst true xs) (.int z) R := by
  refine ⟨⟨by omega, by omega, ?_⟩, k⟩
  have h3 : xs.length * z.toNat ≤ 1000 * 1000 := Nat.mul_le_mul h2 (by omega)
  rw [sizeLine_eq]
  omega
end
def TX (n : Nat) (v : Val) : Prop := ∃ l, v = .str (tx l) ∧ As l ∧ l.length ≤ n
def TI (ws : List (List Nat)) (v : Val) : Prop := ∃ l, v = .str (tx l) ∧ l ∈ ws
/-! ### lists changed by their methods -/
section
variable {W : PX} {env : Env} {Q : Res → Env → Prop} {g : GL} {po : PEx} {pa : PAr} {i : Nat} {xs ys vs : List Val} {kk : List Val → Val → Prop} {v u : Val}
def LmA (g : GL) (r : Res) (pa : PAr) (W : PX) (e : Env) (Q : Res → Env → Prop) : Prop := match r with
  | .pl i => (match e[i]? with
    | some (some (.lst true _)) => pa W e fun rs e2 => escs rs e2 fun vs e3 => LmK g i vs e3 Q
    | _ => False)
  | _ => False
theorem r_lm (k : po W env fun r e1 => LmA g r pa W e1 Q) : pLm g po pa W env Q := k
theorem r_lmP (h : env[i]? = some (some (.lst true xs))) (k : pa W env fun rs e2 => escs rs e2 fun vs e3 => LmK g i vs e3 Q) : LmA g (.pl i) pa W env Q := by
  unfold LmA
  simp only [h]
  exact k
theorem r_lmK (h : env[i]? = some (some (.lst true xs))) (h2 : freezeL vs = ys) (k : g xs ys fun xs' u => Q (.val u) (env.set i (some (.lst true xs')))) : LmK g i vs env Q := by
  unfold LmK
  simp only [h, h2]
  exact k
theorem r_append (h : xs.length < sizeLine) (k : kk (xs ++ [v]) .non) : l_append xs [v] kk := ⟨h, k⟩
theorem r_pop (h : xs[xs.length - 1]? = some u) (k : kk xs.dropLast u) : l_pop xs [] kk := ⟨rfl, u, h, k⟩
end
end Qv
set_option Elab.async false
set_option linter.all false
set_option maxRecDepth 100000
set_option maxHeartbeats 4000000
namespace Qv
open PySem PySem.Spec PyProof.Rows L2
/-! ### numbers written in digits -/
theorem cps_ascii : ∀ l : List UInt8, (∀ b ∈ l, b.toNat < 128) → cpsOfBytes 0 0 l = l.map (·.toNat)
  | [], _ => by unfold cpsOfBytes; rfl
  | b :: t, h => by
    have h1 := h b List.mem_cons_self
    unfold cpsOfBytes
    rw [if_pos h1, cps_ascii t fun c hc => h c (List.mem_cons_of_mem _ hc)]
    rfl
theorem enc_ascii : ∀ l : List Char, (∀ c ∈ l, c.toNat < 128) → l.flatMap String.utf8EncodeChar = l.map fun c => UInt8.ofNat c.toNat
  | [], _ => rfl
  | c :: l, h => by
    have h1 : c.val.toNat ≤ 127 := Nat.le_of_lt_succ (h c List.mem_cons_self)
    rw [List.flatMap_cons, enc_ascii l fun d hd => h d (List.mem_cons_of_mem _ hd)]
    have e : String.utf8EncodeChar c = [UInt8.ofNat c.toNat] := by
      unfold String.utf8EncodeChar
      rw [if_pos h1]
      rfl
    rw [e]
    rfl
theorem ofString_ascii {l : List Char} (h : ∀ c ∈ l, c.toNat < 128) : Str.ofString (String.ofList l) = tx (l.map Char.toNat) := by
  unfold Str.ofString tx
  rw [String.toByteArray_ofList]
  unfold List.utf8Encode
  rw [enc_ascii l h]
  have e : ((l.map fun c => UInt8.ofNat c.toNat).toByteArray).data.toList = l.map fun c => UInt8.ofNat c.toNat := by simp
  rw [e, cps_ascii]
  · rw [List.map_map]
    congr 2
    apply List.map_congr_left
    intro c hc
    have := h c hc
    show (UInt8.ofNat c.toNat).toNat = c.toNat
    rw [UInt8.toNat_ofNat']
    exact Nat.mod_eq_of_lt (by omega)
  · intro b hb
    obtain ⟨c, hc, e⟩ := List.mem_map.mp hb
    have := h c hc
    rw [← e, UInt8.toNat_ofNat']
    have : c.toNat % 2 ^ 8 = c.toNat := Nat.mod_eq_of_lt (by omega)
    omega
/-- the digits of a number -/
def dg (n : Nat) : List Nat := (Nat.toDigits 10 n).map Char.toNat
theorem dchar : ∀ d < 10, (Nat.digitChar d).toNat = 48 + d := by decide
theorem dg_lt {n : Nat} (h : n < 10) : dg n = [48 + n] := by
  unfold dg
  rw [Nat.toDigits_of_lt_base h, List.map_cons, List.map_nil, dchar n h]
theorem dg_ge {n : Nat} (h : 10 ≤ n) : dg n = dg (n / 10) ++ [48 + n % 10] := by
  unfold dg
  rw [Nat.toDigits_of_base_le (by decide) h, List.map_append, List.map_cons, List.map_nil, dchar _ (Nat.mod_lt _ (by decide))]
theorem dg_mem (n : Nat) : ∀ c ∈ dg n, 48 ≤ c ∧ c ≤ 57 := by
  induction n using Nat.strongRecOn with
  | _ n ih =>
    by_cases h : n < 10
    · rw [dg_lt h]
      intro c hc
      rw [List.mem_singleton.mp hc]
      omega
    · rw [dg_ge (by omega)]
      intro c hc
      rcases List.mem_append.mp hc with hc | hc
      · exact ih (n / 10) (by omega) c hc
      · rw [List.mem_singleton.mp hc]
        omega
theorem as_dg (n : Nat) : As (dg n) := fun c hc => by have := dg_mem n c hc; omega
theorem str_nat (n : Nat) : Str.ofString (toString (n : Int)) = tx (dg n) := by
  show Str.ofString (toString n) = _
  show Str.ofString n.repr = _
  rw [Nat.repr_eq_ofList_toDigits, ofString_ascii]
  · rfl
  · intro c hc
    have := dg_mem n c.toNat (List.mem_map.mpr ⟨c, hc, rfl⟩)
    omega
theorem log_le {n : Nat} (h : n ≤ 1267650600228229401496703205376) : n.log2 < 1920 := Nat.lt_trans (log_of h) (by decide)
theorem r_strI {R : Val → Prop} {i : Int} (h0 : 0 ≤ i) (h1 : i ≤ 1267650600228229401496703205376) (k : R (.str (tx (dg i.toNat)))) : gStr [.int i] R := by
  refine ⟨log_le (by omega), ?_⟩
  have e : i = ((i.toNat : Nat) : Int) := by omega
  rw [e, str_nat]
  rw [← e] at *
  exact k
theorem dg_ne (n : Nat) : dg n ≠ [] := by
  by_cases h : n < 10
  · rw [dg_lt h]; simp
  · rw [dg_ge (by omega)]; simp
/-- the number that digits write -/
def vl (l : List Nat) : Nat := l.foldl (fun a c => a * 10 + (c - 48)) 0
theorem vl_snoc (l : List Nat) (c : Nat) : vl (l ++ [c]) = vl l * 10 + (c - 48) := by
  unfold vl
  rw [List.foldl_append]
  rfl
theorem vl_dg (n : Nat) : vl (dg n) = n := by
  induction n using Nat.strongRecOn with
  | _ n ih =>
    by_cases h : n < 10
    · rw [dg_lt h]
      show 0 * 10 + (48 + n - 48) = n
      omega
    · rw [dg_ge (by omega), vl_snoc, ih (n / 10) (by omega)]
      omega
def Dg (l : List Nat) : Prop := ∀ c ∈ l, 48 ≤ c ∧ c ≤ 57
theorem digit_of : ∀ c < 58, 48 ≤ c → NumText.digit? c = some (c - 48) := by decide
theorem digs_of (l : List Nat) (h : Dg l) : NumText.digits? 10 l = if l = [] then none else some (l.map fun c => c - 48).toArray := by
  have aux : ∀ (l : List Nat) (a : Array Nat) (b : Bool), Dg l → List.foldlM (NumText.step 10) (a, b) l = some ((a.toList ++ l.map fun c => c - 48).toArray, if l = [] then b else true) := by
    intro l
    induction l with
    | nil => intro a b _; simp
    | cons c l ih =>
      intro a b h
      have ⟨h1, h2⟩ := h c List.mem_cons_self
      have e : NumText.step 10 (a, b) c = some (a.push (c - 48), true) := by
        unfold NumText.step
        rw [if_neg (by simp; omega), digit_of c (by omega) h1]
        simp only
        rw [if_pos (by omega)]
      rw [List.foldlM_cons, e]
      show List.foldlM (NumText.step 10) (a.push (c - 48), true) l = _
      rw [ih _ _ fun d hd => h d (List.mem_cons_of_mem _ hd)]
      simp
  unfold NumText.digits?
  rw [aux l #[] false h]
  by_cases e : l = []
  · subst e; rfl
  · simp [e]
theorem blank_no : ∀ c < 58, 48 ≤ c → NumText.blank c = false := by decide
theorem core_of {l : List Nat} (h : Dg l) : NumText.core l = l := by
  have d1 : ∀ l : List Nat, Dg l → l.dropWhile NumText.blank = l := by
    intro l h
    cases l with
    | nil => rfl
    | cons c l =>
      have ⟨h1, h2⟩ := h c List.mem_cons_self
      rw [List.dropWhile_cons, blank_no c (by omega) h1]
      rfl
  have s1 : (NumText.sign l).2 = l := by
    cases l with
    | nil => rfl
    | cons c l =>
      have ⟨h1, h2⟩ := h c List.mem_cons_self
      unfold NumText.sign
      split
      · rename_i e; cases e; omega
      · rename_i e; cases e; omega
      · rfl
  unfold NumText.core
  rw [d1 l h, s1, d1 _ fun c hc => h c (List.mem_reverse.mp hc), List.reverse_reverse]
theorem int_tx {l : List Nat} (h : Dg l) (h0 : l ≠ []) (hl : l.length ≤ 640) : intText? (tx l) = some (vl l : Int) := by
  have e1 : numTextOf (tx l) = l := by
    unfold numTextOf
    rw [if_pos, tx_cps]
    unfold tx
    simp only [List.all_toArray, List.all_eq_true, decide_eq_true_eq]
    intro c hc
    have := h c hc
    omega
  have e2 : numSeenOf (tx l) = l := by
    unfold numSeenOf
    rw [e1]
    clear e1 hl h0
    induction l with
    | nil => rfl
    | cons c l ih =>
      have ⟨h1, h2⟩ := h c List.mem_cons_self
      rw [List.takeWhile_cons, if_pos (by simp; omega), ih fun d hd => h d (List.mem_cons_of_mem _ hd)]
  unfold intText?
  rw [e1, e2, core_of h, digs_of l h, if_neg h0]
  simp only [beq_self_eq_true, if_true, List.size_toArray, List.length_map]
  rw [if_pos (by omega)]
  have s : (NumText.sign (l.dropWhile NumText.blank)).1 = false := by
    cases l with
    | nil => rfl
    | cons c l =>
      have ⟨h1, h2⟩ := h c List.mem_cons_self
      rw [List.dropWhile_cons, blank_no c (by omega) h1]
      unfold NumText.sign
      split
      · rename_i e; cases e; omega
      · rename_i e; cases e; omega
      · rfl
  rw [s]
  unfold NumText.worth vl
  simp only [Bool.false_eq_true, if_false, List.foldl_toArray, List.foldl_map]
theorem r_intX {R : Val → Prop} {l : List Nat} (h : Dg l) (h0 : l ≠ []) (hl : l.length ≤ 640) (k : R (.int (vl l : Int))) : gInt [.str (tx l)] R :=
  ⟨_, int_tx h h0 hl, by rw [tx_len]; exact hl, k⟩
end Qv
set_option Elab.async false
set_option linter.all false
set_option maxRecDepth 100000
set_option maxHeartbeats 4000000
namespace Qv
open PySem PySem.Spec PyProof.Rows L2
section
variable {W : PX} {env : Env} {R : Val → Prop} {Q : Res → Env → Prop} {r : Res} {l : List Nat} {n : Nat} {i : Int} {x v : Val} {xs acc ys : List Val} {pg : PGt} {pt : PTe} {pe : PEx} {own : List Nat} {Ql : List Val → Env → Prop}
theorem r_absI (k : R (.int (if i < 0 then -i else i))) : gAbs [.int i] R := k
theorem r_lcN (k : Ql acc env) : pLcL pg pt pe own [] acc env Ql := k
theorem r_lcC (k : pg x env fun e1 => pt (fun _ _ => False) e1 fun b e2 => if b = true then pe (fun _ _ => False) e2 fun r e3 => esc r e3 fun v e4 => acc.length < sizeLine ∧ pLcL pg pt pe own xs (acc ++ [freeze v]) (wipeE e4 own) Ql else pLcL pg pt pe own xs acc (wipeE e2 own) Ql) : pLcL pg pt pe own (x :: xs) acc env Ql := k
theorem r_lcK (h : Nat.ble (acc.length + 1) 1000 = true) (h3 : freeze v = x) (h2 : acc ++ [x] = ys) (k : pLcL pg pt pe own xs ys env Ql) : acc.length < sizeLine ∧ pLcL pg pt pe own xs (acc ++ [freeze v]) env Ql := by
  have h4 := Nat.le_of_ble_eq_true h
  rw [h3, h2]
  refine ⟨?_, k⟩
  rw [sizeLine_eq]
  omega
/-! slices from behind -/
theorem cut_dropM {α : Type} (l : List α) (n : Nat) (h : n + 1 ≤ l.length) : cutL l (some (-((n : Int) + 1))) none = l.drop (l.length - (n + 1)) := by
  unfold cutL HT.sIx
  simp only
  rw [if_pos (by omega), show (-((n : Int) + 1) + (l.length : Int)).toNat = l.length - (n + 1) by omega, List.take_of_length_le]
  rw [List.length_drop]
  omega
end
/-- two digits -/
def d2 (n : Nat) : List Nat := [48 + n / 10 % 10, 48 + n % 10]
/-- three digits -/
def d3 (n : Nat) : List Nat := [48 + n / 100 % 10, 48 + n / 10 % 10, 48 + n % 10]
theorem as_d2 (n : Nat) : As (d2 n) := as_cons (by omega) (as_cons (by omega) as_nil)
theorem as_d3 (n : Nat) : As (d3 n) := as_cons (by omega) (as_d2 n)
theorem dg_two {n : Nat} (h : 10 ≤ n) (h2 : n < 100) : dg n = d2 n := by
  rw [dg_ge h, dg_lt (by omega)]
  unfold d2
  rw [show n / 10 % 10 = n / 10 by omega]
  rfl
theorem dg_three {n : Nat} (h : 100 ≤ n) (h2 : n < 1000) : dg n = d3 n := by
  rw [dg_ge (by omega), dg_two (by omega) (by omega)]
  unfold d2 d3
  rw [show n / 10 / 10 % 10 = n / 100 % 10 by omega]
  rfl
theorem two_cut {n : Nat} (h : n < 100) : cutL ([48] ++ dg n) (some (-2)) none = d2 n := by
  by_cases h1 : n < 10
  · rw [dg_lt h1, show (some (-2) : Option Int) = some (-(((1 : Nat) : Int) + 1)) from rfl, cut_dropM _ 1 (by simp)]
    unfold d2
    rw [show n / 10 % 10 = 0 by omega, show n % 10 = n by omega]
    rfl
  · rw [dg_two (by omega) h, show (some (-2) : Option Int) = some (-(((1 : Nat) : Int) + 1)) from rfl, cut_dropM _ 1 (by simp [d2])]
    rfl
theorem three_cut {n : Nat} (h : n < 1000) : cutL ([48, 48] ++ dg n) (some (-3)) none = d3 n := by
  by_cases h1 : n < 10
  · rw [dg_lt h1, show (some (-3) : Option Int) = some (-(((2 : Nat) : Int) + 1)) from rfl, cut_dropM _ 2 (by simp)]
    unfold d3
    rw [show n / 100 % 10 = 0 by omega, show n / 10 % 10 = 0 by omega, show n % 10 = n by omega]
    rfl
  · by_cases h2 : n < 100
    · rw [dg_two (by omega) h2, show (some (-3) : Option Int) = some (-(((2 : Nat) : Int) + 1)) from rfl, cut_dropM _ 2 (by simp [d2])]
      unfold d2 d3
      rw [show n / 100 % 10 = 0 by omega]
      rfl
    · rw [dg_three (by omega) h, show (some (-3) : Option Int) = some (-(((2 : Nat) : Int) + 1)) from rfl, cut_dropM _ 2 (by simp [d3])]
      rfl
theorem dg_len {n m : Nat} (h : n < 10 ^ m) (hm : 1 ≤ m) : (dg n).length ≤ m := by
  induction m generalizing n with
  | zero => omega
  | succ m ih =>
    by_cases h1 : n < 10
    · rw [dg_lt h1]
      exact hm
    · rw [dg_ge (by omega), List.length_append]
      have := ih (n := n / 10) (by rw [Nat.pow_succ] at h; omega) (by
        by_cases e : m = 0
        · subst e
          simp at h
          omega
        · omega)
      show _ + 1 ≤ _
      omega
end Qv
set_option Elab.async false
set_option linter.all false
set_option maxRecDepth 100000
set_option maxHeartbeats 4000000
namespace Qv
open PySem PySem.Spec PyProof.Rows L2
/-! ### repr of a tuple of numbers -/
def si : Int → List Nat
  | .ofNat n => dg n
  | .negSucc m => 45 :: dg (m + 1)
theorem str_int (i : Int) : Str.ofString (toString i) = tx (si i) := by
  cases i with
  | ofNat n => exact str_nat n
  | negSucc m =>
    show Str.ofString ("-" ++ (m + 1).repr) = _
    rw [show ("-" : String) = String.ofList ['-'] from rfl, Nat.repr_eq_ofList_toDigits, ← String.ofList_append, ofString_ascii]
    · rfl
    · intro c hc
      rcases List.mem_append.mp hc with hc | hc
      · rw [List.mem_singleton.mp hc]
        decide
      · have := dg_mem (m + 1) c.toNat (List.mem_map.mpr ⟨c, hc, rfl⟩)
        omega
theorem as_si (i : Int) : As (si i) := by
  cases i with
  | ofNat n => exact as_dg n
  | negSucc m => exact as_cons (by decide) (as_dg _)
theorem si_len {i : Int} {m : Nat} (h : i.natAbs < 10 ^ m) (hm : 1 ≤ m) : (si i).length ≤ m + 1 := by
  cases i with
  | ofNat n => exact Nat.le_succ_of_le (dg_len h hm)
  | negSucc k => exact Nat.succ_le_succ (dg_len h hm)
def Gt (n : Nat) (x : Str) : Prop := ∃ l, x = tx l ∧ As l ∧ l.length ≤ n
theorem Gt.app {n m : Nat} {x y : Str} (a : Gt n x) (b : Gt m y) : Gt (n + m) (x ++ y) := by
  obtain ⟨l, rfl, h1, h2⟩ := a
  obtain ⟨k, rfl, h3, h4⟩ := b
  exact ⟨l ++ k, tx_app l k, as_app h1 h3, tl_app h2 h4⟩
theorem Gt.mono {n m : Nat} {x : Str} (a : Gt n x) (h : n ≤ m) : Gt m x := by
  obtain ⟨l, e, h1, h2⟩ := a
  exact ⟨l, e, h1, Nat.le_trans h2 h⟩
theorem sep_g : Gt 2 (Str.ofString ", ") := ⟨[44, 32], by decide +kernel, by unfold As; decide, by decide⟩
theorem join_g {n : Nat} : ∀ ts : List Str, (∀ x ∈ ts, Gt n x) → Gt (ts.length * (n + 2)) ((Str.ofString ", ").join ts)
  | [], _ => ⟨[], by unfold Str.join; rfl, as_nil, by simp⟩
  | [x], h => by
    have a : Gt ([x].length * (n + 2)) x := (h x List.mem_cons_self).mono (by simp only [List.length_cons, List.length_nil]; omega)
    unfold Str.join
    exact a
  | x :: y :: l, h => by
    have ih := join_g (y :: l) fun z hz => h z (List.mem_cons_of_mem _ hz)
    have a := ((h x List.mem_cons_self).app sep_g).app ih
    unfold Str.join
    refine a.mono ?_
    simp only [List.length_cons, Nat.add_mul, Nat.one_mul]
    omega
theorem shown_ints : ∀ ns : List Int, PyData.shownAll (datL (ns.map Val.int)) = ns.map fun i => tx (si i)
  | [] => rfl
  | i :: ns => by
    have z := shown_ints ns
    simp only [List.map_cons, datL, Val.dat, PyData.shownAll, PyData.shown, z, str_int]
theorem rt_ok {ns : List Int} (hb : ∀ i ∈ ns, i.natAbs < 10 ^ 20) (hl : ns.length ≤ 100) : PyData.strOk (PyData.shown (Val.tup (ns.map Val.int)).dat) = true ∧ (PyData.shown (Val.tup (ns.map Val.int)).dat).length ≤ sizeLine := by
  have e : PyData.shown (Val.tup (ns.map Val.int)).dat = tupleText (ns.map fun i => tx (si i)) := by
    simp only [Val.dat, PyData.shown, shown_ints]
  have j := join_g (n := 21) (ns.map fun i => tx (si i)) fun x hx => by
    obtain ⟨i, hi, e⟩ := List.mem_map.mp hx
    exact ⟨si i, e.symm, as_si i, si_len (hb i hi) (by decide)⟩
  have g1 : Gt 1 (Str.ofString "(") := ⟨[40], by decide +kernel, by unfold As; decide, by decide⟩
  have g2 : ∀ c : Bool, Gt 2 (Str.ofString (if c = true then ",)" else ")")) := fun c => by
    cases c
    · exact ⟨[41], by decide +kernel, by unfold As; decide, by decide⟩
    · exact ⟨[44, 41], by decide +kernel, by unfold As; decide, by decide⟩
  have a := (g1.app j).app (g2 ((ns.map fun i => tx (si i)).length == 1))
  rw [e]
  obtain ⟨l, h1, h2, h3⟩ := a
  have h4 : tupleText (ns.map fun i => tx (si i)) = tx l := h1
  rw [h4]
  refine ⟨as_ok h2, ?_⟩
  rw [tx_len, sizeLine_eq]
  rw [List.length_map] at h3
  have : ns.length * (21 + 2) ≤ 100 * 23 := Nat.mul_le_mul_right _ hl
  omega
theorem showable_ints : ∀ {ns : List Int}, (∀ i ∈ ns, i.natAbs < 10 ^ 20) → PyData.showableAll (datL (ns.map Val.int)) = true
  | [], _ => rfl
  | i :: ns, h => by
    have z := showable_ints fun j hj => h j (List.mem_cons_of_mem _ hj)
    have hi := h i List.mem_cons_self
    have lg : i.natAbs.log2 < 1920 := log_le (Nat.le_of_lt (Nat.lt_trans hi (by decide)))
    simp [datL, Val.dat, PyData.showableAll, PyData.showable, z, lg]
theorem nodict_ints : ∀ ns : List Int, PyData.hasDictAll (datL (ns.map Val.int)) = false
  | [] => rfl
  | i :: ns => by simp [datL, Val.dat, PyData.hasDictAll, PyData.hasDict, nodict_ints ns]
theorem r_reprT {xs : List Val} {ns : List Int} {R : Val → Prop} (h : IL xs ns) (hb : ∀ i ∈ ns, i.natAbs < 10 ^ 20) (hl : ns.length ≤ 100) (k : R (.str (PyData.shown (Val.tup (ns.map Val.int)).dat))) : gRepr [.tup xs] R := by
  rw [show xs = _ from h]
  have z := dp_ints ns
  refine ⟨by simp [Val.nod, nod_ints], ?_, ?_, ?_, (rt_ok hb hl).2, k⟩
  · simp only [Val.dat, PyData.showable]
    exact showable_ints hb
  · simp only [Val.dat, PyData.hasDict]
    exact nodict_ints ns
  · simp only [Val.dat, PyData.depth]
    omega
end Qv
set_option Elab.async false
set_option linter.all false
set_option maxRecDepth 100000
set_option maxHeartbeats 4000000
namespace Qv
open PySem PySem.Spec PyProof.Rows L2
/-! ### the head's facts, and further checks -/
def okY (ex : List (PySem.W.Frag → Bool)) (K : PySem.W.Frag) : Bool := ex.all fun f => f K
structure SaysY (fa : List He.Fa) (fn : List He.DefD) (ex : List (PySem.W.Frag → Bool)) (K : PySem.W.Frag) : Prop where
  d : He.SaysD fa fn K
  x : okY ex K = true
theorem SaysY.ex {fa : List He.Fa} {fn : List He.DefD} {ex : List (PySem.W.Frag → Bool)} {K : PySem.W.Frag} (c : SaysY fa fn ex K) (i : Nat) {f : PySem.W.Frag → Bool} (h : ex[i]? = some f := by rfl) : f K = true :=
  List.all_eq_true.mp c.x f (List.mem_of_getElem? h)
abbrev AlY : Type := He.AlD × Bool
def obsYG (n : Nat) (fa : List He.Fa) (fn : List He.DefD) (ex : List (PySem.W.Frag → Bool)) (g : Addr → Option Obj) : AlY := (He.obsDG n fa fn g, okY ex (He.frG g (He.asD g n)))
def hookY (n : Nat) (fa : List He.Fa) (fn : List He.DefD) (ex : List (PySem.W.Frag → Bool)) : PySem.W.Hook where
  α := AlY
  obs := fun s => obsYG n fa fn ex s.heap.get?
  val := fun _ => (He.valD fn, true)
  says := fun _ h => ∃ K : PySem.W.Frag, K.In h ∧ SaysY fa fn ex K
  of := fun _ _ e => ⟨_, He.frG_in, ⟨congrArg (fun z : AlY => z.1) e, congrArg (fun z : AlY => z.2) e⟩⟩
  keeps := fun _ _ _ ⟨K, hK, c⟩ k => ⟨K, PySem.W.Frag.In.keeps hK k, c⟩
theorem obsYG_eq {n : Nat} {fa : List He.Fa} {fn : List He.DefD} {ex : List (PySem.W.Frag → Bool)} {g : Addr → Option Obj} {s : Shared} (h : ∀ a, g a = s.heap.get? a) : obsYG n fa fn ex g = (hookY n fa fn ex).obs s := by
  have e : g = s.heap.get? := funext h
  rw [e] <;> rfl
section
variable {ι : Type} {X : ι → Cx} {P : Program} {w : World} {K : PySem.W.Frag} {mg : Str → Option Value} {base : Heap} {N : List Str} {W : WX} {pn : List Nat} {k : Nat} {pos : Pos}
/-! ### the module's names for tuples of texts; for classes and defs -/
theorem fzn_txs (K : PySem.W.Frag) (Fz : Addr → Prop) (H : Hp) : ∀ ls : List (List Nat), FznL K Fz H (ls.map fun l => Val.str (tx l)) ((ls.map fun l => He.Dv.str (tx l)).map (He.Dv.v K))
  | [] => rfl
  | l :: ls => ⟨_, _, rfl, rfl, fzn_txs K Fz H ls⟩
theorem q_gtup (c : Ct X P w K mg base N W k) {n : Str} {vs : List Val} (ls : List (List Nat)) (hm : mg n = some (.ref (He.ga K n))) (ht : He.tupB K n (ls.map fun l => He.Dv.str (tx l)) = true) (hv : (ls.map fun l => Val.str (tx l)) = vs := by rfl)
    (hg : ∀ j, Gl (X j) n := by exact fun _ => rfl) (hd : (n == ("__debug__" : Str)) = false := by decide) : QE X K W pn (.Name n pos) (pC (.tup vs)) := by
  subst hv
  exact ⟨tC (.ref (He.ga K n)), true, fun j => pe_glob (v := .ref (He.ga K n)) (hg j) (by rw [c.hM j]; exact hm) rfl hd, sim_c fun Fz H => ⟨_, _, rfl, .inr fun H => He.tupB_ok ht H, fzn_txs K Fz H ls⟩⟩
theorem q_gglo (c : Ct X P w K mg base N W k) {n : Str} (hm : mg n = some (.ref (He.ga K n))) (hg : ∀ j, Gl (X j) n := by exact fun _ => rfl) (hd : (n == ("__debug__" : Str)) = false := by decide) : QE X K W pn (.Name n pos) (pC (.glo n)) :=
  ⟨tC (.ref (He.ga K n)), true, fun j => pe_glob (v := .ref (He.ga K n)) (hg j) (by rw [c.hM j]; exact hm) rfl hd, sim_c fun _ _ => rfl⟩
end
/-! ### own exception classes: what the written part must say -/
def oexB (K : PySem.W.Frag) (C : Addr) : Bool := match K.lookup C with
  | some ⟨.type "type", _, .cls cd, sl⟩ => (match cd.mro, sl.toList with
    | .ref C' :: bm, [_, _, _, _, some (.builtin n), _] => C' == C && n == "ValueError.__new__" && !cd.hasDel && cd.hasDict && PySem.HandSPX.refsVE bm
    | _, _ => false)
  | _ => false
theorem oexB_ok {K : PySem.W.Frag} {C : Addr} (q : oexB K C = true) : ∃ nm q N bs bm sn sub ab col dd k0 k1 k2 k3 k5, K.lookup C = some (excClassObj nm q C N bs bm true sn sub ab col dd k0 k1 k2 k3 k5 "ValueError.__new__") ∧ PySem.HandSPX.refsVE bm = true := by
  unfold oexB at q
  split at q
  · rename_i dd cd sl ho
    split at q
    · rename_i C' bm k0 k1 k2 k3 n k5 hm hs
      simp only [Bool.and_eq_true, beq_iff_eq, Bool.not_eq_true'] at q
      obtain ⟨⟨⟨⟨rfl, rfl⟩, hdel⟩, hd⟩, hr⟩ := q
      obtain ⟨nm, bs, mro, ns, qn, hd', sn, sub, ab, col, del⟩ := cd
      dsimp only at hm hdel hd
      subst hm hdel hd
      have hsl : sl = #[k0, k1, k2, k3, some (.builtin "ValueError.__new__"), k5] := by
        obtain ⟨l⟩ := sl
        simp only at hs
        rw [hs]
      subst hsl
      exact ⟨nm, qn, ns, bs, bm, sn, sub, ab, col, dd, k0, k1, k2, k3, k5, ho, hr⟩
    · cases q
  · cases q
def eqV (a b : Option (Option Value)) : Bool := decide (a = b)
/-- an own exception class over ValueError, whose fields fs its __init__ sets -/
def excB (x : Str) (fs : List Str) (K : PySem.W.Frag) : Bool :=
  oexB K (He.ga K x) && (eqV (PySem.W.findIn K (.ref (He.ga K x)) "__setattr__") (some (some (.builtin "object.__setattr__"))) && (decide (PySem.W.subIn K (.ref (He.ga K x)) (.type "BaseException") = some true) &&
    (decide (PySem.W.typeIn K (.ref (He.ga K x)) = some (.type "type")) && (PySem.W.keepIn K (.ref (He.ga K x)) && (xfB K (He.ga K x) &&
      (eqV (PySem.W.findIn K (.ref (He.ga K x)) "__class__") (some (some (.builtin "object.__class__"))) && (eqV (PySem.W.specialIn K (.builtin "object.__class__") "__get__") (some (some (.builtin "getset_descriptor.__get__"))) &&
        (decide (PySem.W.takesIn K (.builtin "object.__class__") = some true) && (decide (PySem.W.mroIn K (He.ga K x) (.type "object") = some true) && fs.all fun f => eqV (PySem.W.findIn K (.ref (He.ga K x)) f) (some none))))))))))
/-- .. and an __init__ of its own (or of its base) -/
def excIB (x : Str) (K : PySem.W.Frag) : Bool := eqV (PySem.W.findIn K (.ref (He.ga K x)) "__init__") (some (some (.ref (He.ma K (He.ga K x) "__init__")))) && decide (PySem.W.typeIn K (.ref (He.ma K (He.ga K x) "__init__")) = some (.type "function"))
structure ExC (K : PySem.W.Frag) (x : Str) (fs : List Str) : Prop where
  o : OexC K (He.ga K x)
  xf : XfC K (He.ga K x)
  ic : ExcC K (He.ga K x)
  nf : ∀ f ∈ fs, PySem.W.findIn K (.ref (He.ga K x)) f = some none
theorem excB_ok {x : Str} {fs : List Str} {K : PySem.W.Frag} (h : excB x fs K = true) : ExC K x fs := by
  unfold excB eqV at h
  simp only [Bool.and_eq_true, decide_eq_true_eq] at h
  obtain ⟨h1, h2, h3, h4, h5, h6, h7, h8, h9, h10, h11⟩ := h
  have xf := xfB_ok h6
  refine ⟨⟨oexB_ok h1, h2, h3, h4, h5⟩, xf, ⟨xf.ga, xf.gg, h3, xf.hdC, h7, h8, h9, h10⟩, fun f hf => ?_⟩
  exact of_decide_eq_true (List.all_eq_true.mp h11 f hf)
structure ExI (K : PySem.W.Frag) (x : Str) : Prop where
  i : PySem.W.findIn K (.ref (He.ga K x)) "__init__" = some (some (.ref (He.ma K (He.ga K x) "__init__")))
  t : PySem.W.typeIn K (.ref (He.ma K (He.ga K x) "__init__")) = some (.type "function")
theorem excIB_ok {x : Str} {K : PySem.W.Frag} (h : excIB x K = true) : ExI K x := by
  unfold excIB eqV at h
  simp only [Bool.and_eq_true, decide_eq_true_eq] at h
  exact ⟨h.1, h.2⟩
/-! ### __init__(self, f): self.f = f; of one field, of two -/
def exFs : List Str → List V → List (Str × V) := fun ns vs => ns.zip vs
def spXi (C : Addr) (fs : List Str) : Sp := fun vs H Q _ => ∃ (a : Addr) (ws : List V), vs = .ref a :: ws ∧ ws.length = fs.length ∧ H a = some (exo a C none) ∧
  ∀ dx, H dx = none → dx ≠ a → Q .non (upd (upd H dx (exd dx ((fs.zip ws).reverse))) a (exo a C (some dx)))
section
variable {P : Program} {w : World} {K : PySem.W.Frag} {mg : Str → Option Value} {base : Heap} {x qual f f2 : Str} {params : Arguments} {scope : Scope} {fa : Addr} {fd : FuncData} {p1 p2 p3 p4 q1 q2 q3 q4 : Pos}
theorem xi_one (T : ExC K x [f]) (F : FunD K "__init__" qual params [.Assign [.Attribute (.Name "self" p1) f p2] (.Name f p3) p4] scope [] [] fa fd) (S : FnScope ["self", f] ["self", f] scope) (hf1 : (f == ("__debug__" : Str)) = false) (hf2 : (f == ("__classdict__" : Str)) = false) (hv1 : scope.names.lookup ("self" : Str) = some NameKind.local) (hv2 : scope.names.lookup f = some NameKind.local)
    (hs : ∀ env : PySem.Env, swapsWith (.Name f p3) (some (.Attribute (.Name "self" p1) f p2)) p4.line env = pure false) :
    FnOk P w K mg base (fun _ _ _ _ _ _ => False) 1 fa fd ["self", f] (spXi (He.ga K x) [f]) := by
  refine F.ok S (fun vs H Q E h => ?_) fun cdv A outer s H vs Q E hr h => ⟨_, pss_one (ps_ost (pe_var (i := 0) rfl (.inl hv1)) (pe_var (i := 1) rfl (.inl hv2) hf1 hf2) (hs _)), ?_⟩
  · obtain ⟨a, ws, rfl, hl, _⟩ := h
    simp [hl]
  · obtain ⟨a, ws, rfl, hl, ha, k⟩ := h
    match ws, hl with
    | [v], _ =>
      refine ⟨v, rfl, .ref a, rfl, a, He.ga K x, rfl, T.o, T.nf f (by simp), .inl ⟨ha, fun dx h1 h2 => ?_⟩⟩
      exact k dx h1 h2
theorem xi_two (T : ExC K x [f, f2]) (F : FunD K "__init__" qual params [.Assign [.Attribute (.Name "self" p1) f p2] (.Name f p3) p4, .Assign [.Attribute (.Name "self" q1) f2 q2] (.Name f2 q3) q4] scope [] [] fa fd) (S : FnScope ["self", f, f2] ["self", f, f2] scope)
    (hf1 : (f == ("__debug__" : Str)) = false) (hf2 : (f == ("__classdict__" : Str)) = false) (hg1 : (f2 == ("__debug__" : Str)) = false) (hg2 : (f2 == ("__classdict__" : Str)) = false) (hv1 : scope.names.lookup ("self" : Str) = some NameKind.local) (hv2 : scope.names.lookup f = some NameKind.local) (hv3 : scope.names.lookup f2 = some NameKind.local)
    (hs : ∀ env : PySem.Env, swapsWith (.Name f p3) (some (.Attribute (.Name "self" p1) f p2)) p4.line env = pure false) (hs2 : ∀ env : PySem.Env, swapsWith (.Name f2 q3) (some (.Attribute (.Name "self" q1) f2 q2)) q4.line env = pure false) :
    FnOk P w K mg base (fun _ _ _ _ _ _ => False) 1 fa fd ["self", f, f2] (spXi (He.ga K x) [f, f2]) := by
  refine F.ok S (fun vs H Q E h => ?_) fun cdv A outer s H vs Q E hr h => ⟨_, pss_cons (ps_ost (pe_var (i := 0) rfl (.inl hv1)) (pe_var (i := 1) rfl (.inl hv2) hf1 hf2) (hs _)) (pss_one (ps_ost (pe_var (i := 0) rfl (.inl hv1)) (pe_var (i := 2) rfl (.inl hv3) hg1 hg2) (hs2 _))), ?_⟩
  · obtain ⟨a, ws, rfl, hl, _⟩ := h
    simp [hl]
  · obtain ⟨a, ws, rfl, hl, ha, k⟩ := h
    match ws, hl with
    | [v, u], _ =>
      refine ⟨v, rfl, .ref a, rfl, a, He.ga K x, rfl, T.o, T.nf f (by simp), .inl ⟨ha, fun dx h1 h2 => ?_⟩⟩
      refine ⟨u, rfl, .ref a, rfl, a, He.ga K x, rfl, T.o, T.nf f2 (by simp), .inr ⟨dx, [(f, v)], upd_same, ?_, by show 1 ≤ 900; omega, ?_⟩⟩
      · rw [upd_ne h2, upd_same]
      · have e : upd (upd (upd H dx (exd dx [(f, v)])) a (exo a (He.ga K x) (some dx))) dx (exd dx [(f2, u), (f, v)]) = upd (upd H dx (exd dx [(f2, u), (f, v)])) a (exo a (He.ga K x) (some dx)) := by
          funext b
          by_cases hb : b = dx
          · subst hb
            rw [upd_same, upd_ne h2, upd_same]
          · rw [upd_ne hb]
            by_cases hb2 : b = a
            · subst hb2
              rw [upd_same, upd_same]
            · rw [upd_ne hb2, upd_ne hb2, upd_ne hb, upd_ne hb]
        have z := k dx h1 h2
        show Q .non _
        rw [e]
        exact z
end
end Qv
set_option Elab.async false
set_option linter.all false
set_option maxRecDepth 100000
set_option maxHeartbeats 4000000
namespace Qv
open PySem PySem.Spec PyProof.Rows L2
/-! ### raise -/
/-- raise C(e, ..) -/
def pRaise (cls : Str) (fs : List Str) (pa : PAr) : PSt := fun W _ env => pa W env fun rs e1 => escs rs e1 fun vs e2 => vs.length = fs.length ∧ W ⟨cls, fs.reverse, (freezeL vs).reverse⟩ e2
section
variable {K : PySem.W.Frag} {Fz Fz' O : Addr → Prop} {H H' : Hp}
theorem FznL.app2 : ∀ {xs ys : List Val} {vs us : List V}, FznL K Fz H xs vs → FznL K Fz H ys us → FznL K Fz H (xs ++ ys) (vs ++ us)
  | [], _, _, _, h, h2 => by cases h; exact h2
  | x :: xs, ys, _, us, h, h2 => by
    obtain ⟨v, r, e, h1, h3⟩ := h
    subst e
    exact ⟨v, r ++ us, rfl, h1, FznL.app2 h3 h2⟩
theorem zip_rev {α β : Type} : ∀ {as : List α} {bs : List β}, as.length = bs.length → (as.zip bs).reverse = as.reverse.zip bs.reverse
  | [], [], _ => rfl
  | [], _ :: _, h => by cases h
  | _ :: _, [], h => by cases h
  | a :: as, b :: bs, h => by
    have h2 : as.length = bs.length := by simpa using h
    rw [List.zip_cons_cons, List.reverse_cons, List.reverse_cons, List.reverse_cons, zip_rev h2, List.zip_append (by simp [h2])]
    rfl
theorem freezeL_len : ∀ vs : List Val, (freezeL vs).length = vs.length
  | [] => rfl
  | v :: vs => by show (freezeL vs).length + 1 = vs.length + 1; rw [freezeL_len vs]
end
abbrev CXn : CXT := fun _ _ _ _ _ _ => False
section
variable {K : PySem.W.Frag} {W : WX} {pn : List Nat} {fl : Bool}
def tRaiseX (C : Addr) (fs : List Str) (W : WX) (tA : TA) : TS := fun _ σ H => tMkO C (spXi C fs) [] tA σ H fun cls d H' => W cls d σ H'
theorem sim_raise {tA : TA} {pA : PAr} {cls : Str} {fs : List Str} (hl : Nat.ble fs.length 900 = true) (ha : SimA K W pn fl tA pA) : SimS K W pn (tRaiseX (He.ga K cls) fs W tA) (pRaise cls fs pA) := by
  intro Wp D env σ H Fz O fp pv D' F P hp hx nx rt bk ct
  refine ha Wp env σ H Fz O fp pv _ _ F P hp hx fun rs e1 Vs H1 Fz1 fp1 f1 s k F1 r1 t q => ?_
  obtain ⟨vs, e2, Fz2, fp2, g, s2, k2, F2, o, u, q2⟩ := escs_ok F1 r1 t q
  have F3 := F2.frz u
  have l3 : FznL K (Fft Fz2 g) H1 (freezeL vs) Vs := OwL.frz (fun _ h => .inl h) vs Vs g (fun _ h => .inr h) o
  have s3 : Stp Fz2 H1 O (Fft Fz2 g) H1 := ⟨fun _ h => .inl h, fun _ _ => rfl⟩
  have hV : Vs.length = fs.length := by rw [l3.len, freezeL_len]; exact q2.1
  have hl' := Nat.le_of_ble_eq_true hl
  refine ⟨by omega, fun a hna => ⟨a, Vs, by rw [List.append_nil], hV, upd_same, fun dx h1 h2 => ?_⟩⟩
  have hdx : H1 dx = none := by rw [upd_ne h2] at h1; exact h1
  refine ⟨rfl, dx, (fs.zip Vs).reverse, upd_same, by rw [upd_ne h2, upd_same], hdx, ?_⟩
  have e : upd (del (upd (upd (upd H1 a (exo a (He.ga K cls) none)) dx (exd dx (fs.zip Vs).reverse)) a (exo a (He.ga K cls) (some dx))) a) dx (.xd (fs.zip Vs).reverse) = upd H1 dx (.xd (fs.zip Vs).reverse) := by
    funext b
    by_cases hb : b = dx
    · subst hb
      rw [upd_same, upd_same]
    · rw [upd_ne hb, upd_ne hb]
      by_cases ha : b = a
      · subst ha
        rw [del_same, hna]
      · rw [del_ne ha, upd_ne ha, upd_ne hb, upd_ne ha]
  rw [e]
  have n : Nw (Fft Fz2 g) H1 (Fft (Fft Fz2 g) [dx]) (upd H1 dx (.xd (fs.zip Vs).reverse)) [] := nw_f F3.tr hdx
  refine hx ⟨cls, fs.reverse, (freezeL vs).reverse⟩ e2 _ _ σ _ (Fft (Fft Fz2 g) [dx]) fp2 (((s.trans s2 fun _ h => h).trans s3 fun _ h => h).trans (F3.nwStp n) fun _ h => h) (F3.nw n) P ⟨rfl, dx, Vs.reverse, rfl, .inr (by simp), ?_, by simp [hV], ?_⟩ q2.2
  · rw [upd_same, zip_rev hV.symm]
  · exact (l3.rev).nw F3.tr n
end
section
variable {ι : Type} {X : ι → Cx} {P : Program} {w : World} {K : PySem.W.Frag} {mg : Str → Option Value} {base : Heap} {N : List Str} {W : WX} {pn : List Nat} {k : Nat} {pos p p2 : Pos} {e : Expr} {es : List Expr} {pa : PAr}
/-- C's __init__, as it stands in the text -/
structure XiOk (P : Program) (w : World) (K : PySem.W.Frag) (mg : Str → Option Value) (base : Heap) (x : Str) (fs : List Str) : Prop where
  T : ExC K x fs
  I : ExI K x
  G : ∃ (fd : FuncData) (ps : List Str), Binds K fd ps [] ∧ FnOk P w K mg base CXn 1 (He.ma K (He.ga K x) "__init__") fd ps (spXi (He.ga K x) fs)
theorem s_raise {cls : Str} {fs : List Str} (c : Ct X P w K mg base N W k) (G : XiOk P w K mg base cls fs) (hj : 2 ≤ k) (hm : mg cls = some (.ref (He.ga K cls))) (a : QA X K W pn (e :: es) pa) (hl : Nat.ble fs.length 900 = true := by rfl)
    (hg : ∀ j, Gl (X j) cls := by exact fun _ => rfl) (hdb : (cls == ("__debug__" : Str)) = false := by decide)
    (he : ∀ i, starEach (e :: es) (X i).env = (false, eval e (X i).env) :: starEach es (X i).env := by exact fun _ => rfl) (hpl : ∀ i, (backTo p2 (starEach es (X i).env)).any (·.1) = false := by exact fun _ => rfl) :
    QS X K W pn (.Raise (some (.Call (.Name cls p) (e :: es) [] p2)) none pos) (pRaise cls fs pa) := by
  obtain ⟨t, fl, a, a2⟩ := a
  obtain ⟨fd, ps, hb, F1⟩ := G.G
  refine ⟨_, fun i => ?_, sim_raise hl a2⟩
  obtain rfl := c.hP i
  obtain rfl := c.hw i
  obtain rfl := c.hK i
  obtain rfl := c.hM i
  obtain rfl := c.hB i
  exact ps_raise (c.calm i) (c.tk i) (pmk_oex (ds := []) (dvs := []) G.T.o G.I.i G.I.t F1 ((c.room i).mono hj) hb .nil (fun _ _ _ _ _ _ _ h => h.elim) (hg i) hm (a i) hdb (he i) (hpl i))
end
end Qv
set_option Elab.async false
set_option linter.all false
set_option maxRecDepth 100000
set_option maxHeartbeats 4000000
namespace Qv
open PySem PySem.Spec PyProof.Rows L2
/-! ### try: body / except x as n: suite, the exception tracked like other objects -/
theorem exv_tup {C d a : Addr} {xs : List V} : exv C d a ≠ .tup xs := fun z => by
  have z' : HO.ext _ = HO.tup xs := z
  cases z'
theorem exv_own {C d a x : Addr} : exv C d a ≠ .own x := fun z => by
  have z' : HO.ext _ = HO.own x := z
  cases z'
theorem exv_ok {P : Program} {w : World} {H : Hp} {h : Heap} {a C d : Addr} {oe : Obj} {vs : Array Value} (e : h.get? a = some oe) (hc : oe.cls = .ref C) (hd : oe.dict = some d) (hv : oe.data = .fields vs) : ObjOk P w H h a (exv C d a) :=
  ⟨⟨oe, vs, e, hc, hd, hv⟩, ⟨oe, e⟩, fun _ _ ⟨o, v, q, r⟩ k => ⟨o, v, k o q, r⟩⟩
theorem exv_at {P : Program} {w : World} {H : Hp} {h : Heap} {a C d : Addr} (x : HOk P w H h) (e : H a = some (exv C d a)) : ∃ (oe : Obj) (vs : Array Value), h.get? a = some oe ∧ oe.cls = .ref C ∧ oe.dict = some d ∧ oe.data = .fields vs := by
  have z : ObjOk P w H h a (.ext fun h => ∃ (oe : Obj) (vs : Array Value), h.get? a = some oe ∧ oe.cls = .ref C ∧ oe.dict = some d ∧ oe.data = .fields vs) := x a _ e
  exact z.1
/-- the context of an except suite -/
abbrev Cx.hot (X : Cx) (a : Addr) (pn : List (Addr × Obj)) : Cx := { X with A := X.A.mark (some (.ref a)), calm := false, pn := pn, xe := fun _ _ => False }
section
variable {X : Cx} {pins : List (Addr × Obj)} {σ : L2.St} {H : Hp} {s : Shared}
theorem Inv.hot (I : Inv X pins σ H s) {a C d : Addr} {oe : Obj} {vs : Array Value} (ha : s.heap.get? a = some oe) (hc : oe.cls = .ref C) (hdi : oe.dict = some d) (hd : oe.data = .fields vs) (na : H a = none) (nL : a ≠ X.env.locals) (n0 : X.s_0.heap.get? a = none) (nC : ∀ v, oe.data ≠ .cell v)
    (np : ∀ p ∈ X.pn ++ pins, p.1 ≠ a) : Inv (Qv.Cx.hot X a (X.pn ++ pins)) [] σ (upd H a (exv C d a)) s where
  ok := I.ok.suite a _
  os := I.os
  bare := I.bare
  base := {
    keep := I.base.keep
    slot := I.base.slot
    free := fun b o e n hx => by rw [upd_ne (fun z => by rw [z, n0] at e; cases e)]; exact I.base.free b o e n hx
    there := I.base.there
    tups := fun b xs e => by
      have q := I.base.tups b xs e
      rw [upd_ne (ne_of_none q na)]
      exact q
    frzs := fun b o u e => by
      have q := I.base.frzs b o u e
      rw [upd_ne (ne_of_none q na)]
      exact q
    tbls := fun b ps e => by
      obtain ⟨m, q⟩ := I.base.tbls b ps e
      exact ⟨m, by rw [upd_ne (ne_of_none q na)]; exact q⟩ }
  loc := I.loc
  cell := I.cell
  free := by
    show upd H a _ X.env.locals = none
    rw [upd_ne (Ne.symm nL)]
    exact I.free
  freeC := fun x c e => by
    have z : c ≠ a := fun z => by
      obtain ⟨v, o, e2, e3⟩ := I.cell x c e
      rw [z, ha] at e2
      cases e2
      exact nC _ e3
    rw [upd_ne z]
    exact I.freeC x c e
  pin := fun p hp => by
    have hp' : p ∈ X.pn ++ pins := by rw [List.append_nil] at hp; exact hp
    obtain ⟨e, n, ne, nf, dd⟩ := I.pin p hp'
    exact ⟨e, by rw [upd_ne (np p hp')]; exact n, ne, nf, dd⟩
  hok := fun b o e => by
    by_cases hb : b = a
    · subst hb
      rw [upd_same] at e
      cases e
      exact exv_ok ha hc hdi hd
    · rw [upd_ne hb] at e
      exact (I.hok b o e).stay (fun c v _ q => q) (fun c q => by rw [upd_ne (ne_of_none q na)]; exact q) fun c xs q => by rw [upd_ne (ne_of_none q na)]; exact q
  len := I.len
theorem Inv.unhot {a : Addr} {pn' : List (Addr × Obj)} (I : Inv (Qv.Cx.hot X a (X.pn ++ pins)) pn' σ H s) (ok : X.Ok) : Inv X pins σ H s :=
  ⟨ok, I.os, I.bare, I.base, I.loc, I.cell, I.free, I.freeC, fun p hp => I.pin p (List.mem_append_left _ hp), I.hok, I.len⟩
end
/-- what the clause wishes of an exception of the body -/
def wHot (K : PySem.W.Frag) (c : Value) (i : Nat) (ts : TS) (Wout : WX) (D : Ends) : WX := fun cls d σ H =>
  ∃ b, PySem.W.exmOne K cls c = some b ∧ (b = true → ∃ C dd, cls = .ref C ∧ d = some dd ∧ ∀ a, H a = none → ts { nx := fun σ' H' => D.nx (σ'.set i none) H', rt := D.rt, bk := fun σ' H' => D.bk (σ'.set i none) H', ct := fun σ' H' => D.ct (σ'.set i none) H' } (σ.set i (some (.ref a))) (upd H a (exv C dd a))) ∧
    (b = false → Wout cls d σ H)
section
variable {X : Cx} {x n : Str} {c : Value} {i : Nat} {body suite : List Stmt} {b₀ : Stmt} {np pos pos' : Pos} {tb : WX → TS} {ts : TS} {Wout : WX}
theorem ps_try_hot (hs : X.stack = X.env :: X.outer) (hf : X.env.frame = some X.env.locals) (hex : X.ex = []) (hN : X.N.Nodup) (hi : X.N[i]? = some n) (hln : X.env.kindOf n = some .local) (hc : Names X x c) (tk : Takes X Wout)
    (hb : ∀ (W : WX) (pn : List (Addr × Obj)) (xe : Value → Shared → Prop), Takes (X.tr pn xe) W → PassesOwn (model X.prog X.w) X.A X.env xe → PSs (X.tr pn xe) body (tb W))
    (hsu : ∀ (a : Addr) (pn : List (Addr × Obj)), PSs (Qv.Cx.hot X a pn) (b₀ :: suite) ts) :
    PS X (.Try body [.ExceptHandler (some (.Name x np)) (some n) (b₀ :: suite) pos'] [] [] pos) (fun D σ H => tb (wHot X.K c i ts Wout D) D σ H) := by
  refine ⟨fun pins s σ H D I h => ?_⟩
  have ok := I.ok
  have hfr : X.A.frames = some (X.env :: X.outer) := by rw [ok.frames, hs]
  have hloc : Loc X.env.scope n := .inl hln
  refine wpAny_Try_except ?_
  refine wpAny_mono ((hb (wHot X.K c i ts Wout D) (X.pn ++ pins) (fun e s₁ => wpAny (model X.prog X.w) X.A (noteFrame e X.env) (fun _ s₂ => wpAny (model X.prog X.w) X.A (setFlight e none) (fun _ s₃ =>
    wpAny (model X.prog X.w) X.A (handleBy e X.env [.ExceptHandler (some (.Name x np)) (some n) (b₀ :: suite) pos']) (SP X pins D) X.xe s₃) X.xe s₂) X.xe s₁) (fun u s' xx => ?_) PassesOwn.looking).run [] s σ H D (I.toTry _) h) (fun f s1 hsp => ?_) (fun e s1 he => he)
  · obtain ⟨a, B, sI, pins', σ', H', cls, d, rfl, J', nb, up, sky, na, os, ag, b, hb1, hyes, hno⟩ := xx
    have J : Inv X pins σ' H' sI := J'.ofTry ok
    have sky' : Sky B (X.env :: X.outer) a (Zc cls d) X.env.locals s'.heap := by rw [← hs]; exact sky
    show wpAny (model X.prog X.w) X.A (noteFrame (.ref a) X.env) _ _ _
    refine Sky.land Zc.steady hfr hf sky' fun h3 fl3 up3 => ?_
    have J3 : Inv X pins σ' H' { s' with heap := h3 } := J.landed nb fl3.1 (up.trans up3) os ag
    obtain ⟨oe3, vs3, he3, hz3, hd3⟩ := fl3.there
    have notFr : ∀ {h : Heap} {o : Obj} {vs : Array Value}, h.FunFrames B (X.env :: X.outer) → h.get? a = some o → o.data = .fields vs → a ∉ frs (X.env :: X.outer) := fun {h o vs} ff e dd hm => by
      obtain ⟨_, o', e', hnf⟩ := ff.mem hm
      rw [e] at e'; cases e'
      exact hnf _ dd
    have nfr := notFr fl3.2.2.1 he3 hd3
    have nL : a ≠ X.env.locals := fun z => nfr (List.mem_filterMap.mpr ⟨X.env, List.mem_cons_self, by rw [hf, z]⟩)
    have nF : a ∉ X.fs := fun hm => by
      obtain ⟨e, he, q⟩ := List.mem_filterMap.mp hm
      exact nfr (List.mem_filterMap.mpr ⟨e, List.mem_cons_of_mem _ he, q⟩)
    have nI : sI.heap.get? a = none := by
      cases q : sI.heap.get? a with
      | none => rfl
      | some o =>
        have z := nb a o q (by rw [hs]; exact nfr)
        rw [fl3.2.1] at z
        cases z
    have n0 : X.s_0.heap.get? a = none := by
      cases q : X.s_0.heap.get? a with
      | none => rfl
      | some o =>
        obtain ⟨o', z⟩ := J.base.there a o q (by rw [hex]; exact fun z => nomatch z)
        rw [nI] at z
        cases z
    have np0 : ∀ p ∈ X.pn ++ pins, p.1 ≠ a := fun p hp z => by
      have y := (J.pin p hp).1
      rw [z, nI] at y
      cases y
    have S3 := J3.suite he3 hd3 na nL nF
    refine wpAny_handleBy_cons (codeAny_handlers_test ?_) (by intro q; cases q)
    have LT : PySem.W.Looks (model X.prog X.w) h3 (typeOf (.ref a)) cls := fun A Q E s k q => wpAny_typeOf_ref (k _ _ he3) (by rw [hz3.1]; exact q)
    have LM := PySem.W.exm_one (M := model X.prog X.w) (J3.kIn) LT hb1
    have test : ∀ {Q : Value → Shared → Prop} {E : Value → Shared → Prop}, Q c { s' with heap := h3 } → wpAny (model X.prog X.w) (X.A.mark (some (.ref a))) (eval (.Name x np) X.env) Q E { s' with heap := h3 } := fun {Q E} q => by
      obtain ⟨hg, hdbg, hm | ⟨hm, hv, hnn⟩⟩ := hc
      · exact ld_glob (X := X.suite a ((a, oe3) :: (X.pn ++ pins))) S3 hg hm q hdbg
      · exact ld_blt (X := X.suite a ((a, oe3) :: (X.pn ++ pins))) S3 hg hm hv q hnn hdbg
    refine test (LM.here ?_)
    cases b with
    | true =>
      refine codeAny_handlers_suite_as ?_
      refine HandSPX.lands_againZ fl3 fun h4 fl4 up4 => ?_
      have J4 : Inv X pins σ' H' { s' with heap := h4 } := J.landed nb fl4.1 ((up.trans up3).trans up4) os ag
      obtain ⟨oe4, vs4, he4, hz4, hd4⟩ := fl4.there
      obtain ⟨C, dd, e1, e2, hy2⟩ := hyes rfl
      subst e1 e2
      have S4 := Inv.hot J4 he4 hz4.1 hz4.2 hd4 na nL n0 (fun v z => by rw [hd4] at z; cases z) np0
      refine store_ok (X := Qv.Cx.hot X a (X.pn ++ pins)) (v := .ref a) S4 hN hi hloc rfl (fun s5 S5 => ?_) (.inr hln)
      refine wpAny_mono ((hsu a (X.pn ++ pins)).run [] s5 _ _ _ S5 (hy2 a na)) (fun f s6 hsp => ?_) (fun _ _ z => False.elim z)
      have end_ : ∀ {σ6 : L2.St} {H6 : Hp} {Q : Shared → Prop}, Inv (Qv.Cx.hot X a (X.pn ++ pins)) [] σ6 H6 s6 → (∀ s7, Inv X pins (σ6.set i none) H6 s7 → Q s7) →
          wpAny (model X.prog X.w) X.A (do bindName X.env n .none; unbindBehindTheSuite X.env n pos') (fun _ s7 => Q s7) X.xe s6 := fun {σ6 H6 Q} S6 hq => gone_ok (Inv.unhot S6 ok) hN hi hln hq
      cases f with
      | next =>
        obtain ⟨σ6, H6, S6, q6⟩ := hsp
        exact end_ S6 fun s7 J7 => ⟨_, _, J7, q6⟩
      | brk =>
        obtain ⟨σ6, H6, S6, q6⟩ := hsp
        exact end_ S6 fun s7 J7 => ⟨_, _, J7, q6⟩
      | cont =>
        obtain ⟨σ6, H6, S6, q6⟩ := hsp
        exact end_ S6 fun s7 J7 => ⟨_, _, J7, q6⟩
      | ret u =>
        obtain ⟨v6, σ6, H6, S6, r6, q6⟩ := hsp
        exact end_ S6 fun s7 J7 => ⟨_, _, _, J7, r6, q6⟩
    | false =>
      show wpAny _ X.A (handleBy (.ref a) X.env []) _ _ _
      refine wpAny_handleBy_nil ?_
      obtain ⟨k1, k2, k3, oe, vs, T, oT, ts', he, hz, hd, h1, hr⟩ := id fl3
      unfold PySem.passOn
      refine wpAny_bind (wpAny_field he hd h1 ?_)
      rw [if_neg (show ¬ ((Value.ref T == Value.none) = true) from by simp)]
      have fin : wpAny (model X.prog X.w) X.A (setFlight (.ref a) X.env.frame) (fun _ s4 => wpAny (model X.prog X.w) X.A (throw (.ref a) : Sem Flow) (SP X pins D) X.xe s4) X.xe { s' with heap := h3 } := by
        rw [hf]
        refine HandSPX.setFlight_upZ fl3 fun h4 hh4 up4 => wpAny_throw (tk _ _ ?_)
        exact ⟨a, B, sI, pins, σ', H', cls, d, rfl, J, nb, (up.trans up3).trans up4, .inr (.inr (by rw [hs]; exact hh4)), na, os, ag, hno rfl⟩
      first
        | exact wpAny_bind (wpAny_pure (wpAny_bind fin))
        | exact wpAny_bind fin
  · cases f with
    | next =>
      obtain ⟨σ', H', J', q⟩ := hsp
      exact wpAny_execs_nil ⟨σ', H', J'.ofTry ok, q⟩
    | brk =>
      obtain ⟨σ', H', J', q⟩ := hsp
      exact ⟨σ', H', J'.ofTry ok, q⟩
    | cont =>
      obtain ⟨σ', H', J', q⟩ := hsp
      exact ⟨σ', H', J'.ofTry ok, q⟩
    | ret u =>
      obtain ⟨v, σ', H', J', r, q⟩ := hsp
      exact ⟨v, σ', H', J'.ofTry ok, r, q⟩
end
end Qv
set_option Elab.async false
set_option linter.all false
set_option maxRecDepth 100000
set_option maxHeartbeats 4000000
namespace Qv
open PySem PySem.Spec PyProof.Rows L2
/-! ### try .. except C as n -/
/-- tab: which classes the clause takes -/
def pTry (tab : List (Str × Bool)) (i : Nat) (pb ps : PSt) : PSt := fun W D env => pb (fun exc e1 => match tab.lookup exc.cls with
  | some true => i < e1.length ∧ ps (fun _ _ => False) ⟨fun e => D.nx (e.set i none), D.rt, fun e => D.bk (e.set i none), fun e => D.ct (e.set i none)⟩ (e1.set i (some (.exc exc.cls exc.ns exc.xs)))
  | some false => W exc e1
  | none => False) D env
section
variable {K : PySem.W.Frag} {Fz Fz' O : Addr → Prop} {H H' : Hp} {env : Env} {σ : L2.St} {fp : Nat → List Addr} {W : WX} {pn : List Nat}
theorem Fm.wip1 {i : Nat} {x : Option V} (F : Fm K Fz O H env σ fp) : Fm K Fz O H (env.set i none) (σ.set i x) (drp fp i) where
  len := by rw [List.length_set, List.length_set]; exact F.len
  sl := fun j w ej => by
    by_cases hj : i = j
    · subst hj
      have hi : i < env.length := by
        have z := (List.getElem?_eq_some_iff.mp ej).1
        rw [List.length_set] at z
        exact z
      rw [List.getElem?_set_self hi] at ej
      cases ej
    · rw [List.getElem?_set_ne hj] at ej
      obtain ⟨V2, s2, o2⟩ := F.sl j w ej
      refine ⟨V2, by rw [List.getElem?_set_ne hj]; exact s2, ?_⟩
      unfold drp
      rw [if_neg (fun q => hj q.symm)]
      exact o2
  dj := fun j k a h1 h2 => by
    unfold drp at h1 h2
    split at h1
    · cases h1
    · split at h2
      · cases h2
      · exact F.dj j k a h1 h2
  nd := fun j => by
    unfold drp
    split
    · exact List.nodup_nil
    · exact F.nd j
  nf := fun j a h => by
    unfold drp at h
    split at h
    · cases h
    · exact F.nf j a h
  fz := F.fz
  oo := F.oo
abbrev Wn : WX := fun _ _ _ _ => False
theorem sim_try {tb : WX → TS} {ts : TS} {pb ps : PSt} {tab : List (Str × Bool)} {cls : Str} {i : Nat} (hi : i ∉ pn) (ht : ∀ x b, tab.lookup x = some b → PySem.W.exmOne K (.ref (He.ga K x)) (.ref (He.ga K cls)) = some b)
    (hb : ∀ W' : WX, SimS K W' pn (tb W') pb) (hs : SimS K Wn pn ts ps) : SimS K W pn (fun D σ H => tb (wHot K (.ref (He.ga K cls)) i ts W D) D σ H) (pTry tab i pb ps) := by
  intro Wp D env σ H Fz O fp pv D' F P hp hx nx rt bk ct
  refine hb (wHot K (.ref (He.ga K cls)) i ts W D') _ D env σ H Fz O fp pv D' F P hp ?_ nx rt bk ct
  intro exc env' c d σ' H' Fz' fp' st F' P' xr wp
  have wp' : (match tab.lookup exc.cls with
    | some true => i < env'.length ∧ ps (fun _ _ => False) ⟨fun e => D.nx (e.set i none), D.rt, fun e => D.bk (e.set i none), fun e => D.ct (e.set i none)⟩ (env'.set i (some (.exc exc.cls exc.ns exc.xs)))
    | some false => Wp exc env'
    | none => False) := wp
  cases hl : tab.lookup exc.cls with
  | none => rw [hl] at wp'; exact wp'.elim
  | some b =>
    rw [hl] at wp'
    have hE := ht _ _ hl
    obtain ⟨ec, dd, vs, ed, zd, hd, hlen, lz⟩ := id xr
    cases b with
    | false => exact ⟨false, by rw [ec]; exact hE, (fun z => by cases z), fun _ => hx exc env' c d σ' H' Fz' fp' st F' P' xr wp'⟩
    | true =>
      refine ⟨true, by rw [ec]; exact hE, fun _ => ⟨He.ga K exc.cls, dd, ec, ed, fun a na => ?_⟩, (fun z => by cases z)⟩
      have n : Nw Fz' H' (Fft Fz' [a]) (upd H' a (exv (He.ga K exc.cls) dd a)) [] := nw_f F'.tr na
      have F2 := F'.nw n
      have ne : dd ≠ a := fun z => by rw [z, na] at hd; cases hd
      have ov : Ow K (Fft Fz' [a]) (upd H' a (exv (He.ga K exc.cls) dd a)) (.exc exc.cls exc.ns exc.xs) (.ref a) [] :=
        ⟨rfl, a, dd, vs, rfl, .inr (by simp), upd_same, .inl zd, by rw [upd_ne ne]; exact hd, hlen, lz.nw F'.tr n⟩
      have F3 := F2.set (i := i) ov .nil
      have s2 : Stp Fz H O (Fft Fz' [a]) (upd H' a (exv (He.ga K exc.cls) dd a)) := st.trans (F'.nwStp n) fun _ h => h
      refine hs (fun _ _ => False) _ _ _ _ _ O _ pv _ F3 (P'.set hi) wp'.2 (fun _ _ _ _ _ _ _ _ _ _ _ _ w => w.elim) ?_ ?_ ?_ ?_
      · intro e3 σ3 H3 Fz3 fp3 s3 F4 P4 q
        exact nx _ _ H3 Fz3 _ (s2.trans s3 fun _ h => h) F4.wip1 (P4.set hi) q
      · intro v V e3 σ3 H3 Fz3 fp3 ft s3 F4 P4 o t q
        exact rt v V e3 σ3 H3 Fz3 fp3 ft (s2.trans s3 fun _ h => h) F4 P4 o t q
      · intro e3 σ3 H3 Fz3 fp3 s3 F4 P4 q
        exact bk _ _ H3 Fz3 _ (s2.trans s3 fun _ h => h) F4.wip1 (P4.set hi) q
      · intro e3 σ3 H3 Fz3 fp3 s3 F4 P4 q
        exact ct _ _ H3 Fz3 _ (s2.trans s3 fun _ h => h) F4.wip1 (P4.set hi) q
end
/-! the families of contexts within: of the body, of the suite -/
abbrev TrI {ι : Type} (X : ι → Cx) (W : WX) : Type := {q : ι × List (Addr × Obj) × (Value → Shared → Prop) // Takes ((X q.1).tr q.2.1 q.2.2) W ∧ PassesOwn (model (X q.1).prog (X q.1).w) (X q.1).A (X q.1).env q.2.2}
abbrev trF {ι : Type} (X : ι → Cx) (W : WX) : TrI X W → Cx := fun q => (X q.1.1).tr q.1.2.1 q.1.2.2
abbrev hotF {ι : Type} (X : ι → Cx) : ι × Addr × List (Addr × Obj) → Cx := fun q => Qv.Cx.hot (X q.1) q.2.1 q.2.2
/-- what a rule may ask of the contexts of a suite -/
structure Ch {ι : Type} (X : ι → Cx) (P : Program) (w : World) (K : PySem.W.Frag) (mg : Str → Option Value) (base : Heap) (N : List Str) : Prop where
  hP : ∀ i, (X i).prog = P
  hw : ∀ i, (X i).w = w
  hK : ∀ i, (X i).K = K
  hM : ∀ i, (X i).mg = mg
  hB : ∀ i, (X i).base = base
  hN : ∀ i, (X i).N = N
  nd : N.Nodup
  hu : ∀ i, (X i).A.units + 200 < cLine
  gu : ∀ i, (X i).A.guards = some []
section
variable {ι : Type} {X : ι → Cx} {P : Program} {w : World} {K : PySem.W.Frag} {mg : Str → Option Value} {base : Heap} {N : List Str} {W : WX} {pn : List Nat} {k : Nat}
theorem Ct.ch (c : Ct X P w K mg base N W k) : Ch X P w K mg base N := ⟨c.hP, c.hw, c.hK, c.hM, c.hB, c.hN, c.nd, fun i => (c.cm i).hu, c.gu⟩
theorem Ct.tr (c : Ct X P w K mg base N W k) (W' : WX) : Ct (trF X W') P w K mg base N W' k :=
  ⟨fun j => c.hP j.1.1, fun j => c.hw j.1.1, fun j => c.hK j.1.1, fun j => c.hM j.1.1, fun j => c.hB j.1.1, fun j => c.hN j.1.1, c.nd, fun j => c.calm j.1.1, fun j => c.room j.1.1, fun j => c.gu j.1.1, fun j => j.2.1, fun j => j.2.2⟩
theorem Ct.hot (c : Ct X P w K mg base N W k) : Ch (hotF X) P w K mg base N :=
  ⟨fun j => c.hP j.1, fun j => c.hw j.1, fun j => c.hK j.1, fun j => c.hM j.1, fun j => c.hB j.1, fun j => c.hN j.1, c.nd, fun j => (c.cm j.1).hu, fun j => c.gu j.1⟩
theorem s_try {cls n : Str} {np pos pos' : Pos} {body suite : List Stmt} {b₀ : Stmt} {pb ps : PSt} (c : Ct X P w K mg base N W k) (tab : List (Str × Bool)) (i : Nat) (ht : ∀ x b, tab.lookup x = some b → PySem.W.exmOne K (.ref (He.ga K x)) (.ref (He.ga K cls)) = some b) (hm : mg cls = some (.ref (He.ga K cls)))
    (hb : ∀ W' : WX, QSs (trF X W') K W' pn body pb) (hs : QSs (hotF X) K Wn pn (b₀ :: suite) ps)
    (hi : i ∉ pn := by decide) (hn : N[i]? = some n := by rfl) (hst : ∀ j, (X j).stack = (X j).env :: (X j).outer := by exact fun _ => rfl) (hf : ∀ j, (X j).env.frame = some (X j).env.locals := by exact fun _ => rfl) (hex : ∀ j, (X j).ex = [] := by exact fun _ => rfl)
    (hln : ∀ j, (X j).env.kindOf n = some .local := by exact fun _ => rfl) (hg : ∀ j, Gl (X j) cls := by exact fun _ => rfl) (hdb : (cls == ("__debug__" : Str)) = false := by decide) :
    QS X K W pn (.Try body [.ExceptHandler (some (.Name cls np)) (some n) (b₀ :: suite) pos'] [] [] pos) (pTry tab i pb ps) := by
  obtain ⟨tb, hb⟩ := Classical.axiomOfChoice hb
  obtain ⟨ts, s1, s2⟩ := hs
  refine ⟨_, fun j => ?_, sim_try (tab := tab) (cls := cls) hi ht (fun W' => (hb W').2) s2⟩
  have z := ps_try_hot (X := X j) (x := cls) (n := n) (c := .ref (He.ga K cls)) (i := i) (body := body) (suite := suite) (b₀ := b₀) (np := np) (pos := pos) (pos' := pos') (tb := tb) (ts := ts) (Wout := W) (hst j) (hf j) (hex j) (by rw [c.hN j]; exact c.nd) (by rw [c.hN j]; exact hn) (hln j)
    ⟨hg j, hdb, .inl (by rw [c.hM j]; exact hm)⟩ (c.tk j) (fun W' pn' xe t1 t2 => (hb W').1 ⟨(j, pn', xe), t1, t2⟩) fun a pn' => s1 (j, a, pn')
  rw [c.hK j] at z
  exact z
end
/-! ### the fields of an exception -/
/-- e.f -/
def gFld (cs : List Str) (f : Str) : G1 := fun v Q => match v with
  | .exc C ns xs => C ∈ cs ∧ ns.length = xs.length ∧ (match (ns.zip xs).lookup f with
    | some u => Q u
    | none => False)
  | _ => False
def rXat (K : PySem.W.Frag) (f : Str) : V → Hp → VK → Prop := fun x H Q => ∃ a C d fs v, x = .ref a ∧ H a = some (exv C d a) ∧ H d = some (.xd fs) ∧ fs.lookup f = some v ∧ XfC K C ∧ PySem.W.findIn K (.ref C) f = some none ∧ Q v H
theorem pe_xat {X : Cx} {e : Expr} {te : TE} {pos : Pos} {n : Str} (he : PE X e te) (hb : attributeBase e n X.env (eval e X.env) = eval e X.env := by rfl) : PE X (.Attribute e n pos) (tUn (rXat X.K n) te) := by
  refine ⟨fun pins s σ H Q I h => ?_⟩
  refine attr_of hb (thn (he.run pins s σ H _ I h) fun u s1 hh => ?_)
  obtain ⟨x, H1, I1, rx, a, C, d, fs, v, ex, ea, ed, l, T, hno, q⟩ := hh
  subst ex
  obtain rfl : u = Value.ref a := rx
  obtain ⟨oe, vs, ho, hc, hdi, hd⟩ := exv_at I1.hok ea
  have hx : ObjOk X.prog X.w H1 s1.heap d (.xd fs) := I1.hok d _ ed
  obtain ⟨mA, hns, hr⟩ := hx
  obtain ⟨od, ho2, hl⟩ := lookIn_ns hns
  obtain ⟨u, hu, ru⟩ := RelO.some_of (v := v) (o := mA n) (by rw [← l]; exact hr n)
  have J : PySem.W.InstAt s1.heap a oe C (some od) := ⟨ho, hc, by unfold PySem.W.notCls; rw [hd] <;> rfl, by rw [hdi]; exact ho2⟩
  exact HandSPX.exc_get I1.kIn J T.ga T.gg T.exC (PySem.W.findObj_own T.hdC hno rfl (by rw [hl, hu])) (handed_of ru) ⟨v, H1, I1.tok _, ru, q⟩
section
variable {K : PySem.W.Frag} {Fz : Addr → Prop} {H : Hp}
theorem FznL.look {f : Str} : ∀ {ns : List Str} {xs : List Val} {vs : List V} {u : Val}, FznL K Fz H xs vs → (ns.zip xs).lookup f = some u → ∃ U, (ns.zip vs).lookup f = some U ∧ Fzn K Fz H u U
  | [], xs, vs, u, _, e => by cases xs <;> cases e
  | n :: ns, [], vs, u, _, e => by cases e
  | n :: ns, x :: xs, vs, u, h, e => by
    obtain ⟨v, r, ev, h1, h2⟩ := h
    subst ev
    rw [List.zip_cons_cons, List.lookup_cons] at e
    rw [List.zip_cons_cons, List.lookup_cons]
    cases q : (f == n) with
    | true =>
      rw [q] at e
      cases e
      exact ⟨v, rfl, h1⟩
    | false =>
      rw [q] at e
      exact FznL.look h2 e
theorem s_fld {cs : List Str} {f : Str} (hc : ∀ C ∈ cs, ∃ fs, ExC K C fs ∧ f ∈ fs) : S1 K (rXat K f) (gFld cs f) := by
  intro Fz H v V Qp Q' F o q a
  unfold gFld at q
  split at q
  · rename_i C ns xs
    obtain ⟨h1, h2, q⟩ := q
    obtain ⟨fs, T, hf⟩ := hc C h1
    obtain ⟨fo, o⟩ := o
    obtain ⟨_, b, d, vs, e, z, ha, zd, hd, hl, lz⟩ := o
    split at q
    · rename_i u hu
      obtain ⟨U, l1, l2⟩ := lz.look hu
      exact ⟨b, He.ga K C, d, _, U, e, ha, hd, l1, T.xf, T.nf f hf, a u U Fz H [] .refl l2.ow q⟩
    · exact q.elim
  · exact q.elim
end
section
variable {ι : Type} {X : ι → Cx} {P : Program} {w : World} {K : PySem.W.Frag} {mg : Str → Option Value} {base : Heap} {N : List Str} {W : WX} {pn : List Nat} {k : Nat} {x : Expr} {px : PEx} {pos : Pos}
theorem q_fld {f : Str} (cs : List Str) (c : Ct X P w K mg base N W k) (hc : ∀ C ∈ cs, ∃ fs, ExC K C fs ∧ f ∈ fs) (a : QE X K W pn x px) (hb : ∀ j, attributeBase x f (X j).env (eval x (X j).env) = eval x (X j).env := by exact fun _ => rfl) : QE X K W pn (.Attribute x f pos) (pUn (gFld cs f) px) := by
  obtain ⟨t, fl, a, a2⟩ := a
  exact ⟨_, _, fun i => c.hK i ▸ pe_xat (a i) (hb i), sim_un a2 (s_fld hc)⟩
theorem h_fld {f : Str} (cs : List Str) (c : Ch X P w K mg base N) (hc : ∀ C ∈ cs, ∃ fs, ExC K C fs ∧ f ∈ fs) (a : QE X K W pn x px) (hb : ∀ j, attributeBase x f (X j).env (eval x (X j).env) = eval x (X j).env := by exact fun _ => rfl) : QE X K W pn (.Attribute x f pos) (pUn (gFld cs f) px) := by
  obtain ⟨t, fl, a, a2⟩ := a
  exact ⟨_, _, fun i => c.hK i ▸ pe_xat (a i) (hb i), sim_un a2 (s_fld hc)⟩
/-- a name, in a suite -/
theorem h_var (c : Ch X P w K mg base N) (i : Nat) {n : Str} (hN : N[i]? = some n := by rfl) (hv : ∀ j, Vis (X j).env.scope n := by first | exact fun _ => Or.inl rfl | exact fun _ => Or.inr (Or.inl rfl) | exact fun _ => Or.inr (Or.inr rfl))
    (hd : (n == ("__debug__" : Str)) = false := by decide) (hcd : (n == ("__classdict__" : Str)) = false := by decide) : QE X K W pn (.Name n pos) (pVar i) :=
  ⟨tVar i, true, fun j => pe_var (by rw [c.hN j]; exact hN) (hv j) hd hcd, sim_var i⟩
end
end Qv
set_option Elab.async false
set_option linter.all false
set_option maxRecDepth 100000
set_option maxHeartbeats 4000000
namespace PySem.W
open PySem PySem.Spec PySem.Calls PyProof.Rows
section
variable {prog : Program} {w : World} {A : Around} {E : Value → Shared → Prop} {s : Shared} {K : Frag} {x D : Addr} {ox od : Obj}
theorem qv_findObj_dataS {C : Addr} {name : Str} {a g : Value} (hc : (clsIn K C).isSome = true) (ha : findIn K (.ref C) name = some (some a)) (hg : specialIn K a "__get__" = some (some g)) (ht : takesIn K a = some true) : findObj K C (some od) name = some (.bind g a) := by
  obtain ⟨cd, hc⟩ := Option.isSome_iff_exists.mp hc
  unfold findObj
  rw [hc, Option.bind_some, ha, Option.bind_some]
  simp [hg, ht]
theorem qv_kin_classE {Q : Option Value → Shared → Prop} (hga : findIn K (.ref D) "__getattribute__" = some (some (.builtin "BaseException.__getattribute__"))) (hgt : findIn K (.ref D) "__getattr__" = some none) (hsub : subIn K (.ref D) (.type "BaseException") = some true)
    (hdct : hasDictIn K D = true) (ha : findIn K (.ref D) "__class__" = some (some (.builtin "object.__class__")))
    (hn : specialIn K (.builtin "object.__class__") "__get__" = some (some (.builtin "getset_descriptor.__get__"))) (htk : takesIn K (.builtin "object.__class__") = some true) (hm : mroIn K D (.type "object") = some true)
    (X : K.In s.heap) (I : InstAt s.heap x ox D (some od)) (h : Q (some (.ref D)) { s with toks := s.toks + 1 }) : wpAny (model prog w) A (getAttr? (.ref x) "__class__") Q E s := by
  have hf : findObj K D (some od) "__class__" = some (.bind (.builtin "getset_descriptor.__get__") (.builtin "object.__class__")) := qv_findObj_dataS (by obtain ⟨cd, hc, _⟩ := any_some hdct; rw [hc]; rfl) ha hn htk
  obtain ⟨hp, g, d, t, os⟩ := s
  have L0 := I.type (M := model prog w)
  have L1 := looks_findIn (M := model prog w) X hga
  have L2 := looks_findIn (M := model prog w) X hgt
  have L3 := looks_find (M := model prog w) X I hf
  have sub : Looks (model prog w) hp (isInstance (.ref x) (.type "BaseException")) true := L0.andThen (looks_subIn X hsub)
  have hx0 : (false && onTheHeap (Value.builtin "BaseException.__getattribute__")) = false := rfl
  have hx2 : (Value.builtin "BaseException.__getattribute__" == Value.builtin "object.__getattribute__") = false := by decide +kernel
  have hx1 : (onTheHeap (Value.ref D) && Value.builtin "BaseException.__getattribute__" == Value.builtin "object.__getattribute__") = false := by rw [hx2]; rfl
  unfold getAttr? getAttrBy? getAttrBy
  refine wpAny_bind (wpAny_mkText (wpAny_bind (wpAny_attempt (wpAny_holding (wpAny_bind (L0.at (wpAny_bind (L1.at ?_))))))))
  show wpAny _ _ (if (onTheHeap (Value.ref D) && Value.builtin "BaseException.__getattribute__" == Value.builtin "object.__getattribute__") = true then _ else _) _ _ _
  rw [hx1, if_neg Bool.false_ne_true]
  unfold getAttrByItsOwn hookBefore
  refine wpAny_bind ?_
  rw [if_pos (show onTheHeap (Value.ref D) = true from rfl)]
  refine L2.at ?_
  refine wpAny_bind (wpAny_attempt (wpAny_holding ?_))
  unfold callGetattribute
  rw [hx0, if_neg Bool.false_ne_true]
  unfold boundAndCalled
  rw [PySem.F.excAttr_ValueError.ga.bind (.ref x)]
  refine wpAny_bind (wpAny_pure ?_)
  show wpAny _ _ (call (.builtin "BaseException.__getattribute__") [.ref x, .str "__class__" t]) _ _ _
  refine wpAny_call (codeAny_call_builtin PySem.F.excAttr_ValueError.ga.plain PySem.F.entry_bexc_ga ?_)
  refine @check_slot (model prog w) _ _ ⟨hp, g, d, t + 1, os⟩ "BaseException.__getattribute__" "BaseException" "__getattribute__" (.ref x) [.str "__class__" t] [] _ (by decide +kernel) (by decide +kernel) sub (PySem.F.args_bexc_ga (.ref x) (.str "__class__" t)) ?_
  unfold Builtin.«object.__getattribute__»
  refine wpAny_bind (wpAny_of_eq (a := ((Value.ref x : Value), [Value.str "__class__" t])) (by first | rfl | (simp only [slotArgs]; rfl)) ?_)
  refine wpAny_bind (wpAny_pure (wpAny_bind (L0.at (wpAny_bind (L3.at ?_)))))
  show wpAny _ _ (holding [Value.builtin "object.__class__"] (call (.builtin "getset_descriptor.__get__") [.builtin "object.__class__", .ref x, .ref D]) >>= ret) _ _ _
  refine wpAny_bind (wpAny_holding (wpAny_call (class_get (s := ⟨hp, g, d, t + 1, os⟩) (ox := ox) (od := some od) X I hm ?_)))
  refine wpAny_pure ?_
  show wpAny _ _ (handedOut (.ref D)) _ _ _
  rw [handedOut_of (v := .ref D) rfl]
  first
    | exact wpAny_pure (wpAny_pure h)
    | exact wpAny_pure h
    | exact wpAny_pure (wpAny_bind (wpAny_pure (wpAny_pure h)))
theorem qv_kitx_exc (hga : findIn K (.ref D) "__getattribute__" = some (some (.builtin "BaseException.__getattribute__"))) (hgt : findIn K (.ref D) "__getattr__" = some none) (hsub : subIn K (.ref D) (.type "BaseException") = some true) (hdct : hasDictIn K D = true) (ha : findIn K (.ref D) "__class__" = some (some (.builtin "object.__class__")))
    (hn : specialIn K (.builtin "object.__class__") "__get__" = some (some (.builtin "getset_descriptor.__get__"))) (htk : takesIn K (.builtin "object.__class__") = some true) (hm : mroIn K D (.type "object") = some true) :
    KitX K (.ref x) (.ref D) (fun h => InstAt h x ox D (some od)) where
  ty := fun _ _ _ I => I.type
  it := fun _ _ X _ => by
    obtain ⟨cdD, hcD, _⟩ := any_some hdct
    unfold clsIn at hcD
    split at hcD
    · rename_i c' d' cd' sl' ho
      intro A' Q' E' s' k q
      unfold isType loadHead
      exact wpAny_bind (wpAny_loadPart (k _ _ (X _ _ ho)) (wpAny_pure q))
    · cases hcD
  ne := fun h tp dd its n sl X htp => by
    obtain ⟨cdD, hcD, _⟩ := any_some hdct
    refine Bool.eq_false_iff.mpr fun q => ?_
    have e : D = tp := Value.ref.inj (beq_iff_eq.mp q)
    subst e
    unfold clsIn at hcD
    split at hcD
    · rename_i c' d' cd' sl' ho
      have z := (X _ _ ho).symm.trans htp
      cases z
    · cases hcD
  ca := fun X I k => qv_kin_classE hga hgt hsub hdct ha hn htk hm X I k
end
end PySem.W
namespace Qv
open PySem PySem.Spec PyProof.Rows L2
/-! ### isinstance(x, C), isinstance(x, (C, D)): own classes too -/
inductive TyE (K : PySem.W.Frag) (H : Hp) : V → Value → Prop where
  | base {x : V} {t : Value} (h : TyX K H x t) : TyE K H x t
  | exc {a C d : Addr} {fs : List (Str × V)} (e : H a = some (exv C d a)) (ed : H d = some (.xd fs)) (c : ExcC K C) : TyE K H (.ref a) (.ref C)
theorem kit_ofE {X : Cx} {pins : List (Addr × Obj)} {σ : L2.St} {H : Hp} {s : Shared} {x : V} {u t : Value} (I : Inv X pins σ H s) (rx : RelV x u) (ty : TyE X.K H x t) : ∃ P : Heap → Prop, PySem.W.KitX X.K u t P ∧ P s.heap ∧ u ≠ .builtin "__main__.__loader__#opaque" := by
  cases ty with
  | base h => exact kit_of I rx h
  | @exc a C d fs e ed c =>
    cases (show u = Value.ref a from rx)
    obtain ⟨oe, vs, ho, hc, hdi, hd⟩ := exv_at I.hok e
    obtain ⟨mA, hns, hr⟩ := (show ObjOk X.prog X.w H s.heap d (.xd fs) from I.hok d _ ed)
    obtain ⟨od, ho2, hl⟩ := lookIn_ns hns
    exact ⟨_, PySem.W.qv_kitx_exc c.hg c.hk c.hs c.hd c.ha c.hn c.ht c.hm, (⟨ho, hc, by unfold PySem.W.notCls; rw [hd] <;> rfl, by rw [hdi]; exact ho2⟩ : PySem.W.InstAt s.heap a oe C (some od)), fun z => nomatch z⟩
def rIsiE (K : PySem.W.Frag) : List V → Hp → VK → Prop := fun xs H Q => ∃ (x c : V) (t u : Value) (b : Bool), xs = [x, c] ∧ ClsV c u ∧ TyE K H x t ∧ PySem.W.kitOne K t u = some b ∧ Q (.bl b) H
def rIsiTE (K : PySem.W.Frag) : List V → Hp → VK → Prop := fun xs H Q => ∃ (x : V) (tp : Addr) (cs : List V) (t : Value) (us : List Value) (b : Bool), xs = [x, .ref tp] ∧ SqT K H tp cs ∧ Paired ClsV cs us ∧ TyE K H x t ∧ PySem.W.kitAny K t us = some b ∧ Q (.bl b) H
section
variable {X : Cx}
theorem call_isiE : CallR X (.builtin "isinstance") (rIsiE X.K) := by
  intro pins s σ H xs us Q I r h
  obtain ⟨x, c, t, u, b, rfl, k, ty, e, q⟩ := h
  obtain ⟨u1, u2, rfl, r1, r2⟩ := vals2 r
  have e2 := k.eq r2
  subst e2
  obtain ⟨P, Z, p, hx⟩ := kit_ofE I r1 ty
  exact PySem.W.kia_one Z I.kIn p e hx fun tk => ⟨.bl b, H, I.tok tk, rfl, q⟩
theorem call_isiTE : CallR X (.builtin "isinstance") (rIsiTE X.K) := by
  intro pins s σ H xs us Q I r h
  obtain ⟨x, tp, cs, t, ws, b, rfl, hT, k, ty, e, q⟩ := h
  obtain ⟨u1, u2, rfl, r1, r2⟩ := vals2 r
  cases (show u2 = Value.ref tp from r2)
  obtain ⟨P, Z, p, hx⟩ := kit_ofE I r1 ty
  have key : ∃ (dd : Option Addr) (n : Nat) (sl : Array (Option Value)) (its : List Value), s.heap.get? tp = some ⟨.type "tuple", dd, .seq its.toArray n, sl⟩ ∧ Vals cs its := by
    rcases hT with hT | ⟨o, its, n, hk, hc, hd, hz, rv⟩
    · obtain ⟨_, its, rv, o, h1, h2, n, h3⟩ := hT.ok I.hok
      obtain ⟨oc, od, dt, sl⟩ := o
      simp only at h2 h3
      subst h2 h3
      exact ⟨_, _, _, _, h1, rv⟩
    · obtain ⟨oc, od, dt, sl⟩ := o
      simp only at hc hd
      subst hc hd
      exact ⟨od, n, sl, its.toList, by simpa using I.kIn _ _ hk, rv⟩
  obtain ⟨dd, n, sl, its, h1, rv⟩ := key
  have e3 := ClsV.all k rv
  subst e3
  exact PySem.W.kia_tup Z I.kIn p h1 e hx fun tk => ⟨.bl b, H, I.tok tk, rfl, q⟩
theorem call_isiUE : CallR X (.builtin "isinstance") (fun xs H Q => rIsiE X.K xs H Q ∨ rIsiTE X.K xs H Q) := CallR.or call_isiE call_isiTE
end
/-- what is known of the classes: (a, b, whether a is under b); b: an own class or, told true, a built-in one -/
structure Ist where
  own : List (Str × Str × Bool)
  bui : List (Str × String × Bool)
  cls : List Str
  exc : List Str
def Ist.o (T : Ist) (a b : Str) : Option Bool := (T.own.find? fun t => decide (t.1 = a) && decide (t.2.1 = b)).map (·.2.2)
def Ist.u (T : Ist) (a : Str) (b : String) : Option Bool := (T.bui.find? fun t => decide (t.1 = a) && decide (t.2.1 = b)).map (·.2.2)
/-- is v an instance of the class c -/
def isC (T : Ist) (v c : Val) : Option Bool := match c with
  | .glo c => (match v with
    | .exc C _ _ => if C ∈ T.exc then T.o C c else none
    | .obj _ _ _ _ => none
    | .ty _ => none
    | .atm _ => none
    | .glo _ => none
    | _ => if c ∈ T.cls then some false else none)
  | .ty n => (match v with
    | .exc C _ _ => if C ∈ T.exc then T.u C n else none
    | v => if v.tyName.isSome = true then isT v n else none)
  | _ => none
def isCs (T : Ist) (v : Val) : List Val → Option Bool
  | [] => some false
  | c :: cs => match isC T v c with
    | some true => some true
    | some false => isCs T v cs
    | none => none
def gIsC (T : Ist) : GN := fun vs Q => match vs with
  | [v, .tup cs] => (match !cs.isEmpty && cs.all (fun c => (isC T v c).isSome), isCs T v cs with
    | true, some b => Q (.bl b)
    | _, _ => False)
  | [v, c] => (match isC T v c with
    | some b => Q (.bl b)
    | none => False)
  | _ => False
def istB (T : Ist) (K : PySem.W.Frag) : Bool :=
  T.own.all (fun t => decide (PySem.W.kitOne K (.ref (He.ga K t.1)) (.ref (He.ga K t.2.1)) = some t.2.2)) && (T.bui.all (fun t => decide (PySem.W.kitOne K (.ref (He.ga K t.1)) (.type t.2.1) = some t.2.2)) &&
    T.cls.all fun c => ["NoneType", "bool", "int", "str", "tuple", "list", "dict"].all fun t => decide (PySem.W.kitOne K (.type t) (.ref (He.ga K c)) = some false))
structure IstOk (T : Ist) (K : PySem.W.Frag) : Prop where
  b : istB T K = true
  e : ∀ C ∈ T.exc, ∃ fs, ExC K C fs
section
variable {K : PySem.W.Frag} {Fz : Addr → Prop} {H : Hp} {T : Ist}
theorem IstOk.o (t : IstOk T K) {a b : Str} {r : Bool} (h : T.o a b = some r) : PySem.W.kitOne K (.ref (He.ga K a)) (.ref (He.ga K b)) = some r := by
  have z := t.b
  unfold istB at z
  simp only [Bool.and_eq_true] at z
  unfold Ist.o at h
  cases q : T.own.find? (fun t => decide (t.1 = a) && decide (t.2.1 = b)) with
  | none => rw [q] at h; cases h
  | some y =>
    rw [q] at h
    cases h
    have y1 := List.mem_of_find?_eq_some q
    have y2 := List.find?_some q
    simp only [Bool.and_eq_true, decide_eq_true_eq] at y2
    have y3 := of_decide_eq_true (List.all_eq_true.mp z.1 y y1)
    rw [y2.1, y2.2] at y3
    exact y3
theorem IstOk.u (t : IstOk T K) {a : Str} {b : String} {r : Bool} (h : T.u a b = some r) : PySem.W.kitOne K (.ref (He.ga K a)) (.type b) = some r := by
  have z := t.b
  unfold istB at z
  simp only [Bool.and_eq_true] at z
  unfold Ist.u at h
  cases q : T.bui.find? (fun t => decide (t.1 = a) && decide (t.2.1 = b)) with
  | none => rw [q] at h; cases h
  | some y =>
    rw [q] at h
    cases h
    have y1 := List.mem_of_find?_eq_some q
    have y2 := List.find?_some q
    simp only [Bool.and_eq_true, decide_eq_true_eq] at y2
    have y3 := of_decide_eq_true (List.all_eq_true.mp z.2.1 y y1)
    rw [y2.1, y2.2] at y3
    exact y3
theorem IstOk.c (t : IstOk T K) {c : Str} {n : String} (hc : c ∈ T.cls) (hn : n ∈ ["NoneType", "bool", "int", "str", "tuple", "list", "dict"]) : PySem.W.kitOne K (.type n) (.ref (He.ga K c)) = some false := by
  have z := t.b
  unfold istB at z
  simp only [Bool.and_eq_true] at z
  exact of_decide_eq_true (List.all_eq_true.mp (List.all_eq_true.mp z.2.2 c hc) n hn)
theorem tyN_mem {v : Val} {n : String} (h : v.tyName = some n) : n ∈ ["NoneType", "bool", "int", "str", "tuple", "list", "dict"] := by
  cases v <;> cases h <;> simp
/-- a value's class, as the machine has it -/
theorem ty_ofE {v : Val} {V : V} (t : IstOk T K) (o : OwA K Fz H v V) (h : v.tyName.isSome = true ∨ ∃ C ns xs, v = .exc C ns xs ∧ C ∈ T.exc) : ∃ ty, TyE K H V ty ∧ ((∃ n, v.tyName = some n ∧ ty = .type n) ∨ ∃ C ns xs, v = .exc C ns xs ∧ C ∈ T.exc ∧ ty = .ref (He.ga K C)) := by
  rcases h with h | ⟨C, ns, xs, e, hC⟩
  · obtain ⟨n, hn⟩ := Option.isSome_iff_exists.mp h
    exact ⟨_, .base (ty_of o hn), .inl ⟨n, hn, rfl⟩⟩
  · subst e
    obtain ⟨fs, X⟩ := t.e C hC
    obtain ⟨f, o⟩ := o
    obtain ⟨_, a, d, vs, e, z, ha, zd, hd, hl, lz⟩ := o
    subst e
    exact ⟨_, .exc ha hd X.ic, .inr ⟨C, ns, xs, rfl, hC, rfl⟩⟩
theorem isC_some {v c : Val} {b : Bool} (h : isC T v c = some b) : v.tyName.isSome = true ∨ ∃ C ns xs, v = .exc C ns xs ∧ C ∈ T.exc := by
  cases v with
  | exc C ns xs =>
    cases c with
    | glo d =>
      have z : (if C ∈ T.exc then T.o C d else none) = some b := h
      split at z
      · exact .inr ⟨_, _, _, rfl, by assumption⟩
      · cases z
    | ty d =>
      have z : (if C ∈ T.exc then T.u C d else none) = some b := h
      split at z
      · exact .inr ⟨_, _, _, rfl, by assumption⟩
      · cases z
    | _ => cases h
  | obj _ _ _ _ => cases c <;> cases h
  | ty _ => cases c <;> cases h
  | atm _ => cases c <;> cases h
  | glo _ => cases c <;> cases h
  | _ => exact .inl rfl
theorem isC_kit {v c : Val} {b : Bool} {ty : Value} (t : IstOk T K) (h : isC T v c = some b) (hty : (∃ n, v.tyName = some n ∧ ty = .type n) ∨ ∃ C ns xs, v = .exc C ns xs ∧ C ∈ T.exc ∧ ty = .ref (He.ga K C)) : ∀ {U : V}, Fzn K Fz H c U → ∃ u, ClsV U u ∧ PySem.W.kitOne K ty u = some b := by
  intro U hU
  unfold isC at h
  split at h
  · rename_i cn
    cases (show U = .ref (He.ga K cn) from hU)
    refine ⟨_, .own _, ?_⟩
    rcases hty with ⟨n, hn, rfl⟩ | ⟨C, ns, xs, rfl, hC, rfl⟩
    · have z : (if cn ∈ T.cls then some false else none) = some b := by
        cases v <;> first | exact h | cases hn
      split at z
      · cases z
        exact t.c (by assumption) (tyN_mem hn)
      · cases z
    · dsimp only at h
      rw [if_pos hC] at h
      exact t.o h
  · rename_i n
    cases (show U = .ty n from hU)
    refine ⟨_, .ty _, ?_⟩
    rcases hty with ⟨m, hn, rfl⟩ | ⟨C, ns, xs, rfl, hC, rfl⟩
    · have z : isT v n = some b := by
        cases v <;> first | (cases hn; exact h) | cases hn
      exact kit_ty (isT_kit z hn)
    · dsimp only at h
      rw [if_pos hC] at h
      exact t.u h
  · cases h
theorem isCs_kit {v : Val} {ty : Value} (t : IstOk T K) (hty : (∃ n, v.tyName = some n ∧ ty = .type n) ∨ ∃ C ns xs, v = .exc C ns xs ∧ C ∈ T.exc ∧ ty = .ref (He.ga K C)) : ∀ {cs : List Val} {Us : List V} {b : Bool}, FznL K Fz H cs Us → cs.all (fun c => (isC T v c).isSome) = true → isCs T v cs = some b → ∃ us, Paired ClsV Us us ∧ PySem.W.kitAny K ty us = some b
  | [], _, b, h, _, e => by
    cases h
    exact ⟨[], .nil, e⟩
  | c :: cs, _, b, h, ha, e => by
    obtain ⟨U, r, e1, h1, h2⟩ := h
    subst e1
    obtain ⟨a1, a2⟩ := Bool.and_eq_true_iff.mp (show ((isC T v c).isSome && cs.all fun c => (isC T v c).isSome) = true from ha)
    obtain ⟨r1, hr1⟩ := Option.isSome_iff_exists.mp a1
    obtain ⟨u, k1, k2⟩ := isC_kit t hr1 hty h1
    unfold isCs at e
    rw [hr1] at e
    cases r1 with
    | true =>
      cases e
      -- the rest need not be looked at, but must be classes
      have rest : ∀ {cs : List Val} {Us : List V}, FznL K Fz H cs Us → cs.all (fun c => (isC T v c).isSome) = true → ∃ us, Paired ClsV Us us := by
        intro cs
        induction cs with
        | nil => intro Us h _; cases h; exact ⟨[], .nil⟩
        | cons c cs ih =>
          intro Us h ha
          obtain ⟨U, r, e1, h1, h2⟩ := h
          subst e1
          obtain ⟨a1, a2⟩ := Bool.and_eq_true_iff.mp (show ((isC T v c).isSome && cs.all fun c => (isC T v c).isSome) = true from ha)
          obtain ⟨r1, hr1⟩ := Option.isSome_iff_exists.mp a1
          obtain ⟨u, k1, _⟩ := isC_kit t hr1 hty h1
          obtain ⟨us, k3⟩ := ih h2 a2
          exact ⟨u :: us, .cons k1 k3⟩
      obtain ⟨us, k3⟩ := rest h2 a2
      exact ⟨u :: us, .cons k1 k3, kitAny_cons k2 (fun z => by cases z) fun _ => rfl⟩
    | false =>
      obtain ⟨us, k3, k4⟩ := isCs_kit t hty h2 a2 e
      exact ⟨u :: us, .cons k1 k3, kitAny_cons k2 (fun _ => k4) fun z => by cases z⟩
theorem s_isC (t : IstOk T K) : SN K (fun xs H Q => rIsiE K xs H Q ∨ rIsiTE K xs H Q) (gIsC T) := by
  intro Fz H vs Vs Qp Q' F o q a
  unfold gIsC at q
  split at q
  · rename_i v cs
    obtain ⟨V, U, e, o1, o2⟩ := o.two rfl
    subst e
    split at q
    · rename_i b h1 h2
      obtain ⟨tp, us, e, ft, lz⟩ := o2.tup
      subst e
      obtain ⟨h0, h1⟩ := Bool.and_eq_true_iff.mp h1
      cases cs with
      | nil => cases h0
      | cons c cs =>
        have hs : v.tyName.isSome = true ∨ ∃ C ns xs, v = .exc C ns xs ∧ C ∈ T.exc := by
          obtain ⟨a1, _⟩ := Bool.and_eq_true_iff.mp (show ((isC T v c).isSome && cs.all fun c => (isC T v c).isSome) = true from h1)
          obtain ⟨r1, hr1⟩ := Option.isSome_iff_exists.mp a1
          exact isC_some hr1
        obtain ⟨ty, t1, t2⟩ := ty_ofE t o1 hs
        obtain ⟨us', k1, k2⟩ := isCs_kit t t2 lz h1 h2
        exact .inr ⟨V, tp, us, ty, us', b, rfl, ft.sq, k1, t1, k2, aft_bl a q⟩
    · exact q.elim
  · rename_i v c hnt
    obtain ⟨V, U, e, o1, o2⟩ := o.two rfl
    subst e
    split at q
    · rename_i b h
      obtain ⟨ty, t1, t2⟩ := ty_ofE t o1 (isC_some h)
      obtain ⟨f2, o2⟩ := o2
      have z : Fzn K Fz H c U := by
        unfold isC at h
        split at h
        · exact o2.2
        · exact o2.2
        · cases h
      obtain ⟨u, k1, k2⟩ := isC_kit t h t2 z
      exact .inl ⟨V, U, ty, u, b, rfl, k1, t1, k2, aft_bl a q⟩
    · exact q.elim
  · exact q.elim
end
end Qv
set_option Elab.async false
set_option linter.all false
set_option maxRecDepth 100000
set_option maxHeartbeats 4000000
namespace Qv
open PySem PySem.Spec PyProof.Rows L2
def clsBody : Stmt → List Stmt
  | .ClassDef _ _ _ body .. => body
  | _ => []
def exmB (tab : List (Str × Bool)) (cls : Str) (K : PySem.W.Frag) : Bool := tab.all fun t => decide (PySem.W.exmOne K (.ref (He.ga K t.1)) (.ref (He.ga K cls)) = some t.2)
theorem exmB_ok {tab : List (Str × Bool)} {cls : Str} {K : PySem.W.Frag} (h : exmB tab cls K = true) (x : Str) (b : Bool) (e : tab.lookup x = some b) : PySem.W.exmOne K (.ref (He.ga K x)) (.ref (He.ga K cls)) = some b := by
  have key : ∀ {l : List (Str × Bool)}, l.lookup x = some b → (x, b) ∈ l := by
    intro l
    induction l with
    | nil => intro e; cases e
    | cons p l ih =>
      intro e
      obtain ⟨y, c⟩ := p
      rw [List.lookup_cons] at e
      cases q : (x == y) with
      | true =>
        rw [q] at e
        cases e
        rw [eq_of_beq q]
        exact List.mem_cons_self
      | false =>
        rw [q] at e
        exact List.mem_cons_of_mem _ (ih e)
  exact of_decide_eq_true (List.all_eq_true.mp h _ (key e))
section
variable {ι : Type} {X : ι → Cx} {P : Program} {w : World} {K : PySem.W.Frag} {mg : Str → Option Value} {base : Heap} {N : List Str} {W : WX} {pn ts us : List Nat} {k : Nat}
variable {x y z : Expr} {px py pz : PEx} {e f : Expr} {es : List Expr} {pos pos' p : Pos} {pt pu : PTe} {pa : PAr} {st : Stmt} {sts : List Stmt} {ps qs : PSt}
theorem qb_isC (T : Ist) (t : IstOk T K) (c : Ct X P w K mg base N W k) (hm : mg "isinstance" = none) (a : QA X K W pn (e :: es) pa) (hg : ∀ j, Gl (X j) "isinstance" := by exact fun _ => rfl)
    (he : ∀ i, starEach (e :: es) (X i).env = (false, eval e (X i).env) :: starEach es (X i).env := by exact fun _ => rfl) (hpl : ∀ i, (backTo pos (starEach es (X i).env)).any (·.1) = false := by exact fun _ => rfl) :
    QE X K W pn (.Call (.Name "isinstance" p) (e :: es) [] pos) (pCB (gIsC T) pa) := by
  obtain ⟨u, fl, a, a2⟩ := a
  exact ⟨_, _, fun i => pe_callB (c.hK i ▸ call_isiUE) (hg i) (by rw [c.hM i]; exact hm) (by decide +kernel) (a i) (by decide) (by decide) (he i) (hpl i), sim_cb a2 (s_isC t)⟩
/-! in a suite -/
theorem h_isC (T : Ist) (t : IstOk T K) (c : Ch X P w K mg base N) (hm : mg "isinstance" = none) (a : QA X K W pn (e :: es) pa) (hg : ∀ j, Gl (X j) "isinstance" := by exact fun _ => rfl)
    (he : ∀ i, starEach (e :: es) (X i).env = (false, eval e (X i).env) :: starEach es (X i).env := by exact fun _ => rfl) (hpl : ∀ i, (backTo pos (starEach es (X i).env)).any (·.1) = false := by exact fun _ => rfl) :
    QE X K W pn (.Call (.Name "isinstance" p) (e :: es) [] pos) (pCB (gIsC T) pa) := by
  obtain ⟨u, fl, a, a2⟩ := a
  exact ⟨_, _, fun i => pe_callB (c.hK i ▸ call_isiUE) (hg i) (by rw [c.hM i]; exact hm) (by decide +kernel) (a i) (by decide) (by decide) (he i) (hpl i), sim_cb a2 (s_isC t)⟩
theorem h_set (c : Ch X P w K mg base N) (i : Nat) {n : Str} (a : QE X K W pn x px) (hi : N[i]? = some n := by rfl) (hp : i ∉ pn := by decide) (hx : ∀ j, Loc (X j).env.scope n := by first | exact fun _ => Or.inl rfl | exact fun _ => Or.inr rfl)
    (hs : ∀ j, swapsWith x (some (.Name n pos')) pos.line (X j).env = pure false := by exact fun _ => rfl)
    (hf : ∀ j, (X j).fn n = true ∨ (X j).env.scope.names.lookup n = some .local := by first | exact fun _ => .inl rfl | exact fun _ => .inr rfl) : QS X K W pn (.Assign [.Name n pos'] x pos) (pSet i px) := by
  obtain ⟨t, fl, a, a2⟩ := a
  exact ⟨_, fun j => ps_set (by rw [c.hN j]; exact c.nd) (by rw [c.hN j]; exact hi) (hx j) (a j) (hs j) (hf j), sim_set a2 hp⟩
theorem h_gglo (c : Ch X P w K mg base N) {n : Str} (hm : mg n = some (.ref (He.ga K n))) (hg : ∀ j, Gl (X j) n := by exact fun _ => rfl) (hd : (n == ("__debug__" : Str)) = false := by decide) : QE X K W pn (.Name n pos) (pC (.glo n)) :=
  ⟨tC (.ref (He.ga K n)), true, fun j => pe_glob (v := .ref (He.ga K n)) (hg j) (by rw [c.hM j]; exact hm) rfl hd, sim_c fun _ _ => rfl⟩
theorem h_gty (c : Ch X P w K mg base N) {n : Str} {T : String} (hm : mg n = none) (hv : bootBuiltins n = some (.type T)) (hg : ∀ j, Gl (X j) n := by exact fun _ => rfl) (hn : n ≠ "__name__" := by decide) (hd : (n == ("__debug__" : Str)) = false := by decide) : QE X K W pn (.Name n pos) (pC (.ty T)) :=
  ⟨tC (.ty T), true, fun j => pe_bltn (v := .ty T) (hg j) (by rw [c.hM j]; exact hm) hv rfl hn hd, sim_c fun _ _ => rfl⟩
theorem h_tru (c : Ch X P w K mg base N) (a : QE X K W pn x px) (he : ∀ i whole, isTrue x (X i).env whole = (do let v ← whole; standAt x.pos; holding [v] (truthy v)) := by exact fun _ _ => rfl) : QT X K W pn x (pTru px) := by
  obtain ⟨t, fl, a, a2⟩ := a
  refine ⟨_, _, fun i => ?_, sim_tru a2⟩
  have z := pt_truth (a i) (he i)
  rw [c.hK i] at z
  exact z
theorem h_op {op : Operator} {r : PySem.W.Frag → R2} {g : G2} (c : Ch X P w K mg base N) (ho : ∀ X : Cx, OpR X (binaryOp op) (r X.K)) (hs : ∀ K, S2 K (r K) g) (a : QE X K W pn x px) (b : QE X K W pn y py) : QE X K W pn (.BinOp x op y pos) (pOp g px py) := by
  obtain ⟨t, fl, a, a2⟩ := a
  obtain ⟨u, fl2, b, b2⟩ := b
  exact ⟨_, _, fun i => pe_op (c.hK i ▸ ho (X i)) (a i) (b i), sim_op a2 b2 (hs K)⟩
theorem h_add (c : Ch X P w K mg base N) (a : QE X K W pn x px) (b : QE X K W pn y py) : QE X K W pn (.BinOp x .Add y pos) (pOp gAdd px py) := h_op (r := rAddU) c (fun X => op_addU) (fun K => s_addU) a b
end
/-! ### the p-terms, step by step -/
section
variable {W : PX} {nx bk ct : Env → Prop} {rt : Val → Env → Prop} {env : Env} {pb ps : PSt} {pa : PAr} {cls : Str} {fs ns : List Str} {tab : List (Str × Bool)} {i : Nat} {vs xs ys : List Val} {C : Str} {f : Str} {cs : List Str} {Qv : Val → Prop} {u : Val} {b : Bool}
def RaiseK (cls : Str) (fs : List Str) (vs : List Val) (e : Env) (W : PX) : Prop := vs.length = fs.length ∧ W ⟨cls, fs.reverse, (freezeL vs).reverse⟩ e
theorem r_raise (k : pa W env fun rs e1 => escs rs e1 fun vs e2 => RaiseK cls fs vs e2 W) : pRaise cls fs pa W ⟨nx, rt, bk, ct⟩ env := k
theorem r_raiseK (h : vs.length = fs.length) (h2 : freezeL vs = xs) (h3 : fs.reverse = ns) (h4 : xs.reverse = ys) (k : W ⟨cls, ns, ys⟩ env) : RaiseK cls fs vs env W := by
  subst h2 h3 h4
  exact ⟨h, k⟩
/-- what a try does with an exception -/
def TryK (tab : List (Str × Bool)) (i : Nat) (ps : PSt) (D : PEnd) (W : PX) : PX := fun exc e1 => match tab.lookup exc.cls with
  | some true => i < e1.length ∧ ps (fun _ _ => False) ⟨fun e => D.nx (e.set i none), D.rt, fun e => D.bk (e.set i none), fun e => D.ct (e.set i none)⟩ (e1.set i (some (.exc exc.cls exc.ns exc.xs)))
  | some false => W exc e1
  | none => False
theorem r_try (k : pb (TryK tab i ps ⟨nx, rt, bk, ct⟩ W) ⟨nx, rt, bk, ct⟩ env) : pTry tab i pb ps W ⟨nx, rt, bk, ct⟩ env := k
theorem r_tryY {D : PEnd} (h : tab.lookup cls = some true) (hi : Nat.ble (i + 1) env.length = true) (k : ps (fun _ _ => False) ⟨fun e => D.nx (e.set i none), D.rt, fun e => D.bk (e.set i none), fun e => D.ct (e.set i none)⟩ (env.set i (some (.exc cls ns xs)))) : TryK tab i ps D W ⟨cls, ns, xs⟩ env := by
  unfold TryK
  rw [h]
  exact ⟨Nat.le_of_ble_eq_true hi, k⟩
theorem r_tryN {D : PEnd} (h : tab.lookup cls = some false) (k : W ⟨cls, ns, xs⟩ env) : TryK tab i ps D W ⟨cls, ns, xs⟩ env := by
  unfold TryK
  rw [h]
  exact k
theorem r_fld (h : C ∈ cs) (h1 : ns.length = xs.length) (h2 : (ns.zip xs).lookup f = some u) (k : Qv u) : gFld cs f (.exc C ns xs) Qv := by
  unfold gFld
  refine ⟨h, h1, ?_⟩
  rw [h2]
  exact k
theorem r_isC {T : Ist} {v c : Val} {Q : Val → Prop} (h : isC T v c = some b) (k : Q (.bl b)) : gIsC T [v, c] Q := by
  unfold gIsC
  split
  · rename_i v' cs e
    cases e
    cases h
  · rename_i v' c' _ e
    cases e
    rw [h]
    exact k
  · rename_i h1 h2
    exact (h2 _ _ rfl).elim
end
end Qv
set_option Elab.async false
set_option linter.all false
set_option maxRecDepth 100000
set_option maxHeartbeats 4000000
namespace Qv
open PySem PySem.Spec PyProof.Rows L2
/-! ### calls with positional values, keywords and defaults in any order -/
def pick {α : Type} (ix : List Nat) (l : List α) : List α := ix.filterMap fun i => l[i]?
theorem pick_map {α β : Type} (f : α → β) (ix : List Nat) (l : List α) : pick ix (l.map f) = (pick ix l).map f := by
  unfold pick
  induction ix with
  | nil => rfl
  | cons i ix ih =>
    rw [List.filterMap_cons, List.filterMap_cons, List.getElem?_map]
    cases l[i]? with
    | none => exact ih
    | some a =>
      show f a :: _ = f a :: _
      rw [← ih]
theorem pick_range {α : Type} (l : List α) : pick (List.range l.length) l = l := by
  apply List.ext_getElem?
  intro j
  have key : ∀ n, n ≤ l.length → pick (List.range n) l = l.take n := by
    intro n
    induction n with
    | zero => intro _; rfl
    | succ n ih =>
      intro hn
      have e : pick (List.range (n + 1)) l = pick (List.range n) l ++ pick [n] l := by
        unfold pick
        rw [List.range_succ, List.filterMap_append]
      rw [e, ih (by omega), List.take_succ]
      unfold pick
      rw [List.filterMap_cons]
      cases l[n]? <;> rfl
  rw [key _ (Nat.le_refl _), List.take_length]
theorem pick_perm {α : Type} {ix : List Nat} {l : List α} (h : ix.Perm (List.range l.length)) : (pick ix l).Perm l := by
  have z : (pick ix l).Perm (pick (List.range l.length) l) := List.Perm.filterMap _ h
  rw [pick_range] at z
  exact z
theorem pick_vals {ix : List Nat} : ∀ {vs : List V} {us : List Value}, Vals vs us → Vals (pick ix vs) (pick ix us) := by
  intro vs us h
  have key : ∀ (i : Nat), (∃ v u, vs[i]? = some v ∧ us[i]? = some u ∧ RelV v u) ∨ (vs[i]? = none ∧ us[i]? = none) := by
    induction h with
    | nil => exact fun i => .inr ⟨rfl, rfl⟩
    | cons r t ih =>
      intro i
      cases i with
      | zero => exact .inl ⟨_, _, rfl, rfl, r⟩
      | succ i => exact ih i
  unfold pick
  induction ix with
  | nil => exact .nil
  | cons i ix ih =>
    rw [List.filterMap_cons, List.filterMap_cons]
    rcases key i with ⟨v, u, e1, e2, r⟩ | ⟨e1, e2⟩
    · rw [e1, e2]
      exact .cons r ih
    · rw [e1, e2]
      exact ih
def aPick (n m : Nat) (ix : List Nat) (dv : List Val) (pa pk : PAr) : PAr := fun W env Q => pa W env fun rs e1 => pk W e1 fun rs2 e2 => rs.length = n ∧ rs2.length = m ∧ Q (pick ix (rs ++ rs2 ++ dv.map Res.val)) e2
def tPick (n m : Nat) (ix : List Nat) (dvs : List V) (t tk : TA) : TA := fun σ H Q => t σ H fun vs H1 => tk σ H1 fun zs H2 => vs.length = n ∧ zs.length = m ∧ Q (pick ix (vs ++ zs ++ dvs)) H2
section
variable {K : PySem.W.Frag} {Fz Fz' O : Addr → Prop} {H H' : Hp} {env : Env} {σ : L2.St} {fp : Nat → List Addr} {W : WX} {pn : List Nat} {fl fl2 : Bool}
theorem RRs.consts : ∀ {dv : List Val} {dvs : List V}, FznL K Fz H dv dvs → RRs K Fz H σ (dv.map Res.val) dvs []
  | [], _, h => by cases h; exact ⟨rfl, rfl⟩
  | x :: xs, _, h => by
    obtain ⟨v, r, e, h1, h2⟩ := h
    subst e
    exact ⟨v, r, [], [], rfl, rfl, h1.ow, RRs.consts h2⟩
theorem RRs.perm {l l' : List (Res × V)} (p : l.Perm l') : ∀ {ft : List Addr}, RRs K Fz H σ (l.map (·.1)) (l.map (·.2)) ft → ∃ ft', ft.Perm ft' ∧ RRs K Fz H σ (l'.map (·.1)) (l'.map (·.2)) ft' := by
  induction p with
  | nil => exact fun {ft} h => ⟨ft, .refl _, h⟩
  | cons x _ ih =>
    intro ft h
    obtain ⟨V, Ws, f1, f2, e1, e2, x1, x2⟩ := h
    cases e1
    subst e2
    obtain ⟨g, p, y⟩ := ih x2
    exact ⟨f1 ++ g, p.append_left f1, _, _, f1, g, rfl, rfl, x1, y⟩
  | swap x y l =>
    intro ft h
    obtain ⟨V, Ws, f1, f2, e1, e2, x1, x2⟩ := h
    cases e1
    subst e2
    obtain ⟨V', Ws', f3, f4, e1, e2, x3, x4⟩ := x2
    cases e1
    subst e2
    refine ⟨f3 ++ (f1 ++ f4), ?_, _, _, f3, f1 ++ f4, rfl, rfl, x3, _, _, f1, f4, rfl, rfl, x1, x4⟩
    rw [← List.append_assoc, ← List.append_assoc]
    exact List.perm_append_comm.append_right f4
  | trans _ _ ih1 ih2 =>
    intro ft h
    obtain ⟨g, p1, y1⟩ := ih1 h
    obtain ⟨g2, p2, y2⟩ := ih2 y1
    exact ⟨g2, p1.trans p2, y2⟩
theorem RRs.pick {ix : List Nat} {rs : List Res} {Vs : List V} {ft : List Addr} (h : RRs K Fz H σ rs Vs ft) (p : ix.Perm (List.range rs.length)) : ∃ ft', ft.Perm ft' ∧ RRs K Fz H σ (Qv.pick ix rs) (Qv.pick ix Vs) ft' := by
  have hl := h.len
  have e1 : (rs.zip Vs).map (·.1) = rs := List.map_fst_zip (by omega)
  have e2 : (rs.zip Vs).map (·.2) = Vs := List.map_snd_zip (by omega)
  have pz : (Qv.pick ix (rs.zip Vs)).Perm (rs.zip Vs) := pick_perm (by rw [List.length_zip, hl, Nat.min_self]; exact p)
  have h' : RRs K Fz H σ ((rs.zip Vs).map (·.1)) ((rs.zip Vs).map (·.2)) ft := by rw [e1, e2]; exact h
  obtain ⟨ft', q, y⟩ := RRs.perm pz.symm h'
  rw [← pick_map, ← pick_map, e1, e2] at y
  exact ⟨ft', q, y⟩
theorem sim_pick {n m : Nat} {ix : List Nat} {dv : List Val} {dvs : List V} {t tk : TA} {pa pk : PAr} (hp : ix.Perm (List.range (n + m + dv.length))) (hd : ∀ Fz H, FznL K Fz H dv dvs) (ha : SimA K W pn fl t pa) (hk : SimA K W pn fl2 tk pk) :
    SimA K W pn (fl && fl2) (tPick n m ix dvs t tk) (aPick n m ix dv pa pk) := by
  intro Wp env σ H Fz O fp pv Q Q' F P hq hx hk'
  refine ha Wp env σ H Fz O fp pv _ _ F P hq hx fun rs e1 Vs H1 Fz1 fp1 f1 s1 k1 F1 r1 t1 q1 => ?_
  refine hk Wp e1 σ H1 Fz1 (Oft O f1) fp1 pv _ _ (F1.ext t1) P q1 (hx.step s1 fun _ h => .inl h) fun rs2 e2 Zs H2 Fz2 fp2 f2 s2 k2 F2 r2 t2 q2 => ?_
  obtain ⟨l1, l2, q2⟩ := q2
  have r1' : RRs K Fz2 H2 σ rs Vs f1 := r1.carry (fun a h => s2.same a (.inr (.inr h))) s2.mono fun a h => s2.same a (.inl h)
  have rA := (r1'.app r2).app (RRs.consts (σ := σ) (hd Fz2 H2))
  rw [List.append_nil] at rA
  obtain ⟨ft', pf, rB⟩ := rA.pick (ix := ix) (by rw [List.length_append, List.length_append, List.length_map, l1, l2]; exact hp)
  have tt := ((t1.carry s2 F2).app t2).perm pf.symm
  refine ⟨by rw [r1.len]; exact l1, by rw [r2.len]; exact l2, hk' _ e2 _ H2 Fz2 fp2 ft' (s1.trans s2 fun _ h => .inl h) (fun e => ?_) (F2.weak fun _ h => .inl h) rB tt q2⟩
  obtain ⟨e1, e2⟩ := Bool.and_eq_true_iff.mp e
  exact (k1 e1).trans (k2 e2) s2
end
/-- a def called so: n values, the keywords ks, the defaults dv -/
structure OkG (P : Program) (w : World) (K : PySem.W.Frag) (mg : Str → Option Value) (base : Heap) (j : Nat) (f : Addr) (prm : List Str) (ms : List Bool) (n : Nat) (ks : List Str) (ix : List Nat) (dv : List Val) (F : FSp) : Prop where
  hl : ∀ vs Qe Qr, F vs Qe Qr → vs.length = ms.length
  ex : ∃ (fd : FuncData) (its : List Value) (dvs : List V), PySem.W.keepIn K (.ref f) = true ∧ Vals dvs its ∧ (∀ Fz H, FznL K Fz H dv dvs) ∧
    (∀ (s : Shared) (us ws : List Value), K.In s.heap → us.length = n → ws.length = ks.length → BindsTo s fd ⟨us, ks.zip ws⟩ (prm.zip (pick ix (us ++ ws ++ its)))) ∧ FnG P w K mg base j f fd prm (spOf K ms F)
section
variable {ι : Type} {X : ι → Cx} {P : Program} {w : World} {K : PySem.W.Frag} {mg : Str → Option Value} {base : Heap} {N : List Str} {W : WX} {pn ts us : List Nat} {k j : Nat} {f : Addr} {prm ks : List Str} {ms : List Bool} {n m : Nat} {ix : List Nat} {dv : List Val} {F : FSp}
variable {x y z : Expr} {px py pz : PEx} {e : Expr} {es : List Expr} {pos pos' p : Pos} {pa pk : PAr} {nm : Str} {kws : List Keyword}
theorem run_GN {X : Cx} {W : WX} {pins : List (Addr × Obj)} {σ : L2.St} {H : Hp} {s : Shared} {Q : VK} {us ws its : List Value} {vs zs dvs : List V} {fd : FuncData} (FG : FnG X.prog X.w X.K X.mg X.base j f fd prm (spOf X.K ms F)) (hr : Room j X.A) (hgu : X.A.guards = some []) (tk : Takes X W)
    (hb : ∀ (s : Shared) (us ws : List Value), X.K.In s.heap → us.length = n → ws.length = ks.length → BindsTo s fd ⟨us, ks.zip ws⟩ (prm.zip (pick ix (us ++ ws ++ its)))) (I : Inv X pins σ H s) (r : Vals vs us) (rz : Vals zs ws) (rd : Vals dvs its) (l1 : vs.length = n) (l2 : zs.length = ks.length)
    (h : spOf X.K ms F (pick ix (vs ++ zs ++ dvs)) H Q (WE W σ)) : wpAny (model X.prog X.w) X.A (call (.ref f) us (ks.zip ws)) (EP X pins σ Q) X.xe s := by
  refine wpAny_call (codeAny_mono (FG.run X.A X.stack s H ⟨us, ks.zip ws⟩ (pick ix (us ++ ws ++ its)) (pick ix (vs ++ zs ++ dvs)) Q (WE W σ) hr hgu I.env0 (hb s us ws I.kIn (r.length.symm.trans l1) (rz.length.symm.trans l2)) (pick_vals ((r.append rz).append rd)) h) fun q s' hq => ?_)
  match q, hq with
  | .error e, hq => exact passAt tk σ pins H s e s' I hq
  | .ok (.ret u), hq => exact I.after hq
  | .ok .next, hq => exact hq.elim
  | .ok .brk, hq => exact hq.elim
  | .ok .cont, hq => exact hq.elim
/-- f(e, .., k = v, ..) -/
theorem q_callG (c : Ct X P w K mg base N W k) (G : OkG P w K mg base j f prm ms n ks ix dv F) (hj : j ≤ k) (hm : mg nm = some (.ref f)) (a : QA X K W pn (e :: es) pa) (b : QK X K W pn kws pk) (hp : ix.Perm (List.range (n + ks.length + dv.length)) := by decide)
    (hall : ∀ i, (backToKw pos (keywordEach kws (X i).env)).all (·.1.isSome) = true := by exact fun _ => rfl) (hks : ∀ i, (backToKw pos (keywordEach kws (X i).env)).filterMap (·.1) = ks := by exact fun _ => rfl)
    (hg : ∀ j, Gl (X j) nm := by exact fun _ => rfl) (hdb : (nm == ("__debug__" : Str)) = false := by decide) (he : ∀ i, starEach (e :: es) (X i).env = (false, eval e (X i).env) :: starEach es (X i).env := by exact fun _ => rfl)
    (hpl : ∀ i, ((backTo pos (starEach (e :: es) (X i).env)).any (·.1) || (backToKw pos (keywordEach kws (X i).env)).any (·.1.isNone)) = false := by exact fun _ => rfl) :
    QE X K W pn (.Call (.Name nm p) (e :: es) kws pos) (pCall F ms [] (aPick n ks.length ix dv pa pk)) := by
  obtain ⟨t, fl, a, a2⟩ := a
  obtain ⟨u, fl2, b, b2⟩ := b
  obtain ⟨fd, its, dvs, kp, rd, hd, hb, FG⟩ := G.ex
  refine ⟨_, _, fun i => ?_, sim_call (dvs := []) (sim_pick hp hd a2 b2) (fun _ _ => rfl) G.hl⟩
  obtain rfl := c.hP i
  obtain rfl := c.hw i
  obtain rfl := c.hK i
  obtain rfl := c.hM i
  obtain rfl := c.hB i
  refine ⟨fun pins s σ H Q I h => wpAny_Call_Name_kw (ld_glob I (hg i) hm ?_ hdb)⟩
  refine PySem.W.callWith_KW (h₀ := (X i).base) I.ok.mod.kin kp (hall i) (thn ((a i).run pos pins s σ H _ I h) fun us s1 ⟨vs, H1, I1, r, q⟩ => ?_) (hpl i) (he i)
  refine thn ((b i).run pos pins s1 σ H1 _ I1 q) fun ws s2 ⟨zs, H2, I2, rz, l1, l2, q2⟩ => ⟨I2.kIn, ?_⟩
  rw [hks i]
  exact run_GN (its := its) (dvs := dvs) FG ((c.room i).mono hj) (c.gu i) (c.tk i) hb I2 r rz rd l1 l2 (by rw [← List.append_nil (pick ix _)]; exact q2)
/-- f(k = v, ..) -/
theorem q_callG0 (c : Ct X P w K mg base N W k) (G : OkG P w K mg base j f prm ms 0 ks ix dv F) (hj : j ≤ k) (hm : mg nm = some (.ref f)) (b : QK X K W pn kws pk) (hp : ix.Perm (List.range (0 + ks.length + dv.length)) := by decide)
    (hall : ∀ i, (backToKw pos (keywordEach kws (X i).env)).all (·.1.isSome) = true := by exact fun _ => rfl) (hks : ∀ i, (backToKw pos (keywordEach kws (X i).env)).filterMap (·.1) = ks := by exact fun _ => rfl)
    (hg : ∀ j, Gl (X j) nm := by exact fun _ => rfl) (hdb : (nm == ("__debug__" : Str)) = false := by decide)
    (hpl : ∀ i, ((backTo pos (starEach [] (X i).env)).any (·.1) || (backToKw pos (keywordEach kws (X i).env)).any (·.1.isNone)) = false := by exact fun _ => rfl) :
    QE X K W pn (.Call (.Name nm p) [] kws pos) (pCall F ms [] (aPick 0 ks.length ix dv aNil pk)) := by
  obtain ⟨u, fl2, b, b2⟩ := b
  obtain ⟨fd, its, dvs, kp, rd, hd, hb, FG⟩ := G.ex
  refine ⟨_, _, fun i => ?_, sim_call (dvs := []) (sim_pick (n := 0) (m := ks.length) hp hd sim_anil b2) (fun _ _ => rfl) G.hl⟩
  obtain rfl := c.hP i
  obtain rfl := c.hw i
  obtain rfl := c.hK i
  obtain rfl := c.hM i
  obtain rfl := c.hB i
  refine ⟨fun pins s σ H Q I h => wpAny_Call_Name_kw (ld_glob I (hg i) hm ?_ hdb)⟩
  refine PySem.W.callWith_KW0 (h₀ := (X i).base) I.ok.mod.kin kp (hall i) (thn ((b i).run pos pins s σ H _ I h) fun ws s2 ⟨zs, H2, I2, rz, l1, l2, q2⟩ => ⟨I2.kIn, ?_⟩) (hpl i)
  rw [hks i]
  exact run_GN (us := []) (vs := []) (its := its) (dvs := dvs) FG ((c.room i).mono hj) (c.gu i) (c.tk i) hb I2 .nil rz rd l1 l2 (by rw [← List.append_nil (pick ix _)]; exact q2)
end
section
variable {P : Program} {w : World} {K : PySem.W.Frag} {mg : Str → Option Value} {base : Heap} {k : Nat} {x qual : Str} {params : Arguments} {body : List Stmt} {scope : Scope} {f : Addr} {prm ks : List Str} {ms : List Bool} {F : FSp} {n : Nat} {ix : List Nat} {dvs : List V}
/-- without defaults -/
theorem okg0 (hl : ∀ vs Qe Qr, F vs Qe Qr → vs.length = ms.length) (h : ∃ fd, FunD K x qual params body scope [] [] f fd ∧ FnG P w K mg base k f fd prm (spOf K ms F))
    (hb : ∀ (kV doc pm : Value) (an : Option Addr) (cdv ct : Value) (us ws : List Value), us.length = n → ws.length = ks.length → bindArgs (PySem.W.fnOf x qual params body scope .none kV doc pm an cdv ct) ⟨us, List.zip ks ws⟩ = pure (prm.zip (pick ix (us ++ ws)))) :
    OkG P w K mg base k f prm ms n ks ix [] F := by
  obtain ⟨fd, D, G⟩ := h
  refine ⟨hl, fd, [], [], D.kp, .nil, fun _ _ => rfl, fun s us ws _ l1 l2 => ?_, G⟩
  obtain ⟨oc, od, dV, kV, doc, pm, an, cdv, ct, osl, rfl, lk, hcd, hD, hK⟩ := D.ex
  rcases hD with ⟨_, rfl⟩ | ⟨e, _⟩
  · rw [List.append_nil]
    exact .of_eq (hb kV doc pm an cdv ct us ws l1 l2)
  · exact absurd rfl e
/-- with defaults, those behind the first j filling up -/
theorem okgD (j : Nat) {dv : List Val} (hl : ∀ vs Qe Qr, F vs Qe Qr → vs.length = ms.length) (h : ∃ fd, FunD K x qual params body scope dvs [] f fd ∧ FnG P w K mg base k f fd prm (spOf K ms F)) (hd : dvs ≠ [])
    (hb : ∀ (T : Addr) (kV doc pm : Value) (an : Option Addr) (cdv ct : Value) (us ws its : List Value), us.length = n → ws.length = ks.length → its.length = dvs.length →
      ∃ k, bindArgs (PySem.W.fnOf x qual params body scope (.ref T) kV doc pm an cdv ct) ⟨us, List.zip ks ws⟩ = seqItems? (.ref T) >>= k ∧ k (some its.toArray) = pure (prm.zip (pick ix (us ++ ws ++ its.drop j))))
    (hdv : ∀ Fz H, FznL K Fz H dv (dvs.drop j)) : OkG P w K mg base k f prm ms n ks ix dv F := by
  obtain ⟨fd, D, G⟩ := h
  obtain ⟨oc, od, dV, kV, doc, pm, an, cdv, ct, osl, rfl, lk, hcd, hD, hK⟩ := id D.ex
  rcases hD with ⟨e, _⟩ | ⟨_, T, o, its, m, rfl, lT, oT, rT⟩
  · exact absurd e hd
  · refine ⟨hl, _, its.drop j, dvs.drop j, D.kp, rT.drop j, hdv, fun s us ws X l1 l2 => ?_, G⟩
    obtain ⟨k, e1, e2⟩ := hb T kV doc pm an cdv ct us ws its l1 l2 rT.length.symm
    refine BindsTo.of_looks fun M => ?_
    rw [e1]
    exact looks_items X lT oT (.of_pure e2)
end
/-! ### the p-terms, step by step -/
def PickK (n m : Nat) (ix : List Nat) (dv : List Val) (rs rs2 : List Res) (e : Env) (Q : List Res → Env → Prop) : Prop := rs.length = n ∧ rs2.length = m ∧ Q (pick ix (rs ++ rs2 ++ dv.map Res.val)) e
section
variable {W : PX} {env : Env} {pa pk : PAr} {n m : Nat} {ix : List Nat} {dv : List Val} {rs rs2 rs3 : List Res} {Q : List Res → Env → Prop}
theorem r_aPick (k : pa W env fun rs e1 => pk W e1 fun rs2 e2 => PickK n m ix dv rs rs2 e2 Q) : aPick n m ix dv pa pk W env Q := k
theorem r_aPickK (h1 : rs.length = n) (h2 : rs2.length = m) (h3 : pick ix (rs ++ rs2 ++ dv.map Res.val) = rs3) (k : Q rs3 env) : PickK n m ix dv rs rs2 env Q := ⟨h1, h2, by rw [h3]; exact k⟩
end
end Qv
set_option Elab.async false
set_option linter.all false
set_option maxRecDepth 100000
set_option maxHeartbeats 4000000
set_option synthInstance.maxHeartbeats 4000000
set_option synthInstance.maxSize 100000
namespace Qv
open PySem PySem.Spec L2
/-! ### steps found by their heads -/
class Sx (A : Prop) (B : outParam Prop) : Prop where
  h : B → A
class Rx (A : Prop) (B : outParam Prop) : Prop where
  h : B → A
instance (priority := low) run_refl {A : Prop} : Rx A A := ⟨id⟩
instance run_stp {A B : Prop} [Sx A B] : Rx A B := ⟨Sx.h⟩
/-! what a step may ask -/
class EG (env : Env) (i : Nat) (v : outParam Val) : Prop where
  h : env[i]? = some (some v)
instance eg_z {env : Env} {v : Val} : EG (some v :: env) 0 v := ⟨rfl⟩
instance eg_s {env : Env} {i : Nat} {x : Option Val} {v : Val} [EG env i v] : EG (x :: env) (i + 1) v := ⟨EG.h (env := env) (i := i)⟩
class ES (env : Env) (i : Nat) (x : Option Val) (env' : outParam Env) : Prop where
  h : env.set i x = env'
  l : i < env.length
instance es_z {env : Env} {y x : Option Val} : ES (y :: env) 0 x (x :: env) := ⟨rfl, Nat.succ_pos _⟩
instance es_s {env env' : Env} {i : Nat} {x y : Option Val} [ES env i x env'] : ES (y :: env) (i + 1) x (y :: env') := ⟨by rw [List.set_cons_succ, ES.h (env := env) (i := i) (x := x)], Nat.succ_lt_succ (ES.l (env := env) (x := x) (env' := env'))⟩
/-- not owned -/
class NO (v : Val) : Prop where
  h : v.owned = false
/-- owned -/
class OWN (v : Val) : Prop where
  h : v.owned = true
/-- frozen -/
class FZ (v : Val) (u : outParam Val) : Prop where
  h : freeze v = u
class FZL (vs : List Val) (us : outParam (List Val)) : Prop where
  h : freezeL vs = us
/-- a value that stands for itself, frozen -/
class CV (v : Val) : Prop where
  n : v.owned = false
  h : freeze v = v
instance no_cv {v : Val} [CV v] : NO v := ⟨CV.n⟩
instance fz_cv {v : Val} [CV v] : FZ v v := ⟨CV.h⟩
instance fzl_n : FZL [] [] := ⟨rfl⟩
instance fzl_c {v u : Val} {vs us : List Val} [FZ v u] [FZL vs us] : FZL (v :: vs) (u :: us) := ⟨fr_cons FZ.h FZL.h⟩

instance cv_non  : CV (.non ) := ⟨rfl, rfl⟩
instance cv_bl {b : Bool} : CV (.bl b) := ⟨rfl, rfl⟩
instance cv_int {i : Int} : CV (.int i) := ⟨rfl, rfl⟩
instance cv_str {x : Str} : CV (.str x) := ⟨rfl, rfl⟩
instance cv_ty {n : String} : CV (.ty n) := ⟨rfl, rfl⟩
instance cv_atm {a : Addr} : CV (.atm a) := ⟨rfl, rfl⟩
instance cv_tup {xs : List Val} : CV (.tup xs) := ⟨rfl, rfl⟩
instance cv_exc {C : Str} {ns : List Str} {xs : List Val} : CV (.exc C ns xs) := ⟨rfl, rfl⟩
instance cv_glo {x : Str} : CV (.glo x) := ⟨rfl, rfl⟩
instance cv_lst {xs : List Val} : CV (.lst false xs) := ⟨rfl, rfl⟩
instance cv_dic {ks : List Key} {xs : List Val} : CV (.dic false ks xs) := ⟨rfl, rfl⟩
instance fz_lstt {xs : List Val} : FZ (.lst true xs) (.lst false xs) := ⟨rfl⟩
instance fz_dict {ks : List Key} {xs : List Val} : FZ (.dic true ks xs) (.dic false ks xs) := ⟨rfl⟩
instance own_lst {xs : List Val} : OWN (.lst true xs) := ⟨rfl⟩
instance own_dic {ks : List Key} {xs : List Val} : OWN (.dic true ks xs) := ⟨rfl⟩
instance own_obj {C : Str} {ns : List Str} {xs : List Val} : OWN (.obj true C ns xs) := ⟨rfl⟩
instance own_DR {cells : List Int} {a l u : Int} : OWN (DR cells a l u) := ⟨dr_owned⟩
theorem CV.of {v : Val} (h : v.owned = false) (h2 : v.tyName.isSome = true) : CV v := ⟨h, fz_id h h2⟩
class RDv (env : Env) (r : Res) (v : outParam Val) : Prop where
  h : rd env r = some v
instance rdv_v {env : Env} {v : Val} : RDv env (.val v) v := ⟨rfl⟩
instance rdv_p {env : Env} {i : Nat} {v : Val} [EG env i v] : RDv env (.pl i) v := ⟨by
  have h := EG.h (env := env) (i := i) (v := v)
  unfold rd
  simp only [h]⟩
class RDs (env : Env) (rs : List Res) (vs : outParam (List Val)) : Prop where
  h : rds env rs = some vs
instance rds_n {env : Env} : RDs env [] [] := ⟨rfl⟩
instance rds_c {env : Env} {r : Res} {v : Val} {rs : List Res} {vs : List Val} [RDv env r v] [RDs env rs vs] : RDs env (r :: rs) (v :: vs) := ⟨by
  unfold rds
  simp only [RDv.h (env := env) (r := r) (v := v), RDs.h (env := env) (rs := rs) (vs := vs)]⟩
/-- known truths -/
class BT (c : Bool) (b : outParam Bool) : Prop where
  h : c = b
instance bt_t : BT true true := ⟨rfl⟩
instance bt_f : BT false false := ⟨rfl⟩
instance bt_nt {c : Bool} [BT c true] : BT (!c) false := ⟨by rw [BT.h (c := c) (b := true)] <;> rfl⟩
instance bt_nf {c : Bool} [BT c false] : BT (!c) true := ⟨by rw [BT.h (c := c) (b := false)] <;> rfl⟩
class ISN (v : Val) (b : outParam Bool) : Prop where
  h : v.isN = b
instance isn_non : ISN .non true := ⟨rfl⟩
instance isn_bl {b : Bool} : ISN (.bl b) false := ⟨rfl⟩
instance isn_int {i : Int} : ISN (.int i) false := ⟨rfl⟩
instance isn_str {x : Str} : ISN (.str x) false := ⟨rfl⟩
instance isn_ty {n : String} : ISN (.ty n) false := ⟨rfl⟩
instance isn_atm {a : Addr} : ISN (.atm a) false := ⟨rfl⟩
instance isn_tup {xs : List Val} : ISN (.tup xs) false := ⟨rfl⟩
instance isn_lst {o : Bool} {xs : List Val} : ISN (.lst o xs) false := ⟨rfl⟩
instance isn_dic {o : Bool} {ks : List Key} {xs : List Val} : ISN (.dic o ks xs) false := ⟨rfl⟩
instance isn_obj {o : Bool} {C : Str} {ns : List Str} {xs : List Val} : ISN (.obj o C ns xs) false := ⟨rfl⟩
instance isn_exc {C : Str} {ns : List Str} {xs : List Val} : ISN (.exc C ns xs) false := ⟨rfl⟩
instance isn_glo {x : Str} : ISN (.glo x) false := ⟨rfl⟩
class IST (v : Val) (T : String) (b : outParam Bool) : Prop where
  h1 : v.tyName.isSome = true
  h : isT v T = some b
instance ist_int_non  : IST (.non ) "int" false := ⟨rfl, rfl⟩
instance ist_int_bl {b : Bool} : IST (.bl b) "int" true := ⟨rfl, rfl⟩
instance ist_int_int {i : Int} : IST (.int i) "int" true := ⟨rfl, rfl⟩
instance ist_int_str {x : Str} : IST (.str x) "int" false := ⟨rfl, rfl⟩
instance ist_int_tup {xs : List Val} : IST (.tup xs) "int" false := ⟨rfl, rfl⟩
instance ist_int_lst {o : Bool} {xs : List Val} : IST (.lst o xs) "int" false := ⟨rfl, rfl⟩
instance ist_int_dic {o : Bool} {ks : List Key} {xs : List Val} : IST (.dic o ks xs) "int" false := ⟨rfl, rfl⟩
instance ist_bool_non  : IST (.non ) "bool" false := ⟨rfl, rfl⟩
instance ist_bool_bl {b : Bool} : IST (.bl b) "bool" true := ⟨rfl, rfl⟩
instance ist_bool_int {i : Int} : IST (.int i) "bool" false := ⟨rfl, rfl⟩
instance ist_bool_str {x : Str} : IST (.str x) "bool" false := ⟨rfl, rfl⟩
instance ist_bool_tup {xs : List Val} : IST (.tup xs) "bool" false := ⟨rfl, rfl⟩
instance ist_bool_lst {o : Bool} {xs : List Val} : IST (.lst o xs) "bool" false := ⟨rfl, rfl⟩
instance ist_bool_dic {o : Bool} {ks : List Key} {xs : List Val} : IST (.dic o ks xs) "bool" false := ⟨rfl, rfl⟩
instance ist_str_non  : IST (.non ) "str" false := ⟨rfl, rfl⟩
instance ist_str_bl {b : Bool} : IST (.bl b) "str" false := ⟨rfl, rfl⟩
instance ist_str_int {i : Int} : IST (.int i) "str" false := ⟨rfl, rfl⟩
instance ist_str_str {x : Str} : IST (.str x) "str" true := ⟨rfl, rfl⟩
instance ist_str_tup {xs : List Val} : IST (.tup xs) "str" false := ⟨rfl, rfl⟩
instance ist_str_lst {o : Bool} {xs : List Val} : IST (.lst o xs) "str" false := ⟨rfl, rfl⟩
instance ist_str_dic {o : Bool} {ks : List Key} {xs : List Val} : IST (.dic o ks xs) "str" false := ⟨rfl, rfl⟩
instance ist_tuple_non  : IST (.non ) "tuple" false := ⟨rfl, rfl⟩
instance ist_tuple_bl {b : Bool} : IST (.bl b) "tuple" false := ⟨rfl, rfl⟩
instance ist_tuple_int {i : Int} : IST (.int i) "tuple" false := ⟨rfl, rfl⟩
instance ist_tuple_str {x : Str} : IST (.str x) "tuple" false := ⟨rfl, rfl⟩
instance ist_tuple_tup {xs : List Val} : IST (.tup xs) "tuple" true := ⟨rfl, rfl⟩
instance ist_tuple_lst {o : Bool} {xs : List Val} : IST (.lst o xs) "tuple" false := ⟨rfl, rfl⟩
instance ist_tuple_dic {o : Bool} {ks : List Key} {xs : List Val} : IST (.dic o ks xs) "tuple" false := ⟨rfl, rfl⟩
instance ist_list_non  : IST (.non ) "list" false := ⟨rfl, rfl⟩
instance ist_list_bl {b : Bool} : IST (.bl b) "list" false := ⟨rfl, rfl⟩
instance ist_list_int {i : Int} : IST (.int i) "list" false := ⟨rfl, rfl⟩
instance ist_list_str {x : Str} : IST (.str x) "list" false := ⟨rfl, rfl⟩
instance ist_list_tup {xs : List Val} : IST (.tup xs) "list" false := ⟨rfl, rfl⟩
instance ist_list_lst {o : Bool} {xs : List Val} : IST (.lst o xs) "list" true := ⟨rfl, rfl⟩
instance ist_list_dic {o : Bool} {ks : List Key} {xs : List Val} : IST (.dic o ks xs) "list" false := ⟨rfl, rfl⟩
instance ist_dict_non  : IST (.non ) "dict" false := ⟨rfl, rfl⟩
instance ist_dict_bl {b : Bool} : IST (.bl b) "dict" false := ⟨rfl, rfl⟩
instance ist_dict_int {i : Int} : IST (.int i) "dict" false := ⟨rfl, rfl⟩
instance ist_dict_str {x : Str} : IST (.str x) "dict" false := ⟨rfl, rfl⟩
instance ist_dict_tup {xs : List Val} : IST (.tup xs) "dict" false := ⟨rfl, rfl⟩
instance ist_dict_lst {o : Bool} {xs : List Val} : IST (.lst o xs) "dict" false := ⟨rfl, rfl⟩
instance ist_dict_dic {o : Bool} {ks : List Key} {xs : List Val} : IST (.dic o ks xs) "dict" true := ⟨rfl, rfl⟩
class CATs (xs ys : List Val) (zs : outParam (List Val)) : Prop where
  h : xs ++ ys = zs
instance cats_n {ys : List Val} : CATs [] ys ys := ⟨rfl⟩
instance cats_c {x : Val} {xs ys zs : List Val} [CATs xs ys zs] : CATs (x :: xs) ys (x :: zs) := ⟨cat_cons CATs.h⟩
/-- lists of a known length -/
class LEN (xs : List Val) (n : outParam Nat) : Prop where
  h : xs.length = n
instance len_n : LEN [] 0 := ⟨rfl⟩
instance len_c {x : Val} {xs : List Val} {n : Nat} [LEN xs n] : LEN (x :: xs) (n + 1) := ⟨by rw [List.length_cons, LEN.h (xs := xs)]⟩
class ILs (xs : List Val) (ns : outParam (List Int)) : Prop where
  h : IL xs ns
instance ils_n : ILs [] [] := ⟨il_nil⟩
instance ils_c {i : Int} {xs : List Val} {ns : List Int} [ILs xs ns] : ILs (.int i :: xs) (i :: ns) := ⟨il_cons ILs.h⟩
class XLs (xs : List Val) (ms : outParam (List (List Nat))) : Prop where
  h : XL xs ms
instance xls_n : XLs [] [] := ⟨xl_nil⟩
instance xls_m {ms : List (List Nat)} : XLs (ms.map sx) ms := ⟨xl_map⟩
instance xls_c {a : List Nat} {xs : List Val} {ms : List (List Nat)} [XLs xs ms] : XLs (.str (tx a) :: xs) (a :: ms) := ⟨xl_cons XLs.h⟩
/-! the steps -/
section
variable {W : PX} {nx bk ct : Env → Prop} {rt : Val → Env → Prop} {env e1 env' env2 env3 : Env} {p q ps qs pb : PSt} {pe px py pz po : PEx} {pt pu : PTe} {pa pr pk : PAr} {pg : PGt} {pgs : PGts} {pi : PIt} {Q : Res → Env → Prop} {Qt : Bool → Env → Prop} {Qa : List Res → Env → Prop} {v u x y : Val} {r ra rb : Res} {rs rs2 : List Res} {vs xs ys zs : List Val} {i j l n m : Nat} {b c : Bool} {A B Z : Prop} {R : Val → Prop} {o o' : Bool} {Qi : List Val → Env → Prop} {Qo : Option Int → Env → Prop} {a : List Nat}
instance sx_seq   [Rx (p W ⟨q W ⟨nx, rt, bk, ct⟩, rt, bk, ct⟩ env) Z] : Sx (pSeq p q W ⟨nx, rt, bk, ct⟩ env) Z := ⟨fun z => r_seq (Rx.h z)⟩
instance sx_next   [Rx (nx env) Z] : Sx (pNext W ⟨nx, rt, bk, ct⟩ env) Z := ⟨fun z => r_next (Rx.h z)⟩
instance sx_brk   [Rx (bk env) Z] : Sx (pBreak W ⟨nx, rt, bk, ct⟩ env) Z := ⟨fun z => r_brk (Rx.h z)⟩
instance sx_ct   [Rx (ct env) Z] : Sx (pCont W ⟨nx, rt, bk, ct⟩ env) Z := ⟨fun z => r_ct (Rx.h z)⟩
instance sx_drop   [Rx (pe W env fun _ e1 => nx e1) Z] : Sx (pDrop pe W ⟨nx, rt, bk, ct⟩ env) Z := ⟨fun z => r_drop (Rx.h z)⟩
instance sx_ret   [Rx (pe W env fun r e1 => esc r e1 rt) Z] : Sx (pRet pe W ⟨nx, rt, bk, ct⟩ env) Z := ⟨fun z => r_ret (Rx.h z)⟩
instance sx_retN   [Rx (rt .non env) Z] : Sx (pRetN W ⟨nx, rt, bk, ct⟩ env) Z := ⟨fun z => r_retN (Rx.h z)⟩
instance sx_ifS   [Rx (pt W env fun b e1 => if b = true then p W ⟨nx, rt, bk, ct⟩ e1 else q W ⟨nx, rt, bk, ct⟩ e1) Z] : Sx (pIfS pt p q W ⟨nx, rt, bk, ct⟩ env) Z := ⟨fun z => r_ifS (Rx.h z)⟩
instance sx_set   [Rx (pe W env fun r e1 => esc r e1 fun v e2 => SetK i v e2 nx) Z] : Sx (pSet i pe W ⟨nx, rt, bk, ct⟩ env) Z := ⟨fun z => r_set (Rx.h z)⟩
instance sx_escV   [Rx (rt v env) Z] : Sx (esc (.val v) env rt) Z := ⟨fun z => r_escV (Rx.h z)⟩
instance sx_c   [Rx (Q (.val v) env) Z] : Sx (pC v W env Q) Z := ⟨fun z => r_c (Rx.h z)⟩
instance sx_op {g : G2}  [Rx (px W env fun ra e1 => py W e1 fun rb e2 => Op2 g ra rb e2 Q) Z] : Sx (pOp g px py W env Q) Z := ⟨fun z => r_op (Rx.h z)⟩
instance sx_un {g : G1}  [Rx (px W env fun ra e1 => Op1 g ra e1 Q) Z] : Sx (pUn g px W env Q) Z := ⟨fun z => r_un (Rx.h z)⟩
instance sx_nil   [Rx (Qa [] env) Z] : Sx (aNil W env Qa) Z := ⟨fun z => r_nil (Rx.h z)⟩
instance sx_cons   [Rx (px W env fun r e1 => pr W e1 fun rs e2 => Qa (r :: rs) e2) Z] : Sx (aCons px pr W env Qa) Z := ⟨fun z => r_cons (Rx.h z)⟩
instance sx_cb {g : GN}  [Rx (pa W env fun rs e1 => Cb g rs e1 Q) Z] : Sx (pCB g pa W env Q) Z := ⟨fun z => r_cb (Rx.h z)⟩
instance sx_test   [Rx (pe W env fun r e1 => Ts r e1 Qt) Z] : Sx (pTest pe W env Qt) Z := ⟨fun z => r_test (Rx.h z)⟩
instance sx_tru   [Rx (pe W env fun r e1 => Tu r e1 Qt) Z] : Sx (pTru pe W env Qt) Z := ⟨fun z => r_tru (Rx.h z)⟩
instance sx_and   [Rx (pt W env fun c e1 => if c = true then pu W e1 Qt else Qt false e1) Z] : Sx (pAnd pt pu W env Qt) Z := ⟨fun z => r_and (Rx.h z)⟩
instance sx_or   [Rx (pt W env fun c e1 => if c = true then Qt true e1 else pu W e1 Qt) Z] : Sx (pOr pt pu W env Qt) Z := ⟨fun z => r_or (Rx.h z)⟩
instance sx_not   [Rx (pt W env fun c e1 => Qt (!c) e1) Z] : Sx (pNot pt W env Qt) Z := ⟨fun z => r_not (Rx.h z)⟩
instance sx_if   [Rx (pt W env fun c e1 => if c = true then px W e1 Q else py W e1 Q) Z] : Sx (pIf pt px py W env Q) Z := ⟨fun z => r_if (Rx.h z)⟩
instance sx_andV   [Rx (px W env fun r e1 => AndV r e1 (fun e => py W e Q) Q) Z] : Sx (pAndV px py W env Q) Z := ⟨fun z => r_andV (Rx.h z)⟩
instance sx_orV   [Rx (px W env fun r e1 => OrV r e1 (fun e => py W e Q) Q) Z] : Sx (pOrV px py W env Q) Z := ⟨fun z => r_orV (Rx.h z)⟩
instance sx_notV   [Rx (px W env fun r e1 => NotV r e1 Q) Z] : Sx (pNotV px W env Q) Z := ⟨fun z => r_notV (Rx.h z)⟩
instance sx_chain {g h : G2}  [Rx (px W env fun ra e1 => py W e1 fun rb e2 => Ch1 g h ra rb e2 (fun R => pz W e2 R) Q) Z] : Sx (pChain g h px py pz W env Q) Z := ⟨fun z => r_chain (Rx.h z)⟩
instance sx_escsN {k : List Val → Env → Prop}  [Rx (k [] env) Z] : Sx (escs [] env k) Z := ⟨fun z => r_escsN (Rx.h z)⟩
instance sx_escsC {k : List Val → Env → Prop}  [Rx (esc r env fun v e1 => escs rs e1 fun vs e2 => k (v :: vs) e2) Z] : Sx (escs (r :: rs) env k) Z := ⟨fun z => r_escsC (Rx.h z)⟩
instance sx_tup   [Rx (pa W env fun rs e1 => escs rs e1 fun vs e2 => TupK vs e2 Q) Z] : Sx (pTup pa W env Q) Z := ⟨fun z => r_tup (Rx.h z)⟩
instance sx_lst   [Rx (pa W env fun rs e1 => escs rs e1 fun vs e2 => LstK vs e2 Q) Z] : Sx (pLst pa W env Q) Z := ⟨fun z => r_lst (Rx.h z)⟩
instance sx_oN {Qo : Option Int → Env → Prop}  [Rx (Qo none env) Z] : Sx (oNone W env Qo) Z := ⟨fun z => r_oN (Rx.h z)⟩
instance sx_oS {Qo : Option Int → Env → Prop}  [Rx (pe W env fun r e1 => OsK r e1 Qo) Z] : Sx (oSome pe W env Qo) Z := ⟨fun z => r_oS (Rx.h z)⟩
instance sx_sl {pl ph : POp}  [Rx (pe W env fun r e1 => pl W e1 fun lo e2 => ph W e2 fun hi e3 => SlK r lo hi e3 Q) Z] : Sx (pSl pe pl ph W env Q) Z := ⟨fun z => r_sl (Rx.h z)⟩
instance sx_asg   [Rx (pe W env fun r e1 => esc r e1 fun v e2 => pg v e2 nx) Z] : Sx (pAsg pe pg W ⟨nx, rt, bk, ct⟩ env) Z := ⟨fun z => r_asg (Rx.h z)⟩
instance sx_gcons   [Rx (pg v env fun e1 => pgs vs e1 nx) Z] : Sx (gcons pg pgs (v :: vs) env nx) Z := ⟨fun z => r_gcons (Rx.h z)⟩
instance sx_gnil   [Rx (nx env) Z] : Sx (gnil [] env nx) Z := ⟨fun z => r_gnil (Rx.h z)⟩
instance sx_par   [Rx (pa W env fun rs e1 => escs rs e1 fun vs e2 => ParK i j vs e2 nx) Z] : Sx (pPar i j pa W ⟨nx, rt, bk, ct⟩ env) Z := ⟨fun z => r_par (Rx.h z)⟩
instance sx_setIx   [Rx (pe W env fun r e1 => esc r e1 fun v e2 => px W e2 fun r e3 => py W e3 fun kk e4 => SixK r kk v e4 nx) Z] : Sx (pSetIx pe px py W ⟨nx, rt, bk, ct⟩ env) Z := ⟨fun z => r_setIx (Rx.h z)⟩
instance sx_disp   [Rx (pa W env fun rs e1 => escs rs e1 fun vs e2 => DispK vs e2 Q) Z] : Sx (pDisp pa W env Q) Z := ⟨fun z => r_disp (Rx.h z)⟩
instance sx_dict0   [Rx (Q (.val (.dic true [] [])) env) Z] : Sx (pDict0 W env Q) Z := ⟨fun z => r_dict0 (Rx.h z)⟩
instance sx_iAny {Qi : List Val → Env → Prop}  [Rx (pe W env fun r e1 => esc r e1 fun v e2 => AnyK v e2 Qi) Z] : Sx (iAny pe W env Qi) Z := ⟨fun z => r_iAny (Rx.h z)⟩
instance sx_iR1 {Qi : List Val → Env → Prop}  [Rx (pa W env fun rs e1 => Rg1 rs e1 Qi) Z] : Sx (iRange1 pa W env Qi) Z := ⟨fun z => r_iR1 (Rx.h z)⟩
instance sx_iR2 {Qi : List Val → Env → Prop}  [Rx (pa W env fun rs e1 => Rg2 rs e1 Qi) Z] : Sx (iRange2 pa W env Qi) Z := ⟨fun z => r_iR2 (Rx.h z)⟩
instance sx_iR3 {Qi : List Val → Env → Prop}  [Rx (pa W env fun rs e1 => Rg3 rs e1 Qi) Z] : Sx (iRange3 pa W env Qi) Z := ⟨fun z => r_iR3 (Rx.h z)⟩
instance sx_iZip {Qi : List Val → Env → Prop}  [Rx (pa W env fun rs e1 => escs rs e1 fun vs e2 => ZipK vs e2 Qi) Z] : Sx (iZip pa W env Qi) Z := ⟨fun z => r_iZip (Rx.h z)⟩
instance sx_for   [Rx (pi W env fun xs e1 => pForL pg p xs W ⟨nx, rt, bk, ct⟩ e1) Z] : Sx (pFor pi pg p W ⟨nx, rt, bk, ct⟩ env) Z := ⟨fun z => r_for (Rx.h z)⟩
instance sx_forN   [Rx (nx env) Z] : Sx (pForL pg p [] W ⟨nx, rt, bk, ct⟩ env) Z := ⟨fun z => r_forN (Rx.h z)⟩
instance sx_forC   [Rx (pg x env fun e1 => p W ⟨pForL pg p xs W ⟨nx, rt, bk, ct⟩, rt, nx, pForL pg p xs W ⟨nx, rt, bk, ct⟩⟩ e1) Z] : Sx (pForL pg p (x :: xs) W ⟨nx, rt, bk, ct⟩ env) Z := ⟨fun z => r_forC (Rx.h z)⟩
instance sx_lcN  {acc : List Val} {own : List Nat} {Ql : List Val → Env → Prop} [Rx (Ql acc env) Z] : Sx (pLcL pg pt pe own [] acc env Ql) Z := ⟨fun z => r_lcN (Rx.h z)⟩
instance sx_prepN {ms : List Bool} {k : List Val → List (Option Nat) → Env → Prop}  [Rx (k [] [] env) Z] : Sx (prep ms [] env k) Z := ⟨fun z => r_prepN (Rx.h z)⟩
instance sx_prepC {m : Bool} {ms : List Bool} {k : List Val → List (Option Nat) → Env → Prop}  [Rx (lend m r env fun v l e1 => prep ms rs e1 fun vs ls e2 => k (v :: vs) (l :: ls) e2) Z] : Sx (prep (m :: ms) (r :: rs) env k) Z := ⟨fun z => r_prepC (Rx.h z)⟩
instance sx_lendV {m : Bool} {k : Val → Option Nat → Env → Prop}  [Rx (k v none env) Z] : Sx (lend m (.val v) env k) Z := ⟨fun z => r_lendV (Rx.h z)⟩
instance sx_addI {R : Val → Prop} {i j : Int}  [Rx (R (.int (i + j))) Z] : Sx (gAdd (.int i) (.int j) R) Z := ⟨fun z => r_addI (Rx.h z)⟩
instance sx_subI {R : Val → Prop} {i j : Int}  [Rx (R (.int (i - j))) Z] : Sx (gSub (.int i) (.int j) R) Z := ⟨fun z => r_subI (Rx.h z)⟩
instance sx_addBI {R : Val → Prop} {j : Int}  [Rx (R (.int (b2 b + j))) Z] : Sx (gAdd (.bl b) (.int j) R) Z := ⟨fun z => r_addBI (Rx.h z)⟩
instance sx_subBI {R : Val → Prop} {j : Int}  [Rx (R (.int (b2 b - j))) Z] : Sx (gSub (.bl b) (.int j) R) Z := ⟨fun z => r_subBI (Rx.h z)⟩
instance sx_negI {R : Val → Prop} {i : Int}  [Rx (R (.int (-i))) Z] : Sx (gNeg (.int i) R) Z := ⟨fun z => r_negI (Rx.h z)⟩
instance sx_ltI {R : Val → Prop} {i j : Int}  [Rx (R (.bl (decide (i < j)))) Z] : Sx (gLt (.int i) (.int j) R) Z := ⟨fun z => r_ltI (Rx.h z)⟩
instance sx_leI {R : Val → Prop} {i j : Int}  [Rx (R (.bl (decide (i ≤ j)))) Z] : Sx (gLe (.int i) (.int j) R) Z := ⟨fun z => r_leI (Rx.h z)⟩
instance sx_gtI {R : Val → Prop} {i j : Int}  [Rx (R (.bl (decide (j < i)))) Z] : Sx (gGt (.int i) (.int j) R) Z := ⟨fun z => r_gtI (Rx.h z)⟩
instance sx_geI {R : Val → Prop} {i j : Int}  [Rx (R (.bl (decide (j ≤ i)))) Z] : Sx (gGe (.int i) (.int j) R) Z := ⟨fun z => r_geI (Rx.h z)⟩
instance sx_eqI {R : Val → Prop} {i j : Int}  [Rx (R (.bl (decide (i = j)))) Z] : Sx (gEq (.int i) (.int j) R) Z := ⟨fun z => r_eqI (Rx.h z)⟩
instance sx_neI {R : Val → Prop} {i j : Int}  [Rx (R (.bl (!decide (i = j)))) Z] : Sx (gNe (.int i) (.int j) R) Z := ⟨fun z => r_neI (Rx.h z)⟩
instance sx_lenL {R : Val → Prop} {o : Bool}  [Rx (R (.int xs.length)) Z] : Sx (gLen [.lst o xs] R) Z := ⟨fun z => r_lenL (Rx.h z)⟩
instance sx_lenT {R : Val → Prop}  [Rx (R (.int xs.length)) Z] : Sx (gLen [.tup xs] R) Z := ⟨fun z => r_lenT (Rx.h z)⟩
instance sx_intI {R : Val → Prop} {z : Int}  [Rx (R (.int z)) Z] : Sx (gInt [.int z] R) Z := ⟨fun z => r_intI (Rx.h z)⟩
instance sx_intB {R : Val → Prop}  [Rx (R (.int (if b then 1 else 0))) Z] : Sx (gInt [.bl b] R) Z := ⟨fun z => r_intB (Rx.h z)⟩
instance sx_min2 {R : Val → Prop} {i j : Int}  [Rx (R (.int (if j < i then j else i))) Z] : Sx (gMin [.int i, .int j] R) Z := ⟨fun z => r_min2 (Rx.h z)⟩
instance sx_max2 {R : Val → Prop} {i j : Int}  [Rx (R (.int (if j > i then j else i))) Z] : Sx (gMax [.int i, .int j] R) Z := ⟨fun z => r_max2 (Rx.h z)⟩
instance sx_listL {R : Val → Prop} {o : Bool}  [Rx (R (.lst true xs)) Z] : Sx (gList [.lst o xs] R) Z := ⟨fun z => r_listL (Rx.h z)⟩
instance sx_listT {R : Val → Prop}  [Rx (R (.lst true xs)) Z] : Sx (gList [.tup xs] R) Z := ⟨fun z => r_listT (Rx.h z)⟩
instance sx_tupleL {R : Val → Prop} {o : Bool}  [Rx (R (.tup xs)) Z] : Sx (gTuple [.lst o xs] R) Z := ⟨fun z => r_tupleL (Rx.h z)⟩
instance sx_tupleT {R : Val → Prop}  [Rx (R (.tup xs)) Z] : Sx (gTuple [.tup xs] R) Z := ⟨fun z => r_tupleT (Rx.h z)⟩
instance sx_isB {R : Val → Prop} {a b : Bool}  [Rx (R (.bl (decide (a = b)))) Z] : Sx (gIsB (.bl a) (.bl b) R) Z := ⟨fun z => r_isB (Rx.h z)⟩
instance sx_notB {R : Val → Prop} {a b : Bool}  [Rx (R (.bl (!decide (a = b)))) Z] : Sx (gNotB (.bl a) (.bl b) R) Z := ⟨fun z => r_notB (Rx.h z)⟩
instance sx_reprB {R : Val → Prop} {b : Bool}  [Rx (R (.str (strB b))) Z] : Sx (gRepr [.bl b] R) Z := ⟨fun z => r_reprB (Rx.h z)⟩
instance sx_eqSB {R : Val → Prop} {a b : Bool}  [Rx (R (.bl (decide (a = b)))) Z] : Sx (gEq (.str (strB a)) (.str (strB b)) R) Z := ⟨fun z => r_eqSB (Rx.h z)⟩
instance sx_neSB {R : Val → Prop} {a b : Bool}  [Rx (R (.bl (!decide (a = b)))) Z] : Sx (gNe (.str (strB a)) (.str (strB b)) R) Z := ⟨fun z => r_neSB (Rx.h z)⟩
instance sx_par3 {i j l : Nat}  [Rx (pa W env fun rs e1 => escs rs e1 fun vs e2 => Par3K i j l vs e2 nx) Z] : Sx (pPar3 i j l pa W ⟨nx, rt, bk, ct⟩ env) Z := ⟨fun z => r_par3 (Rx.h z)⟩
instance sx_ms {g : GS} {po : PEx} {pa : PAr}  [Rx (po W env fun r e1 => MsK g r pa W e1 Q) Z] : Sx (pMs g po pa W env Q) Z := ⟨fun z => r_ms (Rx.h z)⟩
instance sx_yes {W : PX} {env : Env} {Q : Bool → Env → Prop}  [Rx (Q true env) Z] : Sx (pYes W env Q) Z := ⟨fun z => r_yes (Rx.h z)⟩
instance sx_allB {α : Type} {p : α → Bool} {as : List α} {o : Bool} {R : Val → Prop}  [Rx (R (.bl (as.all p))) Z] : Sx (gAll [.lst o (as.map fun a => .bl (p a))] R) Z := ⟨fun z => r_allB (Rx.h z)⟩
instance sx_inX  {c : Nat} {l : List Nat} [Rx (R (.bl (decide (c ∈ l)))) Z] : Sx (gIn false (.str (tx [c])) (.str (tx l)) R) Z := ⟨fun z => r_inX (Rx.h z)⟩
instance sx_ninX  {c : Nat} {l : List Nat} [Rx (R (.bl (!decide (c ∈ l)))) Z] : Sx (gIn true (.str (tx [c])) (.str (tx l)) R) Z := ⟨fun z => r_ninX (Rx.h z)⟩
instance sx_starts  {l p : List Nat} [Rx (R (.bl (decide (l.take p.length = p)))) Z] : Sx (m_startswith (tx l) [.str (tx p)] R) Z := ⟨fun z => r_starts (Rx.h z)⟩
instance sx_anyX {Qi : List Val → Env → Prop} {l : List Nat} [Rx (Qi (l.map fun c => sx [c]) env) Z] : Sx (AnyK (.str (tx l)) env Qi) Z := ⟨fun z => r_anyX (Rx.h z)⟩
instance sx_reprN   [Rx (R (.str sNone)) Z] : Sx (gRepr [.non] R) Z := ⟨fun z => r_reprN (Rx.h z)⟩
instance sx_absI  {i : Int} [Rx (R (.int (if i < 0 then -i else i))) Z] : Sx (gAbs [.int i] R) Z := ⟨fun z => r_absI (Rx.h z)⟩
instance sx_drC  {cells : List Int} {a l u : Int} [Rx (R (.lst false (cells.map .int))) Z] : Sx (gIx (DR cells a l u) (.str "cells") R) Z := ⟨fun z => r_drC (Rx.h z)⟩
instance sx_drA  {cells : List Int} {a l u : Int} [Rx (R (.int a)) Z] : Sx (gIx (DR cells a l u) (.str "at") R) Z := ⟨fun z => r_drA (Rx.h z)⟩
instance sx_drL  {cells : List Int} {a l u : Int} [Rx (R (.int l)) Z] : Sx (gIx (DR cells a l u) (.str "left") R) Z := ⟨fun z => r_drL (Rx.h z)⟩
instance sx_drU  {cells : List Int} {a l u : Int} [Rx (R (.int u)) Z] : Sx (gIx (DR cells a l u) (.str "used") R) Z := ⟨fun z => r_drU (Rx.h z)⟩
instance sx_lm  {g : GL} {po : PEx} {pa : PAr} [Rx (po W env fun r e1 => LmA g r pa W e1 Q) Z] : Sx (pLm g po pa W env Q) Z := ⟨fun z => r_lm (Rx.h z)⟩
instance sx_raise  {cls : Str} {fs : List Str} [Rx (pa W env fun rs e1 => escs rs e1 fun vs e2 => RaiseK cls fs vs e2 W) Z] : Sx (pRaise cls fs pa W ⟨nx, rt, bk, ct⟩ env) Z := ⟨fun z => r_raise (Rx.h z)⟩
instance sx_aPick  {ix : List Nat} {dv : List Val} {Q : List Res → Env → Prop} [Rx (pa W env fun rs e1 => pk W e1 fun rs2 e2 => PickK n m ix dv rs rs2 e2 Q) Z] : Sx (aPick n m ix dv pa pk W env Q) Z := ⟨fun z => r_aPick (Rx.h z)⟩
instance sx_chB   [Rx (if c = true then A else B) Z] : Sx (ChB (.bl c) A B) Z := ⟨fun z => r_chB (Rx.h z)⟩
instance (priority := low) sx_isN {R : Val → Prop}  [Rx (R (.bl v.isN)) Z] : Sx (gIsN v .non R) Z := ⟨fun z => r_isN (Rx.h z)⟩
instance (priority := low) sx_notN {R : Val → Prop}  [Rx (R (.bl (!v.isN))) Z] : Sx (gNotN v .non R) Z := ⟨fun z => r_notN (Rx.h z)⟩
instance st_isN [ISN v b] [Rx (R (.bl b)) Z] : Sx (gIsN v .non R) Z := ⟨fun z => r_isN (by rw [ISN.h (v := v) (b := b)]; exact Rx.h z)⟩
instance st_notN [ISN v true] [Rx (R (.bl false)) Z] : Sx (gNotN v .non R) Z := ⟨fun z => r_notN (by rw [ISN.h (v := v) (b := true)]; show R (.bl false); exact Rx.h z)⟩
instance st_notN2 [ISN v false] [Rx (R (.bl true)) Z] : Sx (gNotN v .non R) Z := ⟨fun z => r_notN (by rw [ISN.h (v := v) (b := false)]; show R (.bl true); exact Rx.h z)⟩
instance st_setK [ES env i (some v) env'] [Rx (nx env') Z] : Sx (SetK i v env nx) Z := ⟨fun z => ⟨ES.l (env := env) (i := i) (x := some v) (env' := env'), by rw [ES.h (env := env) (i := i) (x := some v)]; exact Rx.h z⟩⟩
instance st_escP [EG env i v] [FZ v u] [ES env i (some u) env'] [Rx (rt u env') Z] : Sx (esc (.pl i) env rt) Z := ⟨fun z => by
  unfold esc
  simp only [EG.h (env := env) (i := i) (v := v), FZ.h (v := v) (u := u), ES.h (env := env) (i := i) (x := some u) (env' := env')]
  exact Rx.h z⟩
instance st_var [EG env i v] [NO v] [Rx (Q (.val v) env) Z] : Sx (pVar i W env Q) Z := ⟨fun z => r_var EG.h NO.h (Rx.h z)⟩
instance st_varO [EG env i v] [OWN v] [Rx (Q (.pl i) env) Z] : Sx (pVar i W env Q) Z := ⟨fun z => r_varO (v := v) EG.h OWN.h (Rx.h z)⟩
instance st_op2 {g : G2} [RDv env ra v] [RDv env rb u] [Rx (g v u fun x => Q (.val x) env) Z] : Sx (Op2 g ra rb env Q) Z := ⟨fun z => r_op2 RDv.h RDv.h (Rx.h z)⟩
instance st_op1 {g : G1} [RDv env ra v] [Rx (g v fun x => Q (.val x) env) Z] : Sx (Op1 g ra env Q) Z := ⟨fun z => r_op1 RDv.h (Rx.h z)⟩
instance st_cbE {g : GN} [RDs env rs vs] [Rx (g vs fun u => Q (.val u) env) Z] : Sx (Cb g rs env Q) Z := ⟨fun z => r_cbE RDs.h (Rx.h z)⟩
instance st_ts [RDv env r (.bl b)] [Rx (Qt b env) Z] : Sx (Ts r env Qt) Z := ⟨fun z => r_ts RDv.h (Rx.h z)⟩
instance st_tuB [RDv env r (.bl b)] [Rx (Qt b env) Z] : Sx (Tu r env Qt) Z := ⟨fun z => r_tu RDv.h rfl trivial (Rx.h z)⟩
instance st_andE {A : Env → Prop} [RDv env r (.bl c)] [Rx (if c = true then A env else Q (.val (.bl false)) env) Z] : Sx (AndV r env A Q) Z := ⟨fun z => r_andE RDv.h (Rx.h z)⟩
instance st_orE {A : Env → Prop} [RDv env r (.bl c)] [Rx (if c = true then Q (.val (.bl true)) env else A env) Z] : Sx (OrV r env A Q) Z := ⟨fun z => r_orE RDv.h (Rx.h z)⟩
instance st_notE [RDv env r (.bl c)] [Rx (Q (.val (.bl (!c))) env) Z] : Sx (NotV r env Q) Z := ⟨fun z => r_notE RDv.h (Rx.h z)⟩
instance st_ch1 {g h : G2} {pc : (Res → Env → Prop) → Prop} [RDv env ra v] [RDv env rb u] [Rx (g v u fun x => ChB x (pc fun rc e3 => Ch2 h rb rc e3 Q) (Q (.val (.bl false)) env)) Z] : Sx (Ch1 g h ra rb env pc Q) Z := ⟨fun z => r_ch1 RDv.h RDv.h (Rx.h z)⟩
instance st_ch2 {g : G2} [RDv env ra v] [RDv env rb u] [Rx (g v u fun x => Q (.val x) env) Z] : Sx (Ch2 g ra rb env Q) Z := ⟨fun z => r_ch2 RDv.h RDv.h (Rx.h z)⟩
instance st_iteT [BT c true] [Rx A Z] : Sx (if c = true then A else B) Z := ⟨fun z => r_iteT BT.h (Rx.h z)⟩
instance st_iteF [BT c false] [Rx B Z] : Sx (if c = true then A else B) Z := ⟨fun z => r_iteF BT.h (Rx.h z)⟩
theorem len_le1 {n : Nat} (h : xs.length = n) (h2 : n ≤ 1000) : xs.length ≤ sizeLine := by rw [sizeLine_eq]; omega
/-- at most so many -/
class LE (xs : List Val) (n : Nat) : Prop where
  h : xs.length ≤ n
instance le_n {n : Nat} : LE [] n := ⟨Nat.zero_le _⟩
instance le_c {x : Val} {xs : List Val} {n : Nat} [LE xs n] : LE (x :: xs) (n + 1) := ⟨Nat.succ_le_succ LE.h⟩
theorem le_sz (h : xs.length ≤ 60) : xs.length ≤ sizeLine := by rw [sizeLine_eq]; omega
instance st_tupK [LE vs 60] [FZL vs xs] [Rx (Q (.val (.tup xs)) env) Z] : Sx (TupK vs env Q) Z := ⟨fun z => ⟨le_sz LE.h, by rw [FZL.h (vs := vs) (us := xs)]; exact Rx.h z⟩⟩
instance st_lstK [LE vs 60] [FZL vs xs] [Rx (Q (.val (.lst true xs)) env) Z] : Sx (LstK vs env Q) Z := ⟨fun z => ⟨le_sz LE.h, by rw [FZL.h (vs := vs) (us := xs)]; exact Rx.h z⟩⟩
instance st_gnm [ES env i (some v) env'] [Rx (nx env') Z] : Sx (gnm i v env nx) Z := ⟨fun z => ⟨ES.l (env := env) (i := i) (x := some v) (env' := env'), by rw [ES.h (env := env) (i := i) (x := some v)]; exact Rx.h z⟩⟩
instance st_gtp {n : Nat} [LEN xs n] [Rx (pgs xs env nx) Z] : Sx (gtp n pgs (.tup xs) env nx) Z := ⟨fun z => r_gtp LEN.h (Rx.h z)⟩
instance st_parK [ES env i (some v) env'] [ES env' j (some u) env2] [Rx (nx env2) Z] : Sx (ParK i j [v, u] env nx) Z := ⟨fun z => ⟨ES.l (env := env) (i := i) (x := some v) (env' := env'), by
  have h := ES.l (env := env') (i := j) (x := some u) (env' := env2)
  rw [← ES.h (env := env) (i := i) (x := some v) (env' := env'), List.length_set] at h
  exact h, by
  rw [ES.h (env := env) (i := i) (x := some v) (env' := env'), ES.h (env := env') (i := j) (x := some u) (env' := env2)]
  exact Rx.h z⟩⟩
instance st_par3K [ES env i (some v) env'] [ES env' j (some u) env2] [ES env2 l (some x) env3] [Rx (nx env3) Z] : Sx (Par3K i j l [v, u, x] env nx) Z := ⟨fun z => by
  have h1 := ES.l (env := env) (i := i) (x := some v) (env' := env')
  have h2 := ES.l (env := env') (i := j) (x := some u) (env' := env2)
  have h3 := ES.l (env := env2) (i := l) (x := some x) (env' := env3)
  have g1 := ES.h (env := env) (i := i) (x := some v) (env' := env')
  have g2 := ES.h (env := env') (i := j) (x := some u) (env' := env2)
  have g3 := ES.h (env := env2) (i := l) (x := some x) (env' := env3)
  rw [← g2, List.length_set, ← g1, List.length_set] at h3
  rw [← g1, List.length_set] at h2
  refine r_par3K (Nat.ble_eq_true_of_le h1) (Nat.ble_eq_true_of_le h2) (Nat.ble_eq_true_of_le h3) ?_
  rw [g1, g2, g3]
  exact Rx.h z⟩
instance st_anyK1 {b : Bool} [Rx (Qi xs env) Z] : Sx (AnyK (.lst b xs) env Qi) Z := ⟨fun z => r_anyK rfl (Rx.h z)⟩
instance st_anyK2 [Rx (Qi xs env) Z] : Sx (AnyK (.tup xs) env Qi) Z := ⟨fun z => r_anyK rfl (Rx.h z)⟩
class ITM (v : Val) (xs : outParam (List Val)) : Prop where
  h : items v = some xs
instance itm_l : ITM (.lst b xs) xs := ⟨rfl⟩
instance itm_t : ITM (.tup xs) xs := ⟨rfl⟩
instance st_zipK [ITM v xs] [ITM u ys] [Rx (Qi (pairs xs ys) env) Z] : Sx (ZipK [v, u] env Qi) Z := ⟨fun z => r_zipK ITM.h ITM.h (Rx.h z)⟩
instance st_lendT {k : Val → Option Nat → Env → Prop} [EG env i v] [ES env i none env'] [Rx (k v (some i) env') Z] : Sx (lend true (.pl i) env k) Z := ⟨fun z => r_lendT EG.h (by rw [ES.h (env := env) (i := i) (x := none) (env' := env')]; exact Rx.h z)⟩
instance st_lendF {k : Val → Option Nat → Env → Prop} [EG env i v] [FZ v u] [ES env i (some u) env'] [Rx (k u none env') Z] : Sx (lend false (.pl i) env k) Z := ⟨fun z => r_lendF EG.h (by rw [FZ.h (v := v) (u := u), ES.h (env := env) (i := i) (x := some u) (env' := env')]; exact Rx.h z)⟩
instance st_isi {T : String} [IST v T b] [Rx (R (.bl b)) Z] : Sx (gIsi [v, .ty T] R) Z := ⟨fun z => r_isi (IST.h1 (T := T) (b := b)) IST.h (Rx.h z)⟩
instance st_addTk [CATs xs ys zs] [LE zs 60] [Rx (R (.tup zs)) Z] : Sx (gAdd (.tup xs) (.tup ys) R) Z := ⟨fun z => r_addT (by
  have h := LE.h (xs := zs) (n := 60)
  rw [← CATs.h (xs := xs) (ys := ys) (zs := zs), List.length_append] at h
  rw [sizeLine_eq]
  omega) (by rw [CATs.h (xs := xs) (ys := ys) (zs := zs)]; exact Rx.h z)⟩
instance st_addLk [CATs xs ys zs] [LE zs 60] [Rx (R (.lst true zs)) Z] : Sx (gAdd (.lst o xs) (.lst o' ys) R) Z := ⟨fun z => r_addL (by
  have h := LE.h (xs := zs) (n := 60)
  rw [← CATs.h (xs := xs) (ys := ys) (zs := zs), List.length_append] at h
  rw [sizeLine_eq]
  omega) (by rw [CATs.h (xs := xs) (ys := ys) (zs := zs)]; exact Rx.h z)⟩
instance st_eqTI {ns ms : List Int} [ILs xs ns] [ILs ys ms] [Rx (R (.bl (decide (ns = ms)))) Z] : Sx (gEq (.tup xs) (.tup ys) R) Z := ⟨fun z => r_eqTI ILs.h ILs.h (Rx.h z)⟩
instance st_neTI {ns ms : List Int} [ILs xs ns] [ILs ys ms] [Rx (R (.bl (!decide (ns = ms)))) Z] : Sx (gNe (.tup xs) (.tup ys) R) Z := ⟨fun z => r_neTI ILs.h ILs.h (Rx.h z)⟩
instance st_inXT {ms : List (List Nat)} [XLs xs ms] [Rx (R (.bl (decide (a ∈ ms)))) Z] : Sx (gIn false (.str (tx a)) (.tup xs) R) Z := ⟨fun z => r_inXT XLs.h (Rx.h z)⟩
instance st_ninXT {ms : List (List Nat)} [XLs xs ms] [Rx (R (.bl (!decide (a ∈ ms)))) Z] : Sx (gIn true (.str (tx a)) (.tup xs) R) Z := ⟨fun z => r_ninXT XLs.h (Rx.h z)⟩
instance st_inXL {ms : List (List Nat)} [XLs xs ms] [Rx (R (.bl (decide (a ∈ ms)))) Z] : Sx (gIn false (.str (tx a)) (.lst o xs) R) Z := ⟨fun z => r_inXL XLs.h (Rx.h z)⟩
instance st_ninXL {ms : List (List Nat)} [XLs xs ms] [Rx (R (.bl (!decide (a ∈ ms)))) Z] : Sx (gIn true (.str (tx a)) (.lst o xs) R) Z := ⟨fun z => r_ninXL XLs.h (Rx.h z)⟩
instance st_osK {y : Int} [RDv env r (.int y)] [Rx (Qo (some y) env) Z] : Sx (OsK r env Qo) Z := ⟨fun z => r_osK RDv.h (Rx.h z)⟩
instance st_msV {g : GS} {x : Str} [Rx (pa W env fun rs e2 => MsA g x rs e2 Q) Z] : Sx (MsK g (.val (.str x)) pa W env Q) Z := ⟨fun z => r_msV (Rx.h z)⟩
instance st_msA {g : GS} {x : Str} [RDs env rs vs] [Rx (g x vs fun u => Q (.val u) env) Z] : Sx (MsA g x rs env Q) Z := ⟨fun z => r_msA RDs.h (Rx.h z)⟩
instance st_lmP {g : GL} [EG env i (.lst true xs)] [Rx (pa W env fun rs e2 => escs rs e2 fun vs e3 => LmK g i vs e3 Q) Z] : Sx (LmA g (.pl i) pa W env Q) Z := ⟨fun z => r_lmP EG.h (Rx.h z)⟩
class OWs (env : Env) (own : List Nat) : Prop where
  h : ownOk env own
class EN (env : Env) (i : Nat) : Prop where
  h : env[i]? = some none
instance en_z {env : Env} : EN (none :: env) 0 := ⟨rfl⟩
instance en_s {env : Env} {i : Nat} {x : Option Val} [EN env i] : EN (x :: env) (i + 1) := ⟨EN.h (env := env) (i := i)⟩
instance ows_n : OWs env [] := ⟨own_nil⟩
instance ows_N {is : List Nat} [EN env i] [OWs env is] : OWs env (i :: is) := ⟨own_consN EN.h OWs.h⟩
instance ows_V {is : List Nat} [EG env i u] [NO u] [OWs env is] : OWs env (i :: is) := ⟨own_consV (u := u) EG.h NO.h OWs.h⟩
instance st_own {own : List Nat} [OWs env own] [Rx B Z] : Sx (ownOk env own ∧ B) Z := ⟨fun z => r_own OWs.h (Rx.h z)⟩
/-! environments at hand -/
def EK (e : Env) (k : Env → Prop) : Prop := k e
theorem r_ek {e : Env} {k : Env → Prop} (h : k e) : EK e k := h
class NE (e : Env) (e' : outParam Env) : Prop where
  h : e = e'
instance ne_wb0 {fs : Env} : NE (wb [] fs env) env := ⟨by cases fs <;> (unfold wb; rfl)⟩
instance ne_wbe {l : Option Nat} {ls : List (Option Nat)} : NE (wb (l :: ls) [] env) env := ⟨by cases l <;> (unfold wb; rfl)⟩
instance ne_wbs {ls : List (Option Nat)} {fs : Env} [ES env i (some v) env'] [NE (wb ls fs env') env2] : NE (wb (some i :: ls) (some v :: fs) env) env2 := ⟨by
  rw [show wb (some i :: ls) (some v :: fs) env = wb ls fs (env.set i (some v)) from by rw [wb], ES.h (env := env) (i := i) (x := some v) (env' := env')]
  exact NE.h⟩
instance ne_wbn {ls : List (Option Nat)} {fs : Env} [NE (wb ls fs env) env2] : NE (wb (some i :: ls) (none :: fs) env) env2 := ⟨by
  rw [show wb (some i :: ls) (none :: fs) env = wb ls fs env from by rw [wb]]
  exact NE.h⟩
instance ne_wbx {ls : List (Option Nat)} {x : Option Val} {fs : Env} [NE (wb ls fs env) env2] : NE (wb (none :: ls) (x :: fs) env) env2 := ⟨by
  rw [show wb (none :: ls) (x :: fs) env = wb ls fs env from by rw [wb]]
  exact NE.h⟩
instance ne_fi0 : NE (fins [] env) [] := ⟨by unfold fins; rfl⟩
instance ne_fit {ms : List Bool} {x : Option Val} [NE (fins ms env) env'] : NE (fins (true :: ms) (x :: env)) (x :: env') := ⟨by
  rw [show fins (true :: ms) (x :: env) = x :: fins ms env from rfl, NE.h (e := fins ms env) (e' := env')]⟩
instance ne_fif {ms : List Bool} {x : Option Val} [NE (fins ms env) env'] : NE (fins (false :: ms) (x :: env)) (none :: env') := ⟨by
  rw [show fins (false :: ms) (x :: env) = none :: fins ms env from rfl, NE.h (e := fins ms env) (e' := env')]⟩
instance ne_wbf {ms : List Bool} {ls : List (Option Nat)} {e0 : Env} [NE (fins ms e0) e1] [NE (wb ls e1 env) env2] : NE (wb ls (fins ms e0) env) env2 := ⟨by
  rw [NE.h (e := fins ms e0) (e' := e1)]
  exact NE.h⟩
instance ne_wi0 : NE (wipeE env []) env := ⟨rfl⟩
instance ne_wi1 {is : List Nat} [NE (wipeE env is) env'] [ES env' i none env2] : NE (wipeE env (i :: is)) env2 := ⟨by
  rw [show wipeE env (i :: is) = (wipeE env is).set i none from rfl, NE.h (e := wipeE env is) (e' := env'), ES.h (env := env') (i := i) (x := none) (env' := env2)]⟩
class GD (env : Env) (i : Nat) (x : outParam (Option Val)) : Prop where
  h : env.getD i none = x
instance gd_z {x : Option Val} : GD (x :: env) 0 x := ⟨rfl⟩
instance gd_s {x y : Option Val} [GD env i x] : GD (y :: env) (i + 1) x := ⟨by
  have h := GD.h (env := env) (i := i) (x := x)
  rw [List.getD_cons_succ]
  exact h⟩
instance ne_uw0 {e0 : Env} : NE (unwipe env e0 []) env := ⟨rfl⟩
instance ne_uw1 {e0 : Env} {is : List Nat} {x : Option Val} [NE (unwipe env e0 is) env'] [GD e0 i x] [ES env' i x env2] : NE (unwipe env e0 (i :: is)) env2 := ⟨by
  rw [show unwipe env e0 (i :: is) = (unwipe env e0 is).set i (e0.getD i none) from rfl, NE.h (e := unwipe env e0 is) (e' := env'), GD.h (env := e0) (i := i) (x := x), ES.h (env := env') (i := i) (x := x) (env' := env2)]⟩
instance ne_set {x : Option Val} [ES env i x env'] : NE (env.set i x) env' := ⟨ES.h⟩
instance sx_ek {e e' : Env} {k : Env → Prop} [NE e e'] [Rx (k e') Z] : Sx (EK e k) Z := ⟨fun z => by
  show k e
  rw [NE.h (e := e) (e' := e')]
  exact Rx.h z⟩
def AK (xs ys : List Val) (k : List Val → Prop) : Prop := k (xs ++ ys)
instance sx_ak {k : List Val → Prop} [CATs xs ys zs] [Rx (k zs) Z] : Sx (AK xs ys k) Z := ⟨fun z => by
  show k (xs ++ ys)
  rw [CATs.h (xs := xs) (ys := ys) (zs := zs)]
  exact Rx.h z⟩
instance sx_call {f : FSp} {ms : List Bool} [hh : Rx (pa W env fun rs e1 => prep ms rs e1 fun vs ls e2 => f vs (fun exc fin => EK (wb ls fin e2) (W exc)) fun v fin => EK (wb ls fin e2) (Q (.val v))) Z] : Sx (pCall f ms [] pa W env Q) Z := ⟨fun z => r_call (hh.h z)⟩
instance (priority := low) sx_callD {f : FSp} {ms : List Bool} {dv : List Val} [hh : Rx (pa W env fun rs e1 => prep ms rs e1 fun vs ls e2 => AK vs dv fun vs => f vs (fun exc fin => EK (wb ls fin e2) (W exc)) fun v fin => EK (wb ls fin e2) (Q (.val v))) Z] : Sx (pCall f ms dv pa W env Q) Z := ⟨fun z => r_callD (hh.h z)⟩
instance sx_lc {own : List Nat} [hh : Rx (pi W env fun xs e1 => ownOk e1 own ∧ EK (wipeE e1 own) fun e => pLcL pg pt pe own xs [] e fun acc e2 => EK (unwipe e2 e1 own) (Q (.val (.lst true acc)))) Z] : Sx (pLc pi pg pt pe own W env Q) Z := ⟨fun z => r_lc (hh.h z)⟩
instance sx_lcC {acc : List Val} {own : List Nat} {Ql : List Val → Env → Prop} [hh : Rx (pg x env fun e1 => pt (fun _ _ => False) e1 fun b e2 => if b = true then pe (fun _ _ => False) e2 fun r e3 => esc r e3 fun v e4 => acc.length < sizeLine ∧ EK (wipeE e4 own) fun e5 => pLcL pg pt pe own xs (acc ++ [freeze v]) e5 Ql else EK (wipeE e2 own) fun e5 => pLcL pg pt pe own xs acc e5 Ql) Z] : Sx (pLcL pg pt pe own (x :: xs) acc env Ql) Z := ⟨fun z => r_lcC (hh.h z)⟩
instance st_lcK {acc : List Val} {own : List Nat} {Ql : List Val → Env → Prop} [LE acc 50] [FZ v x] [CATs acc [x] ys] [NE env env'] [Rx (pLcL pg pt pe own xs ys env' Ql) Z] : Sx (acc.length < sizeLine ∧ EK env fun e5 => pLcL pg pt pe own xs (acc ++ [freeze v]) e5 Ql) Z := ⟨fun z => ⟨by
  have h := LE.h (xs := acc) (n := 50)
  rw [sizeLine_eq]
  omega, by
  show pLcL pg pt pe own xs (acc ++ [freeze v]) env Ql
  rw [FZ.h (v := v) (u := x), CATs.h (xs := acc) (ys := [x]) (zs := ys), NE.h (e := env) (e' := env')]
  exact Rx.h z⟩⟩
/-! exceptions -/
class RVs (xs : List Val) (ys : outParam (List Val)) : Prop where
  h : xs.reverse = ys
instance rvs1 : RVs [v] [v] := ⟨rfl⟩
instance rvs2 : RVs [v, u] [u, v] := ⟨rfl⟩
class RSs (xs : List Str) (ys : outParam (List Str)) : Prop where
  h : xs.reverse = ys
instance rss1 {s : Str} : RSs [s] [s] := ⟨rfl⟩
instance rss2 {s t : Str} : RSs [s, t] [t, s] := ⟨rfl⟩
instance st_raiseK1 {cls f : Str} [FZ v u] [Rx (W ⟨cls, [f], [u]⟩ env) Z] : Sx (RaiseK cls [f] [v] env W) Z := ⟨fun z => r_raiseK (xs := [u]) (ys := [u]) (ns := [f]) rfl (by show [freeze v] = [u]; rw [FZ.h (v := v) (u := u)]) rfl rfl (Rx.h z)⟩
instance st_raiseK2 {cls f g : Str} {v' u' : Val} [FZ v u] [FZ v' u'] [Rx (W ⟨cls, [g, f], [u', u]⟩ env) Z] : Sx (RaiseK cls [f, g] [v, v'] env W) Z := ⟨fun z => r_raiseK (xs := [u, u']) (ys := [u', u]) (ns := [g, f]) rfl (by show [freeze v, freeze v'] = [u, u']; rw [FZ.h (v := v) (u := u), FZ.h (v := v') (u := u')]) rfl rfl (Rx.h z)⟩
class TABL (tab : List (Str × Bool)) (cls : Str) (b : outParam Bool) : Prop where
  h : tab.lookup cls = some b
def TryX (tab : List (Str × Bool)) (i : Nat) (ps : PSt) (nx : Env → Prop) (rt : Val → Env → Prop) (bk ct : Env → Prop) (W : PX) : PX := TryK tab i ps ⟨nx, rt, bk, ct⟩ W
instance sx_try {tab : List (Str × Bool)} [hh : Rx (pb (TryX tab i ps nx rt bk ct W) ⟨nx, rt, bk, ct⟩ env) Z] : Sx (pTry tab i pb ps W ⟨nx, rt, bk, ct⟩ env) Z := ⟨fun z => r_try (hh.h z)⟩
instance st_tryY {tab : List (Str × Bool)} {cls : Str} {ns : List Str} [TABL tab cls true] [ES env i (some (.exc cls ns xs)) env'] [hh : Rx (ps (fun _ _ => False) ⟨fun e => EK (e.set i none) nx, rt, fun e => EK (e.set i none) bk, fun e => EK (e.set i none) ct⟩ env') Z] : Sx (TryX tab i ps nx rt bk ct W ⟨cls, ns, xs⟩ env) Z := ⟨fun z => r_tryY TABL.h (Nat.ble_eq_true_of_le (ES.l (env := env) (x := some (.exc cls ns xs)) (env' := env'))) (by rw [ES.h (env := env) (i := i) (x := some (.exc cls ns xs)) (env' := env')]; exact hh.h z)⟩
instance st_tryN {tab : List (Str × Bool)} {cls : Str} {ns : List Str} [TABL tab cls false] [Rx (W ⟨cls, ns, xs⟩ env) Z] : Sx (TryX tab i ps nx rt bk ct W ⟨cls, ns, xs⟩ env) Z := ⟨fun z => r_tryN TABL.h (Rx.h z)⟩
class ISC (T : Ist) (v c : Val) (b : outParam Bool) : Prop where
  h : isC T v c = some b
instance st_isC {T : Ist} [ISC T v u b] [Rx (R (.bl b)) Z] : Sx (gIsC T [v, u] R) Z := ⟨fun z => r_isC ISC.h (Rx.h z)⟩
end
end Qv
set_option Elab.async false
set_option linter.all false
set_option maxRecDepth 100000
set_option maxHeartbeats 4000000
namespace Qv
open PySem PySem.Spec PyProof.Rows L2
/-! ### repr of any value of numbers, texts, truths, None in tuples and lists -/
theorem repr_gt {l : List Nat} {n : Nat} (h : As l) (hl : l.length ≤ n) : Gt (4 * n + 2) (reprText (tx l)) := by
  have hq : reprQuote (tx l) ∈ [39, 34] := by rcases quote_two (tx l) with e | e <;> simp [e]
  rw [repr_tx]
  generalize reprQuote (tx l) = q at *
  have q1 : q < 128 := by
    rcases List.mem_cons.mp hq with e | e
    · omega
    · rcases List.mem_cons.mp e with e | e
      · omega
      · cases e
  have aux : ∀ l : List Nat, As l → As (l.flatMap (Builtin.Str.reprChar q)) ∧ (l.flatMap (Builtin.Str.reprChar q)).length ≤ 4 * l.length := by
    intro l
    induction l with
    | nil => exact fun _ => ⟨as_nil, Nat.le_refl _⟩
    | cons x xs ih =>
      intro h
      have ⟨i1, i2⟩ := ih fun c hc => h c (List.mem_cons_of_mem _ hc)
      have ⟨j1, j2⟩ := rc_ok q hq x (h x List.mem_cons_self)
      rw [List.flatMap_cons]
      refine ⟨as_app j2 i1, ?_⟩
      rw [List.length_append, List.length_cons]
      omega
  have ⟨a1, a2⟩ := aux l h
  refine ⟨_, rfl, as_cons q1 (as_app a1 (as_cons q1 as_nil)), ?_⟩
  rw [List.length_cons, List.length_append]
  show _ + 1 + 1 ≤ _
  omega
/-- what repr of v is like: n: its length at most, d: its depth -/
structure RPv (v : Val) (n d : Nat) : Prop where
  nod : v.nod = true
  sh : v.dat.showable = true
  nd : v.dat.hasDict = false
  dp : v.dat.depth ≤ d
  g : Gt n v.dat.shown
inductive Gts : List Str → Nat → Prop
  | nil : Gts [] 0
  | cons {m n : Nat} {t : Str} {ts : List Str} : Gt m t → Gts ts n → Gts (t :: ts) (m + 2 + n)
structure RPl (vs : List Val) (n d : Nat) : Prop where
  nod : nodL vs = true
  sh : PyData.showableAll (datL vs) = true
  nd : PyData.hasDictAll (datL vs) = false
  dp : PyData.depthAll (datL vs) ≤ d
  g : Gts (PyData.shownAll (datL vs)) n
theorem Gts.join : ∀ {ts : List Str} {n : Nat}, Gts ts n → Gt n ((Str.ofString ", ").join ts) := by
  intro ts n h
  induction h with
  | nil => exact ⟨[], by unfold Str.join; rfl, as_nil, by simp⟩
  | @cons m n t ts a b ih =>
    cases ts with
    | nil =>
      unfold Str.join
      exact a.mono (by omega)
    | cons y l =>
      have z := (a.app sep_g).app ih
      unfold Str.join
      exact z
theorem Gts.from_ {ts : List Str} {n : Nat} (h : Gts ts n) : ∀ {k m : Nat} {acc : Str}, Gt m acc → Gt (m + n) (textFrom k acc ts) := by
  induction h with
  | nil => exact fun {k m acc} h => h
  | @cons m' n t ts a b ih =>
    intro k m acc h
    unfold textFrom
    have hs : Gt 2 (Str.ofString (if k > 0 then ", " else "")) := by
      split
      · exact sep_g
      · exact ⟨[], by decide +kernel, as_nil, by simp⟩
    have z := ih (k := k + 1) ((h.app hs).app a)
    exact z.mono (by omega)
theorem rp_non : RPv .non 4 0 := ⟨rfl, rfl, rfl, Nat.le_refl _, [78, 111, 110, 101], by decide +kernel, by unfold As; decide, by decide⟩
theorem rp_bl {b : Bool} : RPv (.bl b) 5 0 := by
  cases b
  · exact ⟨rfl, rfl, rfl, Nat.le_refl _, [70, 97, 108, 115, 101], by decide +kernel, by unfold As; decide, by decide⟩
  · exact ⟨rfl, rfl, rfl, Nat.le_refl _, [84, 114, 117, 101], by decide +kernel, by unfold As; decide, by decide⟩
theorem rp_int {i : Int} (h : -100000000000000000000 < i ∧ i < 100000000000000000000) : RPv (.int i) 21 0 := by
  have hb : i.natAbs < 10 ^ 20 := by
    rw [show (10 ^ 20 : Nat) = 100000000000000000000 by decide]
    omega
  refine ⟨rfl, ?_, rfl, Nat.le_refl _, si i, ?_, as_si i, si_len hb (by decide)⟩
  · have lg : i.natAbs.log2 < 1920 := log_le (Nat.le_of_lt (Nat.lt_trans hb (by decide)))
    simp [Val.dat, PyData.showable, lg]
  · simp only [Val.dat, PyData.shown, str_int]
theorem rp_str {l : List Nat} {n : Nat} (h : As l) (hl : l.length ≤ n) : RPv (.str (tx l)) (4 * n + 2) 0 :=
  ⟨rfl, rfl, rfl, by show PyData.depth (.str (tx l)) ≤ 0; simp [PyData.depth], repr_gt h hl⟩
theorem rpl_nil : RPl [] 0 0 := ⟨rfl, rfl, rfl, Nat.le_refl _, .nil⟩
theorem rpl_cons {v : Val} {vs : List Val} {n m d e : Nat} (a : RPv v n d) (b : RPl vs m e) : RPl (v :: vs) (n + 2 + m) (max d e) := by
  refine ⟨?_, ?_, ?_, ?_, ?_⟩
  · show (v.nod && nodL vs) = true
    rw [a.nod, b.nod] <;> rfl
  · simp [datL, PyData.showableAll, a.sh, b.sh]
  · simp [datL, PyData.hasDictAll, a.nd, b.nd]
  · simp only [datL, PyData.depthAll]
    have := a.dp
    have := b.dp
    omega
  · simp only [datL, PyData.shownAll]
    exact .cons a.g b.g
theorem rp_tup {vs : List Val} {n d : Nat} (a : RPl vs n d) : RPv (.tup vs) (n + 3) (d + 1) := by
  refine ⟨a.nod, ?_, ?_, ?_, ?_⟩
  · simp [Val.dat, PyData.showable, a.sh]
  · simp [Val.dat, PyData.hasDict, a.nd]
  · simp only [Val.dat, PyData.depth]
    have := a.dp
    omega
  · simp only [Val.dat, PyData.shown]
    have g1 : Gt 1 (Str.ofString "(") := ⟨[40], by decide +kernel, by unfold As; decide, by decide⟩
    have g2 : ∀ c : Bool, Gt 2 (Str.ofString (if c = true then ",)" else ")")) := fun c => by
      cases c
      · exact ⟨[41], by decide +kernel, by unfold As; decide, by decide⟩
      · exact ⟨[44, 41], by decide +kernel, by unfold As; decide, by decide⟩
    have z := (g1.app a.g.join).app (g2 ((PyData.shownAll (datL vs)).length == 1))
    exact Gt.mono z (by omega)
theorem rp_lst {o : Bool} {vs : List Val} {n d : Nat} (a : RPl vs n d) : RPv (.lst o vs) (n + 2) (d + 1) := by
  refine ⟨a.nod, ?_, ?_, ?_, ?_⟩
  · simp [Val.dat, PyData.showable, a.sh]
  · simp [Val.dat, PyData.hasDict, a.nd]
  · simp only [Val.dat, PyData.depth]
    have := a.dp
    omega
  · simp only [Val.dat, PyData.shown]
    have g1 : Gt 1 (Str.ofString "[") := ⟨[91], by decide +kernel, by unfold As; decide, by decide⟩
    have g2 : Gt 1 (Str.ofString "]") := ⟨[93], by decide +kernel, by unfold As; decide, by decide⟩
    have z := (Gts.from_ a.g (k := 0) g1).app g2
    exact Gt.mono z (by omega)
/-- repr's text -/
def rpr (v : Val) : Str := v.dat.shown
theorem rpr_ok {v : Val} {n d : Nat} (a : RPv v n d) : PyData.strOk (rpr v) = true := by
  obtain ⟨l, e, h, _⟩ := a.g
  unfold rpr
  rw [e]
  exact as_ok h
theorem r_reprV {v : Val} {n d : Nat} {R : Val → Prop} (a : RPv v n d) (h1 : Nat.ble n 16777216 = true) (h2 : Nat.ble d 100 = true) (k : R (.str (rpr v))) : gRepr [v] R := by
  obtain ⟨l, e, _, h⟩ := a.g
  have h1 := Nat.le_of_ble_eq_true h1
  refine ⟨a.nod, a.sh, a.nd, Nat.le_trans a.dp (Nat.le_of_ble_eq_true h2), ?_, k⟩
  rw [e, tx_len, sizeLine_eq]
  omega
theorem r_eqRp {v : Val} {n d : Nat} {R : Val → Prop} (a : RPv v n d) (k : R (.bl true)) : gEq (.str (rpr v)) (.str (rpr v)) R := r_eqSS (rpr_ok a) k
theorem r_neRp {v : Val} {n d : Nat} {R : Val → Prop} (a : RPv v n d) (k : R (.bl false)) : gNe (.str (rpr v)) (.str (rpr v)) R := r_neSS (rpr_ok a) k
/-- the same text, whatever flag a list in it bears -/
theorem rpr_lst {o : Bool} {vs : List Val} : rpr (.lst o vs) = rpr (.lst false vs) := rfl
end Qv
set_option Elab.async false
set_option linter.all false
set_option maxRecDepth 100000
set_option maxHeartbeats 4000000
namespace Qv
open PySem PySem.Spec PyProof.Rows L2
/-! ### t < u of tuples of numbers -/
def gLtX : G2 := fun v w Q => match v, w with
  | .tup xs, .tup ys => ∃ ns ms : List Int, xs = ns.map Val.int ∧ ys = ms.map Val.int ∧ Q (.bl (HT.lexLt ns ms))
  | v, w => gLt v w Q
theorem fzn_of_ints {K : PySem.W.Frag} {Fz : Addr → Prop} {H : Hp} : ∀ {ns : List Int} {vs : List V}, FznL K Fz H (ns.map Val.int) vs → vs = ns.map V.int
  | [], vs, h => h
  | n :: ns, vs, h => by
    obtain ⟨v, r, e, h1, h2⟩ := h
    subst e
    rw [show v = V.int n from h1, fzn_of_ints h2]
    rfl
abbrev r_ltX : PySem.W.Frag → R2 := fun K x y H Q => (rI0 (fun i j => .bl (decide (i < j))) x y H Q ∨ ∃ i j, x = V.str i ∧ y = V.str j ∧ Q (.bl (decide (i.cps.toList < j.cps.toList))) H) ∨ rLtT K x y H Q
theorem o_ltX (X : Cx) (h : Cm X) : OpR X (compareOp .Lt) (r_ltX X.K) := OpR.or op_ltU (op_ltT (by have := h.hu; omega))
theorem z_ltX (K : PySem.W.Frag) : S2 K (r_ltX K) gLtX := by
  intro Fz H v w V W Qp Q' F o1 o2 q a
  unfold gLtX at q
  split at q
  · obtain ⟨ns, ms, e1, e2, q⟩ := q
    subst e1 e2
    obtain ⟨a1, vs, e, t1, l1⟩ := o1.tup
    obtain ⟨a2, us, e', t2, l2⟩ := o2.tup
    subst e e'
    rw [fzn_of_ints l1] at t1
    rw [fzn_of_ints l2] at t2
    exact .inr ⟨a1, a2, ns, ms, rfl, rfl, t1.sq, t2.sq, aft_bl a q⟩
  · exact .inl (s_cmp Fz H _ _ _ _ Qp Q' F o1 o2 q a)
section
variable {ι : Type} {X : ι → Cx} {P : Program} {w : World} {K : PySem.W.Frag} {mg : Str → Option Value} {base : Heap} {N : List Str} {W : WX} {pn : List Nat} {k : Nat} {x y : Expr} {px py : PEx} {pos : Pos}
theorem q_ltX (c : Ct X P w K mg base N W k) (a : QE X K W pn x px) (b : QE X K W pn y py) : QE X K W pn (.Compare x [.Lt] [y] pos) (pOp gLtX px py) := q_cmp c o_ltX z_ltX (fun b _ => nomark b) a b
theorem t_ltX (c : Ct X P w K mg base N W k) (a : QE X K W pn x px) (b : QE X K W pn y py) : QT X K W pn (.Compare x [.Lt] [y] pos) (pTest (pOp gLtX px py)) := t_cmp c o_ltX z_ltX (fun b _ => nomark b) a b
end
section
variable {R : Val → Prop} {Z : Prop}
instance sx_ltXI {i j : Int} [Rx (R (.bl (decide (i < j)))) Z] : Sx (gLtX (.int i) (.int j) R) Z := ⟨fun z => (Rx.h z : R (.bl (decide (i < j))))⟩
instance sx_ltXT {xs ys : List Val} {ns ms : List Int} [ILs xs ns] [ILs ys ms] [Rx (R (.bl (HT.lexLt ns ms))) Z] : Sx (gLtX (.tup xs) (.tup ys) R) Z := ⟨fun z => ⟨ns, ms, ILs.h, ILs.h, Rx.h z⟩⟩
end
theorem sh_intsL (o : Bool) (ns : List Int) : SeqAt.shaped (Val.lst o (ns.map Val.int)).dat = true := by
  have z := dp_ints ns
  simp only [Val.dat, SeqAt.shaped, PyData.canLay0, PyData.depth, cl_ints, Bool.and_eq_true, decide_eq_true_eq, true_and]
  try omega
theorem r_eqLI {R : Val → Prop} {xs ys : List Val} {ns ms : List Int} {o o' : Bool} (h : IL xs ns) (h2 : IL ys ms) (k : R (.bl (decide (ns = ms)))) : gEq (.lst o xs) (.lst o' ys) R := by
  rw [show xs = _ from h, show ys = _ from h2]
  refine r_eqv (by simp [Val.nod, nod_ints]) (by simp [Val.nod, nod_ints]) (sh_intsL o ns) (sh_intsL o' ms) ?_ k
  simp only [Val.dat, PyData.eqv]
  exact ea_ints ns ms
theorem r_neLI {R : Val → Prop} {xs ys : List Val} {ns ms : List Int} {o o' : Bool} (h : IL xs ns) (h2 : IL ys ms) (k : R (.bl (!decide (ns = ms)))) : gNe (.lst o xs) (.lst o' ys) R := by
  rw [show xs = _ from h, show ys = _ from h2]
  refine r_nev (by simp [Val.nod, nod_ints]) (by simp [Val.nod, nod_ints]) (sh_intsL o ns) (sh_intsL o' ms) ?_ k
  simp only [Val.dat, PyData.eqv]
  exact ea_ints ns ms
instance sx_eqLI {R : Val → Prop} {Z : Prop} {xs ys : List Val} {ns ms : List Int} {o o' : Bool} [ILs xs ns] [ILs ys ms] [Rx (R (.bl (decide (ns = ms)))) Z] : Sx (gEq (.lst o xs) (.lst o' ys) R) Z := ⟨fun z => r_eqLI ILs.h ILs.h (Rx.h z)⟩
instance sx_neLI {R : Val → Prop} {Z : Prop} {xs ys : List Val} {ns ms : List Int} {o o' : Bool} [ILs xs ns] [ILs ys ms] [Rx (R (.bl (!decide (ns = ms)))) Z] : Sx (gNe (.lst o xs) (.lst o' ys) R) Z := ⟨fun z => r_neLI ILs.h ILs.h (Rx.h z)⟩
theorem r_eqB {R : Val → Prop} {a b : Bool} (k : R (.bl (a == b))) : gEq (.bl a) (.bl b) R := r_eqv rfl rfl (by cases a <;> rfl) (by cases b <;> rfl) (by cases a <;> cases b <;> rfl) k
theorem r_neB {R : Val → Prop} {a b : Bool} (k : R (.bl (!(a == b)))) : gNe (.bl a) (.bl b) R := r_nev rfl rfl (by cases a <;> rfl) (by cases b <;> rfl) (by cases a <;> cases b <;> rfl) k
instance sx_eqB {R : Val → Prop} {Z : Prop} {a b : Bool} [Rx (R (.bl (a == b))) Z] : Sx (gEq (.bl a) (.bl b) R) Z := ⟨fun z => r_eqB (Rx.h z)⟩
instance sx_neB {R : Val → Prop} {Z : Prop} {a b : Bool} [Rx (R (.bl (!(a == b)))) Z] : Sx (gNe (.bl a) (.bl b) R) Z := ⟨fun z => r_neB (Rx.h z)⟩
/-! calls by keywords -/
class CATR (xs ys : List Res) (zs : outParam (List Res)) : Prop where
  h : xs ++ ys = zs
instance catr_n {ys : List Res} : CATR [] ys ys := ⟨rfl⟩
instance catr_c {x : Res} {xs ys zs : List Res} [CATR xs ys zs] : CATR (x :: xs) ys (x :: zs) := ⟨by rw [List.cons_append, CATR.h (xs := xs) (ys := ys) (zs := zs)]⟩
class MAPV (dv : List Val) (rs : outParam (List Res)) : Prop where
  h : dv.map Res.val = rs
instance mapv_n : MAPV [] [] := ⟨rfl⟩
instance mapv_c {v : Val} {dv : List Val} {rs : List Res} [MAPV dv rs] : MAPV (v :: dv) (.val v :: rs) := ⟨by rw [List.map_cons, MAPV.h (dv := dv) (rs := rs)]⟩
class GETR (l : List Res) (i : Nat) (r : outParam Res) : Prop where
  h : l[i]? = some r
instance getr_z {r : Res} {l : List Res} : GETR (r :: l) 0 r := ⟨rfl⟩
instance getr_s {r x : Res} {l : List Res} {i : Nat} [GETR l i r] : GETR (x :: l) (i + 1) r := ⟨GETR.h (l := l) (i := i)⟩
class PICKs (ix : List Nat) (l : List Res) (o : outParam (List Res)) : Prop where
  h : pick ix l = o
instance picks_n {l : List Res} : PICKs [] l [] := ⟨rfl⟩
instance picks_c {ix : List Nat} {l o : List Res} {i : Nat} {r : Res} [GETR l i r] [PICKs ix l o] : PICKs (i :: ix) l (r :: o) := ⟨by
  unfold pick
  rw [List.filterMap_cons, GETR.h (l := l) (i := i) (r := r)]
  show r :: pick ix l = _
  rw [PICKs.h (ix := ix) (l := l) (o := o)]⟩
class LENR (rs : List Res) (n : Nat) : Prop where
  h : rs.length = n
instance lenr_n : LENR [] 0 := ⟨rfl⟩
instance lenr_c {x : Res} {rs : List Res} {n : Nat} [LENR rs n] : LENR (x :: rs) (n + 1) := ⟨by rw [List.length_cons, LENR.h (rs := rs) (n := n)]⟩
instance sx_pickK {n m : Nat} {ix : List Nat} {dv : List Val} {rs rs2 l1 l2 l3 o : List Res} {e : Env} {Q : List Res → Env → Prop} {Z : Prop} [LENR rs n] [LENR rs2 m] [CATR rs rs2 l1] [MAPV dv l2] [CATR l1 l2 l3] [PICKs ix l3 o] [Rx (Q o e) Z] : Sx (PickK n m ix dv rs rs2 e Q) Z :=
  ⟨fun z => r_aPickK LENR.h LENR.h (rs3 := o) (by rw [CATR.h (xs := rs) (ys := rs2) (zs := l1), MAPV.h (dv := dv) (rs := l2), CATR.h (xs := l1) (ys := l2) (zs := l3)]; exact PICKs.h) (Rx.h z)⟩
end Qv
set_option Elab.async false
set_option linter.all false
set_option maxRecDepth 100000
set_option maxHeartbeats 4000000
set_option synthInstance.maxHeartbeats 4000000
set_option synthInstance.maxSize 100000
namespace Qv
open PySem PySem.Spec PyProof.Rows L2
/-! ### xs.extend(ys), both lists of one's own -/
def ExtK (i : Nat) (rs : List Res) (e : Env) (Q : Res → Env → Prop) : Prop := match e[i]?, rds e rs with
  | some (some (.lst true xs)), some [.lst true ys] => xs.length + ys.length ≤ sizeLine ∧ Q (.val .non) (e.set i (some (.lst true (xs ++ ys))))
  | _, _ => False
def ExtP (pa : PAr) (W : PX) (Q : Res → Env → Prop) (r : Res) (e1 : Env) : Prop := match r with
  | .pl i => (match e1[i]? with
    | some (some (.lst true _)) => pa W e1 fun rs e2 => ExtK i rs e2 Q
    | _ => False)
  | _ => False
def pExt (po : PEx) (pa : PAr) : PEx := fun W env Q => po W env fun r e1 => ExtP pa W Q r e1
section
variable {K : PySem.W.Frag} {W : WX} {pn : List Nat} {fl fl2 : Bool}
theorem sim_ext {to : TE} {po : PEx} {t : TA} {pa : PAr} (ho : SimE K W pn fl to po) (ha : SimA K W pn fl2 t pa) : SimE K W pn false (tBM K "list" rExtend to t) (pExt po pa) := by
  intro Wp env σ H Fz O fp pv Q Q' F P hp hx hq
  refine ho Wp env σ H Fz O fp pv _ _ F P hp hx fun r1 e1 V1 H1 Fz1 fp1 f1 s1 k1 F1 o1 t1 q1 => ?_
  unfold ExtP at q1
  split at q1
  · rename_i i
    obtain ⟨ef, sV⟩ := o1
    subst ef
    split at q1
    · rename_i xs0 hxs0
      obtain ⟨a, vs0, e1', e2', h1', h2'⟩ := F1.lst hxs0 sV
      subst e1'
      refine ⟨.inl ⟨rfl, vs0, .of h1'⟩, ?_⟩
      refine ha Wp e1 σ H1 Fz1 O fp1 pv _ _ F1 P q1 (hx.step s1 fun _ h => h) fun rs e2 Vs H2 Fz2 fp2 f2 s2 k2 F2 r2 t2 q2 => ?_
      unfold ExtK at q2
      split at q2
      · rename_i xs ys hxs hys
        obtain ⟨a2, ws, e4, e5, h4, h5⟩ := F2.lst hxs sV
        cases e4
        have na : ¬ Fz2 a := (F2.nf i a (by rw [e5]; simp)).1
        match rs, r2, hys with
        | [], _, hys => cases hys
        | r :: rs', r2, hys =>
          obtain ⟨V, Ws, g1, g2, eV, eg, x1, x2⟩ := r2
          subst eV
          unfold rds at hys
          cases e6 : rd e2 r with
          | none => rw [e6] at hys; cases hys
          | some v =>
            cases e7 : rds e2 rs' with
            | none => rw [e6, e7] at hys; cases hys
            | some vs' =>
              rw [e6, e7] at hys
              cases hys
              have e8 : rs' = [] := by
                cases rs' with
                | nil => rfl
                | cons r' rs' =>
                  unfold rds at e7
                  split at e7 <;> cases e7
              subst e8
              obtain ⟨e9, _⟩ := x2
              subst e9
              obtain ⟨f, o⟩ := x1.peek F2 e6
              obtain ⟨b, us, eb, ef, hb, lz⟩ := o
              subst eb
              refine ⟨a, b, ws, us, rfl, rfl, h4, hb, by rw [h5.len, lz.len]; exact q2.1, ?_⟩
              obtain ⟨F5, s5⟩ := F2.mut (v' := .lst true (xs ++ ys)) (o := .lst (ws ++ us)) (List.getElem?_eq_some_iff.mp hxs).1 sV e5 ⟨a, ws ++ us, rfl, rfl, upd_same, (FznL.app2 h5 lz).upd na⟩
              exact hq (.val .non) _ .non _ _ fp2 [] ((s1.trans s2 fun _ h => h).trans s5 fun _ h => h) (fun z => by cases z) F5 ⟨rfl, rfl⟩ .nil q2.2
      · exact q2.elim
    · exact q1.elim
  · exact q1.elim
end
section
variable {ι : Type} {X : ι → Cx} {P : Program} {w : World} {K : PySem.W.Frag} {mg : Str → Option Value} {base : Heap} {N : List Str} {W : WX} {pn ts us : List Nat} {k : Nat} {x : Expr} {px : PEx} {e : Expr} {es : List Expr} {pos p apos cpos : Pos} {pa : PAr}
theorem ql_extend (c : Ct X P w K mg base N W k) (a : QE X K W pn x px) (b : QA X K W pn (e :: es) pa)
    (hbase : ∀ i, attributeBase x "extend" (X i).env (eval x (X i).env) = eval x (X i).env := by exact fun _ => rfl)
    (hfew : ∀ i, ((backTo cpos (starEach (e :: es) (X i).env)).all (fun x => !x.1) && (backToKw cpos (keywordEach [] (X i).env)).all (fun x => x.1.isSome)
      && decide ((e :: es).length + ([] : List Keyword).length + (if ([] : List Keyword).isEmpty then 0 else 1) < 30)) = true := by exact fun _ => rfl)
    (hline : (apos.endLine == cpos.line) = true := by rfl) (hst : ∀ i, starEach (e :: es) (X i).env = (false, eval e (X i).env) :: starEach es (X i).env := by exact fun _ => rfl) (hpl : ∀ i, (backTo cpos (starEach es (X i).env)).any (·.1) = false := by exact fun _ => rfl) :
    QE X K W pn (.Call (.Attribute x "extend" apos) (e :: es) [] cpos) (pExt px pa) := by
  obtain ⟨t, fl, a, a2⟩ := a
  obtain ⟨u, fl2, b, b2⟩ := b
  refine ⟨_, _, fun i => ?_, sim_ext a2 b2⟩
  have z := pe_bm F.plainAttrs_list F.slot_list_extend F.type_list_extend (r := rExtend) mt_extend (a i) (b i) (hbase i) (hfew i) hline (hst i) (hpl i)
  rw [c.hK i] at z
  exact z
end
section
variable {W : PX} {env env' : Env} {po : PEx} {pa : PAr} {Q : Res → Env → Prop} {Z : Prop} {i : Nat} {xs ys zs : List Val} {rs : List Res}
instance sx_ext [Rx (po W env fun r e1 => ExtP pa W Q r e1) Z] : Sx (pExt po pa W env Q) Z := ⟨fun z => (Rx.h z : po W env fun r e1 => ExtP pa W Q r e1)⟩
instance sx_extP [EG env i (.lst true xs)] [Rx (pa W env fun rs e2 => ExtK i rs e2 Q) Z] : Sx (ExtP pa W Q (.pl i) env) Z := ⟨fun z => by
  unfold ExtP
  simp only [EG.h (env := env) (i := i) (v := .lst true xs)]
  exact Rx.h z⟩
theorem r_extK (h : env[i]? = some (some (.lst true xs))) (h2 : rds env rs = some [.lst true ys]) (h3 : xs.length + ys.length ≤ sizeLine) (k : Q (.val .non) (env.set i (some (.lst true (xs ++ ys))))) : ExtK i rs env Q := by
  unfold ExtK
  simp only [h, h2]
  exact ⟨h3, k⟩
instance sx_extK [EG env i (.lst true xs)] [RDs env rs [.lst true ys]] [CATs xs ys zs] [LE zs 60] [ES env i (some (.lst true zs)) env'] [Rx (Q (.val .non) env') Z] : Sx (ExtK i rs env Q) Z := ⟨fun z => r_extK (xs := xs) (ys := ys) EG.h RDs.h (by
  have h := LE.h (xs := zs) (n := 60)
  rw [← CATs.h (xs := xs) (ys := ys) (zs := zs), List.length_append] at h
  rw [sizeLine_eq]
  omega) (by rw [CATs.h (xs := xs) (ys := ys) (zs := zs), ES.h (env := env) (i := i) (x := some (.lst true zs)) (env' := env')]; exact Rx.h z)⟩
end
end Qv
set_option Elab.async false
set_option linter.all false
set_option maxRecDepth 100000
set_option maxHeartbeats 4000000
set_option synthInstance.maxHeartbeats 4000000
set_option synthInstance.maxSize 100000
/-! ### != of lists whose items are equal, empty dicts among them -/
namespace PySem.SeqAt
open AutoSeq1 (wpAny_loadPart')
open MeetsSeq MeetsSeq2 MeetsSeq3 SeqRoads2
section
variable {prog : Program} {w : World}
theorem qv_ne_loop (l b : Addr) (items items2 : Array Value) (n n2 : Nat) (dd dd2 : Option Addr) (sl sl2 : Array (Option Value)) (hsz : items.size = items2.size) (k : Nat) :
    ∀ i : Nat, items.size - i = k → MeetsIn prog w (Builtin.«list.__eq__.loop» ⟨[.ref l, .ref b, rawInt i, rawInt 3], []⟩)
      (fun A R s => s.heap.get? l = some { cls := .type "list", dict := dd, data := .seq items n, slots := sl } ∧ s.heap.get? b = some { cls := .type "list", dict := dd2, data := .seq items2 n2, slots := sl2 } ∧
        (∀ j (h1 : j < items.size) (h2 : j < items2.size), EqP prog w A.in1 s items[j] items2[j] true) ∧
        R (.ok (.ret (.bool false))) s) := by
  induction k with
  | zero =>
    intro i hk A R s h
    obtain ⟨hp, g, d, tk, os⟩ := s; obtain ⟨hl, hb, he, h⟩ := h
    wp_walk using wpAny_loadPart' hl, wpAny_loadPart' hb
    have hi1 : items[((i : Nat) : Int).toNat]? = none := by simp; omega
    have hi2 : items2[((i : Nat) : Int).toNat]? = none := by simp; omega
    rw [hi1, hi2]
    wp_walk using wpAny_loadPart' hl, wpAny_loadPart' hb
    show R (.ok (.ret (.bool (items.size != items2.size)))) _
    rw [hsz]
    simpa using h
  | succ k ih =>
    intro i hk A R s h
    obtain ⟨hp, g, d, tk, os⟩ := s; obtain ⟨hl, hb, he, h⟩ := h
    wp_walk using wpAny_loadPart' hl, wpAny_loadPart' hb
    have hlt : i < items.size := by omega
    have hlt2 : i < items2.size := by omega
    have hi1 : items[((i : Nat) : Int).toNat]? = some items[i] := by simp [hlt]
    have hi2 : items2[((i : Nat) : Int).toNat]? = some items2[i] := by simp [hlt2]
    have hc : ((i : Int) + 1) = ((i + 1 : Nat) : Int) := by push_cast; rfl
    rw [hi1, hi2]
    refine wpAny_bind (he i hlt hlt2 _ _ ?_)
    wp_walk
    rw [hc]
    exact ⟨plainId_quiet plain_eq_loop _, codeAny_builtin entry_eq_loop (by
      rw [Around.under_plainId plain_eq_loop _]
      exact ih (i + 1) (by omega) A R _ ⟨hl, hb, he, h⟩)⟩
theorem qv_list_ne (l b : Addr) (items items2 : Array Value) (n n2 : Nat) (dd dd2 : Option Addr) (sl sl2 : Array (Option Value)) (hsz : items.size = items2.size) :
    MeetsIn prog w (Builtin.«list.__ne__» ⟨[.ref l, .ref b], []⟩)
      (fun A R s => s.heap.get? l = some { cls := .type "list", dict := dd, data := .seq items n, slots := sl } ∧ s.heap.get? b = some { cls := .type "list", dict := dd2, data := .seq items2 n2, slots := sl2 } ∧
        (∀ j (h1 : j < items.size) (h2 : j < items2.size), EqP prog w A.in1 s items[j] items2[j] true) ∧
        R (.ok (.ret (.bool false))) s) := by
  intro A R s h
  obtain ⟨hp, g, d, tk, os⟩ := s; obtain ⟨hl, hb, he, h⟩ := h
  have f3 := AutoSeq1.sub_list_list
  have hne : ¬ (items.size != items2.size) = true := by simp [hsz]
  wp_walk using wpAny_loadPart' hl, wpAny_loadPart' hb
  exact ⟨plainId_quiet plain_eq_loop _, codeAny_builtin entry_eq_loop (by
    rw [Around.under_plainId plain_eq_loop _]
    exact qv_ne_loop l b items items2 n n2 dd dd2 sl sl2 hsz _ 0 rfl A R _ ⟨hl, hb, he, h⟩)⟩
theorem qv_ne_lists {A : Around} {s : Shared} {l b : Addr} {items items2 : Array Value} (hl : s.heap.IsList l items) (hb : s.heap.IsList b items2) (hsz : items.size = items2.size) (hu : A.units < cLine)
    (he : ∀ j (h1 : j < items.size) (h2 : j < items2.size), EqP prog w A.in1 s items[j] items2[j] true) (E Q : Value → Shared → Prop) (h : Q (.bool false) s) : wpAny (model prog w) A (richCompare .NotEq (.ref l) (.ref b)) Q E s := by
  obtain ⟨⟨cls, dd, data, sl⟩, ho, hc, n, hd⟩ := id hl
  obtain ⟨⟨cls2, dd2, data2, sl2⟩, ho2, hc2, n2, hd2⟩ := id hb
  simp only at hc hd hc2 hd2
  subst hc hd hc2 hd2
  have ta : s.TypeIs (.ref l) "list" := ⟨_, ho, rfl⟩
  have tb : s.TypeIs (.ref b) "list" := ⟨_, ho2, rfl⟩
  exact wpAny_richCompare_same_room (op := .NotEq) ta tb F.slot_list_ne (call_meetsIn F.slot_list_ne ta F.entry_list_ne (F.args_list_ne_2 _ _) (qv_list_ne l b items items2 n n2 dd dd2 sl sl2 hsz)
    ⟨ho, ho2, he, show Value.bool false ≠ Value.notImplemented ∧ Q (.bool false) s from ⟨(fun x => nomatch x), h⟩⟩) hu
end
end PySem.SeqAt
namespace Qv
open PySem PySem.Spec PyProof.Rows L2
def rNeW (K : PySem.W.Frag) : R2 := fun x y H Q => ∃ a b xs ys n, n ≤ 60 ∧ x = .ref a ∧ y = .ref b ∧ SqL K H a xs ∧ SqL K H b ys ∧ Paired (EqV K H n) xs ys ∧ Q (.bl false) H
theorem op_neW {X : Cx} (hu : X.A.units + 64 < cLine) : OpR X (compareOp .NotEq) (rNeW X.K) := by
  intro pins s σ H x y v u Q I rx ry h
  obtain ⟨a, b, xs, ys, n, hn, rfl, rfl, ha, hb, hp, q⟩ := h
  cases (show v = Value.ref a from rx)
  cases (show u = Value.ref b from ry)
  obtain ⟨us, r1, p1, _⟩ := I.list ha
  obtain ⟨ws, r2, p2, _⟩ := I.list hb
  have hsz : us.toArray.size = ws.toArray.size := by
    rw [List.size_toArray, List.size_toArray, ← r1.length, ← r2.length]
    exact Paired.length hp
  refine SeqAt.qv_ne_lists p1.isList p2.isList hsz (by omega) (fun j h1 h2 => ?_) _ _ ⟨.bl false, H, I, rfl, q⟩
  have k := items_run (eqV_run I n X.A.in1 (by show X.A.units + 1 + n < cLine; omega)) hp r1 r2 j (by simpa using h1) (by simpa using h2)
  simpa using k
/-- a value that is compared with itself: flat, or an empty dict -/
def Val.eqw : Val → Bool
  | .non => true
  | .bl _ => true
  | .int _ => true
  | .str _ => true
  | .dic _ [] [] => true
  | _ => false
def gNeS : G2 := fun v w Q => gNe v w Q ∨ ∃ o o' xs, v = .lst o xs ∧ w = .lst o' xs ∧ xs.all Val.eqw = true ∧ Q (.bl false)
section
variable {K : PySem.W.Frag} {Fz : Addr → Prop} {H : Hp}
theorem eqw_pair {v : Val} {V W : L2.V} (h : v.eqw = true) (h1 : Fzn K Fz H v V) (h2 : Fzn K Fz H v W) : EqV K H 2 V W := by
  cases v <;> try exact Bool.noConfusion (show false = true from h)
  · cases h1; cases h2; exact .inl ⟨rfl, rfl⟩
  · cases h1; cases h2; exact .inl ⟨rfl, rfl⟩
  · cases h1; cases h2; exact .inl ⟨rfl, rfl⟩
  · cases h1; cases h2; exact .inl ⟨rfl, rfl⟩
  · rename_i o ks xs
    cases ks with
    | cons => exact Bool.noConfusion (show false = true from h)
    | nil =>
      cases xs with
      | cons => exact Bool.noConfusion (show false = true from h)
      | nil =>
        obtain ⟨_, a, vs, rfl, _, ea, la, _⟩ := h1
        obtain ⟨_, b, ws, rfl, _, eb, lb, _⟩ := h2
        refine .inr (.inr (.inr ⟨a, b, [], [], rfl, rfl, ?_, ?_, rfl, fun p hp => nomatch hp⟩))
        · rw [ea]; rfl
        · rw [eb]; rfl
theorem eqw_pairs : ∀ {xs : List Val} {vs ws : List L2.V}, xs.all Val.eqw = true → FznL K Fz H xs vs → FznL K Fz H xs ws → Paired (EqV K H 2) vs ws
  | [], _, _, _, h1, h2 => by
    cases (show _ = [] from h1)
    cases (show _ = [] from h2)
    exact .nil
  | x :: xs, _, _, h, h1, h2 => by
    obtain ⟨v, r, rfl, a1, a2⟩ := h1
    obtain ⟨u, q, rfl, b1, b2⟩ := h2
    rw [List.all_cons, Bool.and_eq_true] at h
    exact .cons (eqw_pair h.1 a1 b1) (eqw_pairs h.2 a2 b2)
end
theorem s_neS {K : PySem.W.Frag} : S2 K (fun x y H Q => rNeD K x y H Q ∨ rNeW K x y H Q) gNeS := by
  intro Fz H v w V W Qp Q' F o1 o2 q a
  rcases q with q | ⟨o, o', xs, rfl, rfl, h, q⟩
  · exact .inl (s_ne Fz H v w V W Qp Q' F o1 o2 q a)
  · obtain ⟨a1, vs, rfl, e1, g1⟩ := o1.lst
    obtain ⟨a2, ws, rfl, e2, g2⟩ := o2.lst
    exact .inr ⟨a1, a2, vs, ws, 2, by omega, rfl, rfl, e1, e2, eqw_pairs h g1 g2, aft_bl a q⟩
abbrev r_neW : PySem.W.Frag → R2 := fun K x y H Q => rNeD K x y H Q ∨ rNeW K x y H Q
theorem o_neS : HoC .NotEq r_neW := fun X h => OpR.or (op_neD (X := X) (by have := h.hu; omega)) (op_neW (X := X) (by have := h.hu; omega))
theorem z_neS : ∀ K, S2 K (r_neW K) gNeS := fun K => s_neS
section
variable {ι : Type} {X : ι → Cx} {P : Program} {w : World} {K : PySem.W.Frag} {mg : Str → Option Value} {base : Heap} {N : List Str} {W : WX} {pn : List Nat} {k : Nat} {x y : Expr} {px py : PEx} {pos : Pos}
theorem q_neS (c : Ct X P w K mg base N W k) (a : QE X K W pn x px) (b : QE X K W pn y py)  : QE X K W pn (.Compare x [.NotEq] [y] pos) (pOp gNeS px py) := q_cmp c o_neS z_neS (fun b _ => nomark b) a b
theorem t_neS (c : Ct X P w K mg base N W k) (a : QE X K W pn x px) (b : QE X K W pn y py)  : QT X K W pn (.Compare x [.NotEq] [y] pos) (pTest (pOp gNeS px py)) := t_cmp c o_neS z_neS (fun b _ => nomark b) a b
end
theorem r_neS_d {v u : Val} {R : Val → Prop} (h : gNe v u R) : gNeS v u R := .inl h
theorem r_neS_l {o o' : Bool} {xs : List Val} {R : Val → Prop} (h : xs.all Val.eqw = true) (k : R (.bl false)) : gNeS (.lst o xs) (.lst o' xs) R := .inr ⟨o, o', xs, rfl, rfl, h, k⟩
instance (priority := high) sx_ifNeSame {α : Type} {a : α} {i : Decidable (a = a)} {j : Decidable ((!@decide (a = a) i) = true)} {A B Z : Prop} [Rx B Z] : Sx (@ite _ ((!@decide (a = a) i) = true) j A B) Z := ⟨fun z => by
  rw [if_neg (by simp)]
  exact Rx.h z⟩
instance (priority := high) sx_ifEqSame {α : Type} {a : α} {i : Decidable (a = a)} {j : Decidable ((@decide (a = a) i) = true)} {A B Z : Prop} [Rx A Z] : Sx (@ite _ ((@decide (a = a) i) = true) j A B) Z := ⟨fun z => by
  rw [if_pos (by simp)]
  exact Rx.h z⟩
end Qv
set_option Elab.async false
set_option linter.all false
set_option maxRecDepth 100000
set_option maxHeartbeats 4000000
set_option synthInstance.maxHeartbeats 4000000
set_option synthInstance.maxSize 100000
namespace Qv
open PySem PySem.Spec PyProof.Rows L2
/-! ### sorted of numbers or of texts; count of a letter -/
def gSortS : GN := fun vs Q => gSorted vs Q ∨ ∃ o xs ns, vs = [.lst o xs] ∧ strsOf xs = some ns ∧ ns.length < 64 ∧ ∀ ms : List Str, ms.Perm ns → sortedS ms = true → Q (.lst true (ms.map .str))
section
variable {K : PySem.W.Frag} {Fz : Addr → Prop} {H : Hp}
theorem fzn_strs2 (ms : List Str) : FznL K Fz H (ms.map .str) (ms.map L2.V.str) := by
  induction ms with
  | nil => rfl
  | cons m r ih => exact ⟨.str m, _, rfl, rfl, ih⟩
end
abbrev rSortU (K : PySem.W.Frag) : List L2.V → Hp → VK → Prop := fun xs H Q => rSortedI K xs H Q ∨ rSortedS K xs H Q
theorem s_sortS {K : PySem.W.Frag} : SN K (rSortU K) gSortS := by
  intro Fz H vs Vs Qp Q' F o q a
  rcases q with q | ⟨b, xs, ns, rfl, h1, h2, h3⟩
  · exact .inl (s_sorted Fz H vs Vs Qp Q' F o q a)
  · obtain ⟨V, e, o⟩ := o.one rfl
    obtain ⟨l, ys, e1, h, z⟩ := o.lst
    subst e1
    have e2 := strs_of h1 z
    subst e2
    exact .inr ⟨l, ns, e, h, h2, fun ms p x1 x2 hp => aft_lst F a (fzn_strs2 ms) hp (h3 ms x1 x2)⟩
section
variable {ι : Type} {X : ι → Cx} {P : Program} {w : World} {K : PySem.W.Frag} {mg : Str → Option Value} {base : Heap} {N : List Str} {W : WX} {pn : List Nat} {k : Nat} {e : Expr} {es : List Expr} {pa : PAr} {pos p : Pos}
theorem qb_sortS (c : Ct X P w K mg base N W k) (hm : mg "sorted" = none) (a : QA X K W pn (e :: es) pa) (hg : ∀ j, Gl (X j) "sorted" := by exact fun _ => rfl)
    (he : ∀ i, starEach (e :: es) (X i).env = (false, eval e (X i).env) :: starEach es (X i).env := by exact fun _ => rfl) (hpl : ∀ i, (backTo pos (starEach es (X i).env)).any (·.1) = false := by exact fun _ => rfl) :
    QE X K W pn (.Call (.Name "sorted" p) (e :: es) [] pos) (pCB gSortS pa) := q_callB (r := rSortU) c (fun X h => CallR.or cr_sortedI cr_sortedS) (fun K => s_sortS) hm (by decide +kernel) a hg (by decide) (by decide) he hpl
end
theorem ltCps_iff : ∀ a b : List Nat, ltCps a b = decide (a < b)
  | [], [] => by simp [ltCps]
  | [], _ :: _ => by simp [ltCps]
  | _ :: _, [] => by simp [ltCps]
  | x :: a, y :: b => by
    have := ltCps_iff a b
    unfold ltCps
    rw [this, Bool.eq_iff_iff]
    simp [List.cons_lt_cons_iff]
theorem rising_le : ∀ (r : List Str) (x : Str), risingS x r = true → ∀ y ∈ r, ¬ y.cps.toList < x.cps.toList
  | [], _, _, _, h => nomatch h
  | z :: r, x, h, y, hy => by
    unfold risingS at h
    rw [Bool.and_eq_true, ltCps_iff] at h
    have h1 : ¬ z.cps.toList < x.cps.toList := by simpa using h.1
    rcases List.mem_cons.mp hy with rfl | hy
    · exact h1
    · have h2 := rising_le r z h.2 y hy
      exact List.not_lt.mpr (List.le_trans (List.not_lt.mp h1) (List.not_lt.mp h2))
theorem r_sortX {o : Bool} {xs : List Val} {ms : List (List Nat)} {R : Val → Prop} (h : XL xs ms) (hn : ms.length < 64) (k : ∀ ss : List (List Nat), ss.Perm ms → (∀ t r, ss = t :: r → ∀ c ∈ ms, ¬ c < t) → R (.lst true (ss.map sx))) : gSortS [.lst o xs] R := by
  rw [show xs = _ from h]
  refine .inr ⟨o, _, _, rfl, strs_xl ms, by rw [List.length_map]; exact hn, fun ys hp hs => ?_⟩
  have e : ys = (ys.map fun s => s.cps.toList).map tx := by
    rw [List.map_map]
    have : ∀ y ∈ ys, (tx ∘ fun s : Str => s.cps.toList) y = y := fun y hy => by
      obtain ⟨m, _, rfl⟩ := List.mem_map.mp (hp.mem_iff.mp hy)
      rfl
    rw [List.map_congr_left this, List.map_id']
  have hp2 : (ys.map fun s => s.cps.toList).Perm ms := by
    have := hp.map fun s : Str => s.cps.toList
    rw [List.map_map] at this
    have e2 : ms.map ((fun s : Str => s.cps.toList) ∘ tx) = ms := by
      have : ∀ m ∈ ms, ((fun s : Str => s.cps.toList) ∘ tx) m = m := fun m _ => rfl
      rw [List.map_congr_left this, List.map_id']
    rwa [e2] at this
  have := k _ hp2 fun t r et c hc => by
    cases ys with
    | nil => cases et
    | cons y ys =>
      rw [List.map_cons] at et
      injection et with e1 e2
      subst e1
      rcases List.mem_cons.mp (hp2.mem_iff.mpr hc) with rfl | hc
      · exact List.lt_irrefl _
      · obtain ⟨z, hz, rfl⟩ := List.mem_map.mp hc
        exact rising_le ys y hs z hz
  rw [show ys.map Val.str = (ys.map fun s => s.cps.toList).map sx from by
    conv => lhs; rw [e]
    rw [List.map_map]
    rfl]
  exact this
theorem occ_count (c : Nat) : ∀ (l : List Nat) (n : Nat), (occL c n l).length = l.count c
  | [], _ => rfl
  | x :: l, n => by
    unfold occL
    rw [List.count_cons]
    split
    · rename_i h
      rw [List.length_cons, occ_count c l, if_pos (by simpa using h)]
    · rename_i h
      rw [occ_count c l, if_neg (by simpa using h)]
      rfl
theorem r_count {l : List Nat} {c : Nat} {R : Val → Prop} (k : R (.int (l.count c))) : m_count (tx l) [.str (tx [c])] R := by
  show R (.int (Txt.count (tx l) (tx [c])))
  unfold Txt.count
  rw [tx_len, occ_tx, List.take_of_length_le (by rw [occ_count]; exact Nat.le_succ_of_le List.count_le_length), occ_count]
  exact k
/-! ### return of a local name: its object is given away -/
def mov (r : Res) (env : Env) (k : Val → Env → Prop) : Prop := match r with
  | .val v => k v env
  | .pl i => match env[i]? with
    | some (some v) => k v (env.set i none)
    | _ => False
def pRetM (pe : PEx) : PSt := fun W D env => pe W env fun r e1 => mov r e1 D.rt
section
variable {K : PySem.W.Frag} {Fz O : Addr → Prop} {H : Hp} {env : Env} {σ : L2.St} {fp : Nat → List Addr} {ft : List Addr} {pn : List Nat} {W : WX} {fl : Bool} {te : TE} {pe : PEx}
theorem Fm.rid {i : Nat} (F : Fm K Fz O H env σ fp) : Fm K Fz O H (env.set i none) σ (put fp i []) where
  len := by rw [List.length_set]; exact F.len
  sl := fun j w ej => by
    by_cases hj : i = j
    · subst hj
      have hi : i < env.length := by
        have z := (List.getElem?_eq_some_iff.mp ej).1
        rw [List.length_set] at z
        exact z
      rw [List.getElem?_set_self hi] at ej
      cases ej
    · rw [List.getElem?_set_ne hj] at ej
      obtain ⟨V, h1, h2⟩ := F.sl j w ej
      refine ⟨V, h1, ?_⟩
      unfold put
      rw [if_neg fun z => hj z.symm]
      exact h2
  dj := fun j k a h1 h2 => by
    unfold put at h1 h2
    split at h1
    · cases h1
    · split at h2
      · cases h2
      · exact F.dj j k a h1 h2
  nd := fun j => by
    unfold put
    split
    · exact List.nodup_nil
    · exact F.nd j
  nf := fun j a h => by
    unfold put at h
    split at h
    · cases h
    · exact F.nf j a h
  fz := F.fz
  oo := F.oo
theorem mov_ok {r : Res} {V : V} {k : Val → Env → Prop} (F : Fm K Fz O H env σ fp) (x : RR K Fz H σ r V ft) (t : Tm Fz O H fp ft) (h : mov r env k) :
    ∃ v env' fp' ft', Fm K Fz O H env' σ fp' ∧ Ow K Fz H v V ft' ∧ Tm Fz O H fp' ft' ∧ k v env' := by
  cases r with
  | val v => exact ⟨v, env, fp, ft, F, x, t, h⟩
  | pl i =>
    unfold mov at h
    dsimp only at h
    split at h
    · rename_i v e
      obtain ⟨V', e1, o⟩ := F.sl i v e
      have e2 := x.2
      rw [e1] at e2
      cases e2
      refine ⟨v, _, put fp i [], fp i, F.rid, o, ⟨F.nd i, fun a ha => F.nf i a ha, fun a ha j hj => ?_⟩, h⟩
      unfold put at hj
      split at hj
      · cases hj
      · rename_i n
        exact n (F.dj j i a hj ha)
    · exact h.elim
theorem sim_retM (ha : SimE K W pn fl te pe) : SimS K W pn (tRet te) (pRetM pe) := by
  intro Wp D env σ H Fz O fp pv D' F P hp hx nx rt bk ct
  refine ha Wp env σ H Fz O fp pv _ _ F P hp hx fun r e1 V H1 Fz1 fp1 ft s k F1 o t q => ?_
  obtain ⟨v, e2, fp2, g, F2, o2, u, q2⟩ := mov_ok F1 o t q
  exact rt v V e2 σ H1 Fz1 fp2 g s F2 P o2 u q2
end
section
variable {ι : Type} {X : ι → Cx} {K : PySem.W.Frag} {W : WX} {pn : List Nat} {x : Expr} {px : PEx} {pos : Pos}
theorem s_retM (a : QE X K W pn x px) : QS X K W pn (.Return (some x) pos) (pRetM px) := by
  obtain ⟨t, fl, a, a2⟩ := a
  exact ⟨_, fun i => ps_ret (a i), sim_retM a2⟩
end
section
variable {Z : Prop} {W : PX} {nx bk ct : Env → Prop} {rt : Val → Env → Prop} {env env' : Env} {pe : PEx} {v : Val} {i : Nat}
instance sx_retM [Rx (pe W env fun r e1 => mov r e1 rt) Z] : Sx (pRetM pe W ⟨nx, rt, bk, ct⟩ env) Z := ⟨fun z => Rx.h (A := pe W env fun r e1 => mov r e1 rt) z⟩
instance sx_movV [Rx (rt v env) Z] : Sx (mov (.val v) env rt) Z := ⟨fun z => Rx.h (A := rt v env) z⟩
instance sx_movP [EG env i v] [ES env i none env'] [Rx (rt v env') Z] : Sx (mov (.pl i) env rt) Z := ⟨fun z => by
  unfold mov
  dsimp only
  rw [EG.h (env := env) (i := i) (v := v)]
  show rt v (env.set i none)
  rw [ES.h (env := env) (i := i) (x := none) (env' := env')]
  exact Rx.h z⟩
end
end Qv
set_option Elab.async false
set_option linter.all false
set_option maxRecDepth 100000
set_option maxHeartbeats 4000000
set_option synthInstance.maxHeartbeats 4000000
set_option synthInstance.maxSize 100000
namespace Qv
open PySem PySem.Spec L2
/-! ### enumerate, step by step -/
section
variable {Z : Prop} {W : PX} {env env' : Env} {pa : PAr} {v x : Val} {xs ys : List Val} {Qi : List Val → Env → Prop} {k : Int}
def EnumK (k : Int) (vs : List Val) (e : Env) (Q : List Val → Env → Prop) : Prop := match vs with
  | [v] => (match items v with
    | some xs => Q (nums k xs) e
    | none => False)
  | _ => False
theorem r_iEnum1 (h : pa W env fun rs e1 => escs rs e1 fun vs e2 => EnumK 0 vs e2 Qi) : iEnum1 pa W env Qi := h
theorem r_enumK (h : items v = some xs) (h2 : nums k xs = ys) (q : Qi ys env) : EnumK k [v] env Qi := by
  unfold EnumK
  simp only [h, h2]
  exact q
class NUMS (k : Int) (xs : List Val) (ys : outParam (List Val)) : Prop where
  h : nums k xs = ys
instance nums_n : NUMS k [] [] := ⟨rfl⟩
instance nums_c [NUMS (k + 1) xs ys] : NUMS k (x :: xs) (.tup [.int k, x] :: ys) := ⟨by
  show Val.tup [.int k, x] :: nums (k + 1) xs = _
  rw [NUMS.h (k := k + 1) (xs := xs) (ys := ys)]⟩
instance (priority := low) nums_any : NUMS k xs (nums k xs) := ⟨rfl⟩
instance sx_iEnum1 [Rx (pa W env fun rs e1 => escs rs e1 fun vs e2 => EnumK 0 vs e2 Qi) Z] : Sx (iEnum1 pa W env Qi) Z := ⟨fun z => Rx.h (A := pa W env fun rs e1 => escs rs e1 fun vs e2 => EnumK 0 vs e2 Qi) z⟩
instance st_enumK [ITM v xs] [NUMS k xs ys] [Rx (Qi ys env) Z] : Sx (EnumK k [v] env Qi) Z := ⟨fun z => r_enumK ITM.h NUMS.h (Rx.h z)⟩
end
/-! ### capital letters -/
def upc (c : Nat) : Nat := if 97 ≤ c ∧ c ≤ 122 then c - 32 else c
theorem up_of : ∀ c < 128, Unicode.upperOf c = [upc c] ∧ upc c < 128 := by decide +kernel
theorem upper_tx {l : List Nat} (h : As l) : Txt.upper (tx l) = tx (l.map upc) := by
  have e : Array.mapIdx (fun i c => ((fun (_ : Nat) c => Unicode.upperOf c) i c).toArray) l.toArray = (l.map fun c => #[upc c]).toArray := by
    apply Array.ext
    · simp
    · intro i h1 h2
      have hi : i < l.length := by simpa using h1
      have z := (up_of l[i] (h _ (List.getElem_mem hi))).1
      simp [z]
  have e2 : ((l.map fun c => #[upc c]).toArray).flatten = (l.map upc).toArray := by
    apply Array.toList_inj.mp
    rw [Array.toList_flatten]
    have aux : ∀ l : List Nat, (List.map (Array.toList ∘ fun c => #[upc c]) l).flatten = List.map upc l := by
      intro l
      induction l with
      | nil => rfl
      | cons x xs ih =>
        rw [List.map_cons, List.flatten_cons, ih]
        rfl
    simpa using aux l
  unfold Txt.upper placed tx
  rw [e, e2]
theorem as_up {l : List Nat} (h : As l) : As (l.map upc) := fun c hc => by
  obtain ⟨d, hd, e⟩ := List.mem_map.mp hc
  rw [← e]
  exact (up_of d (h d hd)).2
theorem r_upper {l : List Nat} {n : Nat} {R : Val → Prop} (h : As l) (h1 : l.length ≤ n) (h3 : Nat.ble n 5592405 = true) (k : R (.str (tx (l.map upc)))) : m_upper (tx l) [] R := by
  have h4 := Nat.le_of_ble_eq_true h3
  refine ⟨rfl, by rw [tx_len]; omega, ?_⟩
  rw [upper_tx h]
  exact k
/-! ### the first places of a row that goes on -/
section
variable {Z : Prop} {x y z u : Val} {xs : List Val} {o : Bool} {R : Val → Prop}
theorem at_0 : atI (x :: xs) 0 = some x := by
  unfold atI ixN
  rw [if_pos (by omega), if_pos (by rw [List.length_cons]; omega)]
  rfl
theorem at_1 : atI (x :: y :: xs) 1 = some y := by
  unfold atI ixN
  rw [if_pos (by omega), if_pos (by rw [List.length_cons, List.length_cons]; omega)]
  rfl
theorem at_2 : atI (x :: y :: z :: xs) 2 = some z := by
  unfold atI ixN
  rw [if_pos (by omega), if_pos (by rw [List.length_cons, List.length_cons, List.length_cons]; omega)]
  rfl
instance st_ix0L [Rx (R x) Z] : Sx (gIx (.lst o (x :: xs)) (.int 0) R) Z := ⟨fun q => r_ixL at_0 (Rx.h q)⟩
instance st_ix1L [Rx (R y) Z] : Sx (gIx (.lst o (x :: y :: xs)) (.int 1) R) Z := ⟨fun q => r_ixL at_1 (Rx.h q)⟩
instance st_ix2L [Rx (R z) Z] : Sx (gIx (.lst o (x :: y :: z :: xs)) (.int 2) R) Z := ⟨fun q => r_ixL at_2 (Rx.h q)⟩
instance st_ix0T [Rx (R x) Z] : Sx (gIx (.tup (x :: xs)) (.int 0) R) Z := ⟨fun q => r_ixT at_0 (Rx.h q)⟩
instance st_ix1T [Rx (R y) Z] : Sx (gIx (.tup (x :: y :: xs)) (.int 1) R) Z := ⟨fun q => r_ixT at_1 (Rx.h q)⟩
instance st_ix2T [Rx (R z) Z] : Sx (gIx (.tup (x :: y :: z :: xs)) (.int 2) R) Z := ⟨fun q => r_ixT at_2 (Rx.h q)⟩
end
end Qv
set_option Elab.async false
set_option linter.all false
set_option maxRecDepth 100000
set_option maxHeartbeats 4000000
set_option synthInstance.maxHeartbeats 4000000
set_option synthInstance.maxSize 100000
/-! ### an own exception class called, with keywords too -/
namespace PySem
namespace HandSPX
open PyProof.Rows
section
variable {M : Model} {prog : Program} {w : World} {A : Around} {E : Value → Shared → Prop} {R : Result → Shared → Prop} {h : Heap} {g : Array GenState} {d : Drawn} {t : Nat} {os : OsState}
variable {nm q : Str} {C N : Addr} {bs mr bB : List Value} {hd : Bool} {s0 : List Str} {sb : List Value} {ab : Bool} {cl : Option Bool} {dc : Option Addr} {k0 k1 k2 k3 k5 : Option Value} {B nId iId : String}
theorem qv_check_new (F : ExcBaseFacts B nId iId bB) (sameB : ∀ X : String, mr.contains (.type X) = bB.contains (.type X)) {rest : List Value} {kw : List (Str × Value)} {Q : Unit → Shared → Prop}
    (cO : h.get? C = some (excClassObj nm q C N bs mr hd s0 sb ab cl dc k0 k1 k2 k3 k5 nId)) (go : Q () ⟨h, g, d, t, os⟩) : wpAny M A (checkBuiltinCall nId ⟨.ref C :: rest, kw⟩) Q E ⟨h, g, d, t, os⟩ := by
  have q1 : (Value.ref C :: mr).contains (.type B) = true := by rw [List.contains_cons, sameB, F.hasB, Bool.or_true]
  have q2 := F.noStar; simp only [checkBuiltinCall, F.newKind, F.newSplit, F.newRow]
  repeat (first | refine wpAny_loadPart_at cO ?_ | (refine wpAny_isSubtype_exc cO ?_; rw [q1]) | refine wpAny_staticBase_exc cO ?_ | refine wpAny_madeBy_exc cO ?_ | simp only [bne_self_eq_false, Bool.false_eq_true, if_false] | wp_step)
  exact go
theorem qv_new_own (F : ExcBaseFacts B nId iId bB) (sameB : ∀ X : String, mr.contains (.type X) = bB.contains (.type X)) {rest : List Value} {kw : List (Str × Value)}
    (cO : h.get? C = some (excClassObj nm q C N bs mr hd s0 sb ab cl dc k0 k1 k2 k3 k5 nId))
    (go : R (.ok (.ret (.ref (h.objs.size + 1)))) ⟨(h.push { cls := .type "tuple", data := .seq rest.toArray }).push
      { cls := .ref C, data := .fields #[.ref h.objs.size, .none, .none, .none, .bool false, .none] }, g, d, t, os⟩) (le : rest.length ≤ sizeLine) :
    codeAny (model prog w) A (.builtin nId ⟨.ref C :: rest, kw⟩) R ⟨h, g, d, t, os⟩ := by
  have q3 := F.ends
  have q4 : (Value.ref C :: mr).contains (.type B) = true := by rw [List.contains_cons, sameB, F.hasB, Bool.or_true]
  have q5 : (Value.ref C :: mr).contains (.type "AttributeError") = false := by rw [List.contains_cons, sameB, F.noAttr]; rfl
  have q6 : (Value.ref C :: mr).contains (.type "NameError") = false := by rw [List.contains_cons, sameB, F.noName]; rfl
  refine codeAny_builtinAt F.entry ?_; unfold Builtin.«BaseException.__new__»; refine wpAt_bind ?_; show wpAt _ _ _ (stack >>= _) _ _ _; refine wpAt_bind (wpAt_stack fun _ _ => wpAt_of_wpAny ?_)
  wp_walk; refine wpAt_of_wpAny ?_; rw [F.owner]
  repeat (first | with_reducible refine wpAny_madeHere_exc F.canon cO ?_ | with_reducible refine wpAny_loadPart_at cO ?_ | (with_reducible refine wpAny_isSubtype_exc cO ?_; first | rw [q4] | rw [q5] | rw [q6]) | wp_step)
  show R _ _; rw [Heap.size_push]; exact go
theorem qv_type_call_own (F : ExcBaseFacts B nId iId bB) (sameB : ∀ X : String, mr.contains (.type X) = bB.contains (.type X)) {rest : List Value} {kw : List (Str × Value)} {fi : Addr} {Q : Fin → Shared → Prop}
    (cO : h.get? C = some (excClassObj nm q C N bs mr hd s0 sb ab cl dc k0 k1 k2 k3 k5 nId))
    (ini : W.Looks (model prog w) h (typeLookup (.ref C) "__init__") (some (.ref fi))) (bnd : ∀ self, W.Looks (model prog w) h (bindSpecial (.ref fi) self) (.ref fi, [self])) (le : rest.length ≤ sizeLine)
    (go : codeAny (model prog w) A (.call (.ref fi) ⟨.ref (h.objs.size + 1) :: rest, kw⟩)
      (fun r s' => match r with | .ok (.ret v) => v = .none ∧ Q (.done (.ret (.ref (h.objs.size + 1)))) s' | .ok _ => False | .error e => E e s')
      ⟨(h.push (W.kdv_tup rest)).push (excO C h.objs.size), g, d, t, os⟩) :
    wpAny (model prog w) A (Builtin.«type.__call__» ⟨.ref C :: rest, kw⟩) Q E ⟨h, g, d, t, os⟩ := by
  repeat (first | with_reducible refine wpAny_loadPart_at cO ?_ | with_reducible refine wpAny_madeBy_exc cO ?_ | wp_step)
  refine codeAny_call_builtin_code (Code.quiet_builtin _ F.quiet) (qv_check_new F sameB cO ?_)
  refine qv_new_own F sameB cO ?_ le
  show wpAny _ _ _ _ _ _; have k : ∀ b o, h.get? b = some o → ((h.push (W.kdv_tup rest)).push (excO C h.objs.size)).get? b = some o := fun b o e => Heap.get?_push_of_some _ (Heap.get?_push_of_some _ e)
  have cO1 := k _ _ cO
  have got : ((h.push (W.kdv_tup rest)).push (excO C h.objs.size)).get? (h.objs.size + 1) = some (excO C h.objs.size) := by heap_get
  have hcC : (Value.ref C :: mr).contains (.ref C) = true := by simp
  have i1 := ini.keeps k
  have b1 := (bnd (.ref (h.objs.size + 1))).keeps k
  unfold isInstance; repeat (first | with_reducible refine wpAny_loadPart_at got ?_ | (with_reducible refine wpAny_isSubtype_exc cO1 ?_; rw [hcC]) | wp_step)
  show wpAny _ _ (typeLookup (.ref C) _) _ _ _; refine i1.at ?_; refine wpAny_holding (wpAny_bind (b1.at ?_))
  refine wpAny_bind (wpAny_call (codeAny_mono go fun r s' z => ?_))
  rcases r with e | (v | _ | _ | _) <;> first | exact z | exact z.elim | skip; obtain ⟨rfl, z⟩ := z; first | exact wpAny_pure (wpAny_pure z) | (wp_walk; exact z)
theorem qv_call_own (F : ExcBaseFacts B nId iId bB) (sameB : ∀ X : String, mr.contains (.type X) = bB.contains (.type X)) {rest : List Value} {kw : List (Str × Value)} {fi : Addr}
    (cO : h.get? C = some (excClassObj nm q C N bs mr hd s0 sb ab cl dc k0 k1 k2 k3 k5 nId))
    (ini : W.Looks (model prog w) h (typeLookup (.ref C) "__init__") (some (.ref fi))) (bnd : ∀ self, W.Looks (model prog w) h (bindSpecial (.ref fi) self) (.ref fi, [self])) (le : rest.length ≤ sizeLine)
    (go : codeAny (model prog w) (A.under (.builtin "type.__call__" ⟨.ref C :: rest, kw⟩)) (.call (.ref fi) ⟨.ref (h.objs.size + 1) :: rest, kw⟩) (W.InitBack (h.objs.size + 1) R)
      ⟨(h.push (W.kdv_tup rest)).push (excO C h.objs.size), g, d, t, os⟩) :
    codeAny (model prog w) A (.call (.ref C) ⟨rest, kw⟩) R ⟨h, g, d, t, os⟩ := by
  have f1 := tc_lookup; have f2 := tc_bind (.ref C); have f3 : (⟨h, g, d, t, os⟩ : Shared).TypeIs (.ref C) "type" := ⟨_, cO, rfl⟩; refine codeAny_of_tree ?_; show wpAny _ _ (callAny (.ref C) _) _ _ _
  repeat (any_goals (first | assumption | with_reducible refine wpAny_loadPart_at cO ?_ | wp_step))
  refine ⟨rfl, ?_⟩
  refine codeAny_call_builtin_at (Code.quiet_builtin _ (by decide +kernel)) entry_typeCall (wpAny_check_type_call_sub cO (qv_type_call_own F sameB cO ini bnd le ?_))
  refine codeAny_mono go fun r s' z => ?_
  rcases r with _ | (_ | _ | _ | _) <;> exact z
end
end HandSPX
end PySem
namespace Qv
open PySem PySem.Spec PyProof.Rows L2
/-! ### an exception made and kept as a value -/
def tMkX (C : Addr) (fs : List Str) (tA : TA) : TE := fun σ H Q => tA σ H fun vs H1 => (vs.length = fs.length ∧ vs.length ≤ 1000) ∧ ∀ a dx, H1 a = none → H1 dx = none → dx ≠ a → Q (.ref a) (upd (upd H1 dx (.xd (fs.zip vs).reverse)) a (exv C dx a))
section
variable {X : Cx} {pins : List (Addr × Obj)} {σ : L2.St} {H1 : Hp} {s : Shared} {a dx C : Addr} {L : List (Str × V)}
/-- the made exception, tracked as a value -/
theorem Inv.kept (I : Inv X pins σ (upd (upd (upd H1 a (exo a C none)) dx (exd dx L)) a (exo a C (some dx))) s) (ha : H1 a = none) (hd : H1 dx = none) (ne : dx ≠ a) : Inv X pins σ (upd (upd H1 dx (.xd L)) a (exv C dx a)) s := by
  have ea : (upd (upd (upd H1 a (exo a C none)) dx (exd dx L)) a (exo a C (some dx))) a = some (exo a C (some dx)) := upd_same
  have ed : (upd (upd (upd H1 a (exo a C none)) dx (exd dx L)) a (exo a C (some dx))) dx = some (exd dx L) := by rw [upd_ne ne, upd_same]
  have eo : ∀ b, b ≠ a → b ≠ dx → (upd (upd (upd H1 a (exo a C none)) dx (exd dx L)) a (exo a C (some dx))) b = H1 b := fun b h1 h2 => by rw [upd_ne h1, upd_ne h2, upd_ne h1]
  have en : ∀ b, b ≠ a → b ≠ dx → (upd (upd H1 dx (.xd L)) a (exv C dx a)) b = H1 b := fun b h1 h2 => by rw [upd_ne h1, upd_ne h2]
  generalize (upd (upd (upd H1 a (exo a C none)) dx (exd dx L)) a (exo a C (some dx))) = H2 at I ea ed eo
  have na : (upd (upd H1 dx (.xd L)) a (exv C dx a)) a = some (exv C dx a) := upd_same
  have nd : (upd (upd H1 dx (.xd L)) a (exv C dx a)) dx = some (.xd L) := by rw [upd_ne ne, upd_same]
  generalize (upd (upd H1 dx (.xd L)) a (exv C dx a)) = H3 at en na nd ⊢
  obtain ⟨t1, ga⟩ := exo_at I.hok ea
  obtain ⟨mA, hns, rel⟩ := exd_at I.hok ed
  have same : ∀ {b : Addr} {o : HO}, H2 b = some o → (∀ C d, o ≠ exo a C d) → (∀ L, o ≠ exd dx L) → H3 b = some o := fun {b o} h k1 k2 => by
    have h1 : b ≠ a := fun e => by
      rw [e, ea] at h
      exact k1 _ _ (Option.some.inj h).symm
    have h2 : b ≠ dx := fun e => by
      rw [e, ed] at h
      exact k2 _ (Option.some.inj h).symm
    rw [en b h1 h2, ← eo b h1 h2]
    exact h
  have none' : ∀ b, H2 b = none → H3 b = none := fun b h => by
    have h1 : b ≠ a := fun e => by rw [e, ea] at h; cases h
    have h2 : b ≠ dx := fun e => by rw [e, ed] at h; cases h
    rw [en b h1 h2, ← eo b h1 h2]
    exact h
  have hok : HOk X.prog X.w H3 s.heap := fun b o z => by
    by_cases h1 : b = a
    · subst h1
      rw [na] at z
      cases z
      exact ⟨⟨_, _, ga, rfl, rfl, rfl⟩, ⟨_, ga⟩, fun h1 h2 z k => by
        obtain ⟨oe, vs, e, q⟩ := z
        exact ⟨oe, vs, k _ e, q⟩⟩
    · by_cases h2 : b = dx
      · subst h2
        rw [nd] at z
        cases z
        exact ⟨mA, hns, rel⟩
      · rw [en b h1 h2, ← eo b h1 h2] at z
        exact (I.hok b o z).stay (fun c v _ y => y) (fun c hc => same hc (fun _ _ e => exo_own e.symm) fun _ e => exd_own e.symm) fun c xs hc => same hc (fun _ _ e => exo_tup e.symm) fun _ e => exd_tup e.symm
  have exo_frz' : ∀ {e C : Addr} {d : Option Addr} {o : Obj} {u : HO}, HO.frz o u ≠ exo e C d := fun z => by cases (show HO.frz _ _ = HO.ext _ from z)
  have exd_frz' : ∀ {e : Addr} {L : List (Str × V)} {o : Obj} {u : HO}, HO.frz o u ≠ exd e L := fun z => by cases (show HO.frz _ _ = HO.ext _ from z)
  have exo_tbl' : ∀ {e C : Addr} {d : Option Addr} {ps : Array Value}, HO.tbl ps ≠ exo e C d := fun z => by cases (show HO.tbl _ = HO.ext _ from z)
  have exd_tbl' : ∀ {e : Addr} {L : List (Str × V)} {ps : Array Value}, HO.tbl ps ≠ exd e L := fun z => by cases (show HO.tbl _ = HO.ext _ from z)
  exact I.un (t' := s.toks) ⟨fun b u q _ _ _ => q, fun b u q _ _ _ => ⟨u.slots, q⟩, fun b u q n _ => none' b n, fun b u q _ => ⟨u, q⟩, fun b xs q => same q (fun _ _ e => exo_tup e.symm) fun _ e => exd_tup e.symm, fun b u xs q => same q (fun _ _ => exo_frz') fun _ => exd_frz', fun b ps q => ⟨#[], by rw [same q (fun _ _ => exo_tbl') fun _ => exd_tbl']; simp⟩⟩ hok
end
section
variable {X : Cx} {σ : L2.St} {C fI : Addr} {fs : List Str} {fd : FuncData} {prm ks : List Str} {ix : List Nat}
/-- the class at C is called with these values; kw: with these names -/
theorem run_mkX {pins : List (Addr × Obj)} {H : Hp} {s : Shared} {Q : VK} {us ws : List Value} {zs : List V} {kw : List (Str × Value)} (T : OexC X.K C) (iC : PySem.W.findIn X.K (.ref C) "__init__" = some (some (.ref fI))) (tI : PySem.W.typeIn X.K (.ref fI) = some (.type "function"))
    (F1 : FnOk X.prog X.w X.K X.mg X.base CXn 1 fI fd prm (spXi C fs)) (hr : Room 2 X.A) (hb : ∀ (s : Shared) (self : Value), X.K.In s.heap → BindsTo s fd ⟨self :: us, kw⟩ (prm.zip (self :: ws))) (hu : us.length ≤ 1000) (I : Inv X pins σ H s) (rz : Vals zs ws) (hl : zs.length = fs.length) (hp : prm.length = ws.length + 1)
    (h : ∀ a dx, H a = none → H dx = none → dx ≠ a → Q (.ref a) (upd (upd H dx (.xd (fs.zip zs).reverse)) a (exv C dx a))) : wpAny (model X.prog X.w) X.A (call (.ref C) us kw) (EP X pins σ Q) X.xe s := by
  obtain ⟨nm, q, N, bs, mr, s0, sb, ab, cl, dc, k0, k1, k2, k3, k5, cO, hbm⟩ := T.cls
  obtain ⟨hp1, g, dr, tk, os⟩ := s
  have le1 : hp1.objs.size ≤ hp1.objs.size + 1 := Nat.le_succ _
  have hn : H (hp1.objs.size + 1) = none := I.hok.fresh le1
  have kk : ∀ b o, hp1.get? b = some o → ((hp1.push (PySem.W.kdv_tup us)).push (PySem.HandSPX.excO C hp1.objs.size)).get? b = some o := fun b o e => Heap.get?_push_of_some _ (Heap.get?_push_of_some _ e)
  have got : ((hp1.push (PySem.W.kdv_tup us)).push (PySem.HandSPX.excO C hp1.objs.size)).get? (hp1.objs.size + 1) = some (PySem.HandSPX.excO C hp1.objs.size) := by heap_get
  have I2 : Inv X pins σ (upd H (hp1.objs.size + 1) (exo (hp1.objs.size + 1) C none)) ⟨(hp1.push (PySem.W.kdv_tup us)).push (PySem.HandSPX.excO C hp1.objs.size), g, dr, tk, os⟩ :=
    I.laid (t' := tk) (o := exo (hp1.objs.size + 1) C none) kk le1 (exo_ok got)
  refine wpAny_call (PySem.HandSPX.qv_call_own F.excBase_ValueError (fun Y => PySem.HandSPX.refsVE_contains Y mr hbm) (I.kIn _ _ cO) (PySem.W.looks_findIn I.kIn iC) (fun self => PySem.W.bind_fn I.kIn self tI) (by rw [sizeLine_eq]; omega)
    (codeAny_mono (F1.run _ X.stack _ _ ⟨Value.ref (hp1.objs.size + 1) :: us, kw⟩ (Value.ref (hp1.objs.size + 1) :: ws) (V.ref (hp1.objs.size + 1) :: zs)
      (fun v H' => v = .non ∧ ∃ dx, H dx = none ∧ dx ≠ hp1.objs.size + 1 ∧ H' = upd (upd (upd H (hp1.objs.size + 1) (exo (hp1.objs.size + 1) C none)) dx (exd dx (fs.zip zs).reverse)) (hp1.objs.size + 1) (exo (hp1.objs.size + 1) C (some dx))) (fun _ _ _ => False)
      (hr.make C us kw) (I2.env0.make C us kw) (hb _ _ I2.kIn) (.cons rfl rz) ⟨_, zs, rfl, hl, upd_same, fun dx h1 h2 => ⟨rfl, dx, by rw [upd_ne h2] at h1; exact h1, h2, rfl⟩⟩) fun r s' hq' => ?_))
  cases r with
  | error er => exact (show Passes CXn X (fun _ _ _ => False) from fun _ _ _ _ _ _ _ h => h.elim) pins σ _ _ er s' I2 hq'
  | ok fl =>
    cases fl with
    | ret u =>
      obtain ⟨v, H', I3, rv, ev, dx, h1, h2, eH⟩ := I2.after hq'
      subst ev eH
      exact ⟨rv, .ref (hp1.objs.size + 1), _, Inv.kept I3 hn h1 h2, rfl, h _ dx hn h1 h2⟩
    | next => exact hq'.elim
    | brk => exact hq'.elim
    | cont => exact hq'.elim
end
/-- C(e, ..), an own exception class: a value -/
def pMkX (cls : Str) (fs : List Str) (pa : PAr) : PEx := fun W env Q => pa W env fun rs e1 => escs rs e1 fun vs e2 => (vs.length = fs.length ∧ vs.length ≤ 1000) ∧ Q (.val (.exc cls fs.reverse (freezeL vs).reverse)) e2
section
variable {K : PySem.W.Frag} {W : WX} {pn : List Nat} {fl : Bool}
theorem sim_mkX {tA : TA} {pA : PAr} {cls : Str} {fs : List Str} (ha : SimA K W pn fl tA pA) : SimE K W pn fl (tMkX (He.ga K cls) fs tA) (pMkX cls fs pA) := by
  intro Wp env σ H Fz O fp pv Q Q' F P hp hx hq
  refine ha Wp env σ H Fz O fp pv _ _ F P hp hx fun rs e1 Vs H1 Fz1 fp1 f1 s k F1 r1 t q => ?_
  obtain ⟨vs, e2, Fz2, fp2, g, s2, k2, F2, o, u, ql, q2⟩ := escs_ok F1 r1 t q
  have F3 := F2.frz u
  have l3 : FznL K (Fft Fz2 g) H1 (freezeL vs) Vs := OwL.frz (fun _ h => .inl h) vs Vs g (fun _ h => .inr h) o
  have s3 : Stp Fz2 H1 O (Fft Fz2 g) H1 := ⟨fun _ h => .inl h, fun _ _ => rfl⟩
  have k3 : Kp (Fft Fz2 g) fp2 fp2 H1 H1 := .refl
  have hV : Vs.length = vs.length := by rw [l3.len, freezeL_len]
  refine ⟨⟨by omega, by omega⟩, fun a dx h1 h2 ne => ?_⟩
  have n1 : Nw (Fft Fz2 g) H1 (Fft (Fft Fz2 g) [dx]) (upd H1 dx (.xd (fs.zip Vs).reverse)) [] := nw_f F3.tr h2
  have F4 := F3.nw n1
  have n2 : Nw (Fft (Fft Fz2 g) [dx]) (upd H1 dx (.xd (fs.zip Vs).reverse)) (Fft (Fft (Fft Fz2 g) [dx]) [a]) (upd (upd H1 dx (.xd (fs.zip Vs).reverse)) a (exv (He.ga K cls) dx a)) [] := nw_f F4.tr (by rw [upd_ne (Ne.symm ne)]; exact h1)
  have l4 := (l3.rev.nw F3.tr n1).nw F4.tr n2
  refine hq (.val (.exc cls fs.reverse (freezeL vs).reverse)) e2 _ _ _ fp2 [] ((((s.trans s2 fun _ h => h).trans s3 fun _ h => h).trans (F3.nwStp n1) fun _ h => h).trans (F4.nwStp n2) fun _ h => h)
    (fun e => ((((k e).trans k2 s2).trans k3 s3).trans (F3.nwKp n1) (F3.nwStp n1)).trans (F4.nwKp n2) (F4.nwStp n2)) (F4.nw n2) ⟨rfl, a, dx, Vs.reverse, rfl, .inr (by simp), upd_same, .inl (.inr (by simp)), ?_, by simp [hV, ql.1], l4⟩ (F4.nwTm n2) q2
  rw [upd_ne ne, upd_same, zip_rev (by omega)]
end
section
variable {ι : Type} {X : ι → Cx} {P : Program} {w : World} {K : PySem.W.Frag} {mg : Str → Option Value} {base : Heap} {N : List Str} {W : WX} {pn : List Nat} {k : Nat} {p pos : Pos} {e : Expr} {es : List Expr} {kws : List Keyword} {pa pk : PAr} {cls : Str} {fs ks : List Str} {ix : List Nat}
theorem q_mkX (c : Ct X P w K mg base N W k) (G : XiOk P w K mg base cls fs) (hj : 2 ≤ k) (hm : mg cls = some (.ref (He.ga K cls))) (a : QA X K W pn (e :: es) pa)
    (hg : ∀ j, Gl (X j) cls := by exact fun _ => rfl) (hdb : (cls == ("__debug__" : Str)) = false := by decide)
    (he : ∀ i, starEach (e :: es) (X i).env = (false, eval e (X i).env) :: starEach es (X i).env := by exact fun _ => rfl) (hpl : ∀ i, (backTo pos (starEach es (X i).env)).any (·.1) = false := by exact fun _ => rfl) :
    QE X K W pn (.Call (.Name cls p) (e :: es) [] pos) (pMkX cls fs pa) := by
  obtain ⟨t, fl, a, a2⟩ := a
  obtain ⟨fd, ps, hb, F1⟩ := G.G
  refine ⟨_, _, fun i => ?_, sim_mkX a2⟩
  obtain rfl := c.hP i
  obtain rfl := c.hw i
  obtain rfl := c.hK i
  obtain rfl := c.hM i
  obtain rfl := c.hB i
  refine ⟨fun pins s σ H Q I h => wpAny_Call_Name_kw (ld_glob I (hg i) hm ?_ hdb)⟩
  refine PySem.W.callWith_K (h₀ := (X i).base) I.ok.mod.kin G.T.o.kC (thn ((a i).run pos pins s σ H _ I h) fun us s1 ⟨vs, H1, I1, r, q⟩ => ⟨I1.kIn, ?_⟩) (he i) (hpl i)
  have hl : us.length = vs.length := r.length.symm
  have hps : ps.length = us.length + 1 := by
    have z := F1.len (V.ref 0 :: vs) (upd (fun _ => none) 0 (exo 0 (He.ga (X i).K cls) none)) (fun _ _ => True) (fun _ _ _ => False) ⟨0, vs, rfl, q.1.1, upd_same, fun _ _ _ => trivial⟩
    rw [← z, List.length_cons, hl]
  exact run_mkX (ws := us) G.T.o G.I.i G.I.t F1 ((c.room i).mono hj) (fun s self X => by
    have z := hb s (self :: us) X (by rw [List.append_nil, List.length_cons, hps])
    rw [List.append_nil] at z
    exact z) (by show us.length ≤ 1000; rw [hl]; exact q.1.2) I1 r q.1.1 hps q.2
/-- C's __init__, called by these names -/
structure XiG (P : Program) (w : World) (K : PySem.W.Frag) (mg : Str → Option Value) (base : Heap) (x : Str) (fs ks : List Str) (ix : List Nat) : Prop where
  T : ExC K x fs
  I : ExI K x
  G : ∃ (fd : FuncData) (prm : List Str), (∀ (s : Shared) (self : Value) (ws : List Value), K.In s.heap → ws.length = ks.length → BindsTo s fd ⟨[self], ks.zip ws⟩ (prm.zip (self :: pick ix ws)) ∧ prm.length = (pick ix ws).length + 1) ∧ FnOk P w K mg base CXn 1 (He.ma K (He.ga K x) "__init__") fd prm (spXi (He.ga K x) fs)
theorem q_mkXk (c : Ct X P w K mg base N W k) (G : XiG P w K mg base cls fs ks ix) (hj : 2 ≤ k) (hm : mg cls = some (.ref (He.ga K cls))) (b : QK X K W pn kws pk) (hp : ix.Perm (List.range (0 + ks.length + ([] : List Val).length)) := by decide)
    (hall : ∀ i, (backToKw pos (keywordEach kws (X i).env)).all (·.1.isSome) = true := by exact fun _ => rfl) (hks : ∀ i, (backToKw pos (keywordEach kws (X i).env)).filterMap (·.1) = ks := by exact fun _ => rfl)
    (hg : ∀ j, Gl (X j) cls := by exact fun _ => rfl) (hdb : (cls == ("__debug__" : Str)) = false := by decide)
    (hpl : ∀ i, ((backTo pos (starEach [] (X i).env)).any (·.1) || (backToKw pos (keywordEach kws (X i).env)).any (·.1.isNone)) = false := by exact fun _ => rfl) :
    QE X K W pn (.Call (.Name cls p) [] kws pos) (pMkX cls fs (aPick 0 ks.length ix [] aNil pk)) := by
  obtain ⟨u, fl2, b, b2⟩ := b
  obtain ⟨fd, prm, hb, F1⟩ := G.G
  refine ⟨_, _, fun i => ?_, sim_mkX (sim_pick (n := 0) (m := ks.length) (dvs := []) hp (fun _ _ => rfl) sim_anil b2)⟩
  obtain rfl := c.hP i
  obtain rfl := c.hw i
  obtain rfl := c.hK i
  obtain rfl := c.hM i
  obtain rfl := c.hB i
  refine ⟨fun pins s σ H Q I h => wpAny_Call_Name_kw (ld_glob I (hg i) hm ?_ hdb)⟩
  refine PySem.W.callWith_KW0 (h₀ := (X i).base) I.ok.mod.kin G.T.o.kC (hall i) (thn ((b i).run pos pins s σ H _ I h) fun ws s2 ⟨zs, H2, I2, rz, q⟩ => ⟨I2.kIn, ?_⟩) (hpl i)
  obtain ⟨_, l2, ql, q2⟩ := q
  rw [hks i]
  have hw : ws.length = ks.length := rz.length.symm.trans l2
  have e0 : pick ix ([] ++ zs ++ ([] : List V)) = pick ix zs := by rw [List.append_nil]; rfl
  rw [e0] at ql q2
  exact run_mkX (us := []) (zs := pick ix zs) (ws := pick ix ws) G.T.o G.I.i G.I.t F1 ((c.room i).mono hj) (fun s self X => (hb s self ws X hw).1) (Nat.zero_le _) I2 (pick_vals rz) ql.1 (hb s2 .none ws I2.kIn hw).2 q2
end
section
variable {P : Program} {w : World} {K : PySem.W.Frag} {mg : Str → Option Value} {base : Heap} {x qual : Str} {params : Arguments} {body : List Stmt} {scope : Scope} {f : Addr} {prm ks fs : List Str} {ix : List Nat}
theorem xig (T : ExC K x fs) (I : ExI K x) (h : ∃ fd, FunD K "__init__" qual params body scope [] [] (He.ma K (He.ga K x) "__init__") fd ∧ FnOk P w K mg base CXn 1 (He.ma K (He.ga K x) "__init__") fd prm (spXi (He.ga K x) fs))
    (hb : ∀ (kV doc pm : Value) (an : Option Addr) (cdv ct : Value) (self : Value) (ws : List Value), ws.length = ks.length → bindArgs (PySem.W.fnOf "__init__" qual params body scope .none kV doc pm an cdv ct) ⟨[self], List.zip ks ws⟩ = pure (prm.zip (self :: pick ix ws)) ∧ prm.length = (pick ix ws).length + 1) :
    XiG P w K mg base x fs ks ix := by
  obtain ⟨fd, D, G⟩ := h
  refine ⟨T, I, fd, prm, fun s self ws _ l => ?_, G⟩
  obtain ⟨oc, od, dV, kV, doc, pm, an, cdv, ct, osl, rfl, lk, hcd, hD, hK⟩ := D.ex
  rcases hD with ⟨_, rfl⟩ | ⟨e, _⟩
  · exact ⟨.of_eq (hb kV doc pm an cdv ct self ws l).1, (hb kV doc pm an cdv ct self ws l).2⟩
  · exact absurd rfl e
end
/-! step by step -/
section
variable {Z : Prop} {W : PX} {env : Env} {pa : PAr} {cls : Str} {fs ns : List Str} {vs xs ys : List Val} {Q : Res → Env → Prop}
def MkxK (cls : Str) (fs : List Str) (vs : List Val) (e : Env) (Q : Res → Env → Prop) : Prop := (vs.length = fs.length ∧ vs.length ≤ 1000) ∧ Q (.val (.exc cls fs.reverse (freezeL vs).reverse)) e
instance sx_mkX [Rx (pa W env fun rs e1 => escs rs e1 fun vs e2 => MkxK cls fs vs e2 Q) Z] : Sx (pMkX cls fs pa W env Q) Z := ⟨fun z => Rx.h (A := pa W env fun rs e1 => escs rs e1 fun vs e2 => MkxK cls fs vs e2 Q) z⟩
instance st_mkX1 {f : Str} {v u : Val} [FZ v u] [Rx (Q (.val (.exc cls [f] [u])) env) Z] : Sx (MkxK cls [f] [v] env Q) Z := ⟨fun z => ⟨⟨rfl, by simp⟩, by
  show Q (.val (.exc cls [f] [freeze v])) env
  rw [FZ.h (v := v) (u := u)]
  exact Rx.h z⟩⟩
instance st_mkX2 {f g : Str} {v u v' u' : Val} [FZ v u] [FZ v' u'] [Rx (Q (.val (.exc cls [g, f] [u', u])) env) Z] : Sx (MkxK cls [f, g] [v, v'] env Q) Z := ⟨fun z => ⟨⟨rfl, by simp⟩, by
  show Q (.val (.exc cls [g, f] [freeze v', freeze v])) env
  rw [FZ.h (v := v) (u := u), FZ.h (v := v') (u := u')]
  exact Rx.h z⟩⟩
end
end Qv
set_option Elab.async false
set_option linter.all false
set_option maxRecDepth 100000
set_option maxHeartbeats 4000000
set_option synthInstance.maxHeartbeats 4000000
set_option synthInstance.maxSize 100000
namespace Qv
open PySem PySem.Spec PyProof.Rows L2
/-! ### the table of modules in the written part -/
def asZ (g : Addr → Option Obj) (n : Nat) : List Addr := He.asD g n ++ [sysModules]
abbrev AlZ : Type := He.AlD × Bool
def obsZG (n : Nat) (fa : List He.Fa) (fn : List He.DefD) (ex : List (PySem.W.Frag → Bool)) (g : Addr → Option Obj) : AlZ := (fun K => (He.obsD fa fn K, okY ex K)) (He.frG g (asZ g n))
def hookZ (n : Nat) (fa : List He.Fa) (fn : List He.DefD) (ex : List (PySem.W.Frag → Bool)) : PySem.W.Hook where
  α := AlZ
  obs := fun s => obsZG n fa fn ex s.heap.get?
  val := fun _ => (He.valD fn, true)
  says := fun _ h => ∃ K : PySem.W.Frag, K.In h ∧ SaysY fa fn ex K
  of := fun _ _ e => ⟨_, He.frG_in, ⟨congrArg (fun z : AlZ => z.1) e, congrArg (fun z : AlZ => z.2) e⟩⟩
  keeps := fun _ _ _ ⟨K, hK, c⟩ k => ⟨K, PySem.W.Frag.In.keeps hK k, c⟩
theorem obsZG_eq {n : Nat} {fa : List He.Fa} {fn : List He.DefD} {ex : List (PySem.W.Frag → Bool)} {g : Addr → Option Obj} {s : Shared} (h : ∀ a, g a = s.heap.get? a) : obsZG n fa fn ex g = (hookZ n fa fn ex).obs s := by
  have e : g = s.heap.get? := funext h
  rw [e] <;> rfl
/-- .. is a dict there -/
def smB (K : PySem.W.Frag) : Bool := match K.lookup sysModules with
  | some o => (match o.data with
    | .dict _ _ => true
    | _ => false)
  | none => false
/-! ### plain data with empty dicts -/
mutual
inductive DpX (K : PySem.W.Frag) (H : Hp) : V → PyData → Prop
  | non : DpX K H .non .none
  | bl (b : Bool) : DpX K H (.bl b) (.bool b)
  | int (i : Int) : DpX K H (.int i) (.int i)
  | str (x : Str) : DpX K H (.str x) (.str x)
  | lst {a : Addr} {xs : List V} {ds : List PyData} (h : SqL K H a xs) (t : DpXs K H xs ds) : DpX K H (.ref a) (.list ds)
  | tup {a : Addr} {xs : List V} {ds : List PyData} (h : SqT K H a xs) (t : DpXs K H xs ds) : DpX K H (.ref a) (.tuple ds)
  | dic {a : Addr} (h : H a = some (.dK [])) : DpX K H (.ref a) (.dict [])
inductive DpXs (K : PySem.W.Frag) (H : Hp) : List V → List PyData → Prop
  | nil : DpXs K H [] []
  | cons {v : V} {vs : List V} {d : PyData} {ds : List PyData} (h : DpX K H v d) (t : DpXs K H vs ds) : DpXs K H (v :: vs) (d :: ds)
end
section
variable {X : Cx} {pins : List (Addr × Obj)} {σ : L2.St} {H : Hp} {s : Shared}
theorem not_sm (sm : smB X.K = true) (I : Inv X pins σ H s) {a : Addr} {o : Obj} {vs : Array Value} {n : Nat} (h : s.heap.get? a = some o) (hd : o.data = .seq vs n) : sysModules ≠ a := fun e => by
  unfold smB at sm
  cases K_ : X.K.lookup sysModules with
  | none => rw [K_] at sm; cases sm
  | some u =>
    have z := I.kIn _ _ K_
    rw [e, h] at z
    cases z
    rw [K_] at sm
    simp only [hd] at sm
    cases sm
mutual
theorem DpX.rds (sm : smB X.K = true) (I : Inv X pins σ H s) : ∀ (d : PyData) (v : V) (u : Value), DpX X.K H v d → RelV v u → ∃ as, Reads s.heap u d as ∧ sysModules ∉ as
  | .none, _, _, .non, r => by cases r; exact ⟨[], .none, by simp⟩
  | .bool b, _, _, .bl _, r => by cases r; exact ⟨[], .bool b, by simp⟩
  | .int i, _, _, .int _, r => by obtain ⟨t, rfl⟩ := r; exact ⟨[], .int i t, by simp⟩
  | .str x, _, _, .str _, r => by obtain ⟨t, rfl⟩ := r; exact ⟨[], .str x t, by simp⟩
  | .list ds, _, _, .lst h t, r => by
    cases r
    obtain ⟨its, rv, ⟨o, n, ho, hc, _, hd⟩, _⟩ := I.list h
    obtain ⟨as, q, nm⟩ := DpXs.rds sm I ds _ its t rv
    exact ⟨_, .list ho hc hd q, fun z => (List.mem_cons.mp z).elim (not_sm sm I ho hd) nm⟩
  | .tuple ds, _, _, .tup h t, r => by
    cases r
    obtain ⟨its, rv, ⟨o, ho, hc, n, hd⟩, _⟩ := I.tuple h
    obtain ⟨as, q, nm⟩ := DpXs.rds sm I ds _ its t rv
    exact ⟨_, .tuple ho hc hd q, nm⟩
  | .dict _, _, _, .dic h, r => by
    cases r
    obtain ⟨_, ne, kvs, kr, o, es, ep, ho, hx, hd, _, hp, _⟩ := I.hok _ _ h
    cases kr
    have e0 : es.toList = [] := by
      cases hes : es.toList with
      | nil => rfl
      | cons x xs =>
        rw [hes] at hp
        cases hp
    refine ⟨_, .dict ho hx.1 hd (as := []) (bs := []) ?_ ?_, fun z => ?_⟩
    · rw [e0]; exact .nil
    · rw [e0]; exact .nil
    · have z2 := List.mem_singleton.mp (show sysModules ∈ [_] from z)
      rw [← z2] at ne
      simp at ne
theorem DpXs.rds (sm : smB X.K = true) (I : Inv X pins σ H s) : ∀ (ds : List PyData) (vs : List V) (us : List Value), DpXs X.K H vs ds → Vals vs us → ∃ as, ReadsAll s.heap us ds as ∧ sysModules ∉ as
  | [], _, _, .nil, r => by cases r; exact ⟨[], .nil, by simp⟩
  | d :: ds, _, _, .cons h t, r => by
    cases r with
    | cons r1 r2 =>
      obtain ⟨as, q1, n1⟩ := DpX.rds sm I d _ _ h r1
      obtain ⟨bs, q2, n2⟩ := DpXs.rds sm I ds _ _ t r2
      exact ⟨_, .cons q1 q2, fun z => (List.mem_append.mp z).elim n1 n2⟩
end
end
def rReprD (K : PySem.W.Frag) : List V → Hp → VK → Prop := fun xs H Q => ∃ v d, xs = [v] ∧ DpX K H v d ∧ d.showable = true ∧ d.depth ≤ 100 ∧ d.shown.length ≤ sizeLine ∧ Q (.str d.shown) H
theorem call_reprD {X : Cx} (sm : smB X.K = true) (hg : X.A.guards = some []) (hu : X.A.units + 200 < cLine) : CallR X (.builtin "repr") (rReprD X.K) := by
  rintro pins s σ H xs us Q I rv ⟨v, d, e, dp, hs, hde, hz, q⟩
  subst e
  obtain ⟨u, rfl, ru⟩ := vals1 rv
  have big : ∀ {a : Addr}, v = .ref a → wpAny (model X.prog X.w) X.A (call (.builtin "repr") [u]) (EP X pins σ Q) X.xe s := fun {a} ev => by
    subst ev
    cases ru
    obtain ⟨as, r, nm⟩ := DpX.rds sm I _ _ _ dp rfl
    exact repr_of_reads' r hs (fun _ => nm) hg (by omega) (fun _ _ e => e) (fun h' u tk k => ⟨.str _, H, I.kept (h' := h') (t' := tk) k, ⟨_, rfl⟩, q⟩) hz
  cases dp with
  | non => cases ru; exact P.repr_of_none ⟨.str _, H, I.tok _, ⟨_, rfl⟩, by simpa only [PyData.shown] using q⟩
  | bl b => cases ru; exact P.repr_of_bool ⟨.str _, H, I.tok _, ⟨_, rfl⟩, by simpa only [PyData.shown] using q⟩
  | int i =>
    obtain ⟨t, rfl⟩ := ru
    exact P.repr_of_int (by simpa [PyData.showable] using hs) ⟨.str _, H, I.tok _, ⟨_, rfl⟩, by simpa only [PyData.shown] using q⟩
  | str x =>
    obtain ⟨t, rfl⟩ := ru
    exact P.repr_of_str ⟨.str _, H, I.tok _, ⟨_, rfl⟩, by simpa only [PyData.shown] using q⟩ (by simpa only [PyData.shown] using hz)
  | lst => exact big rfl
  | tup => exact big rfl
  | dic => exact big rfl
section
variable {K : PySem.W.Frag} {Fz : Addr → Prop} {H : Hp}
mutual
theorem Fzn.dpx : ∀ (v : Val) (V : V), Fzn K Fz H v V → v.plain = true → DpX K H V v.dat
  | .non, _, h, _ => by cases h; exact .non
  | .bl b, _, h, _ => by cases h; exact .bl b
  | .int i, _, h, _ => by cases h; exact .int i
  | .str x, _, h, _ => by cases h; exact .str x
  | .tup xs, _, h, p => by
    obtain ⟨a, vs, e, t, l⟩ := h
    subst e
    exact .tup t.sq (FznL.dpx xs vs l p)
  | .lst o xs, _, h, p => by
    obtain ⟨_, a, vs, e, t, l⟩ := h
    subst e
    exact .lst t.sq (FznL.dpx xs vs l p)
  | .dic o ks xs, _, h, p => by
    obtain ⟨_, a, vs, e, z, r, n, l⟩ := h
    subst e
    cases ks with
    | nil => exact .dic r
    | cons _ _ => cases p
  | .ty _, _, _, p => by cases p
  | .atm _, _, _, p => by cases p
  | .obj _ _ _ _, _, _, p => by cases p
  | .exc _ _ _, _, _, p => by cases p
  | .glo _, _, _, p => by cases p
theorem FznL.dpx : ∀ (xs : List Val) (vs : List V), FznL K Fz H xs vs → plainL xs = true → DpXs K H vs (datL xs)
  | [], _, h, _ => by cases h; exact .nil
  | x :: xs, _, h, p => by
    obtain ⟨v, r, e, h1, h2⟩ := h
    subst e
    obtain ⟨p1, p2⟩ := Bool.and_eq_true_iff.mp (show (x.plain && plainL xs) = true from p)
    exact .cons (Fzn.dpx x v h1 p1) (FznL.dpx xs r h2 p2)
end
theorem OwA.dpx {v : Val} {V : V} (o : OwA K Fz H v V) (p : v.plain = true) : DpX K H V v.dat := by
  obtain ⟨f, o⟩ := o
  cases hv : v.owned with
  | false => exact Fzn.dpx v V (o.fzn hv).2 p
  | true =>
    cases v with
    | lst b xs =>
      cases b with
      | true =>
        obtain ⟨a, vs, e, ef, ha, l⟩ := o
        subst e
        exact .lst (.of ha) (FznL.dpx xs vs l p)
      | false => cases hv
    | dic b ks xs =>
      cases b with
      | true =>
        obtain ⟨a, vs, e, ef, ha, n, l⟩ := o
        subst e
        cases ks with
        | nil => exact .dic ha
        | cons _ _ => cases p
      | false => cases hv
    | obj _ _ _ _ => cases p
    | exc _ _ _ => cases p
    | glo _ => cases p
    | _ => cases hv
end
def gReprD : GN := fun vs Q => match vs with
  | [v] => v.plain = true ∧ v.dat.showable = true ∧ v.dat.depth ≤ 100 ∧ v.dat.shown.length ≤ sizeLine ∧ Q (.str v.dat.shown)
  | _ => False
theorem s_reprD {K : PySem.W.Frag} : SN K (rReprD K) gReprD := by
  intro Fz H vs Vs Qp Q' F o q a
  unfold gReprD at q
  split at q
  · obtain ⟨V, e, o⟩ := o.one rfl
    obtain ⟨q1, q2, q4, q5, q6⟩ := q
    exact ⟨V, _, e, o.dpx q1, q2, q4, q5, aft_str a q6⟩
  · exact q.elim
section
variable {ι : Type} {X : ι → Cx} {P : Program} {w : World} {K : PySem.W.Frag} {mg : Str → Option Value} {base : Heap} {N : List Str} {W : WX} {pn : List Nat} {k : Nat} {p pos : Pos} {e : Expr} {es : List Expr} {pa : PAr}
theorem qb_reprD (sm : smB K = true) (c : Ct X P w K mg base N W k) (hm : mg "repr" = none) (a : QA X K W pn (e :: es) pa) (hg : ∀ j, Gl (X j) "repr" := by exact fun _ => rfl)
    (he : ∀ i, starEach (e :: es) (X i).env = (false, eval e (X i).env) :: starEach es (X i).env := by exact fun _ => rfl) (hpl : ∀ i, (backTo pos (starEach es (X i).env)).any (·.1) = false := by exact fun _ => rfl) :
    QE X K W pn (.Call (.Name "repr" p) (e :: es) [] pos) (pCB gReprD pa) := by
  obtain ⟨t, fl, a, a2⟩ := a
  exact ⟨_, _, fun i => pe_callB (c.hK i ▸ call_reprD (by rw [c.hK i]; exact sm) (c.cm i).gu (c.cm i).hu) (hg i) (by rw [c.hM i]; exact hm) (by decide +kernel) (a i) (by decide) (by decide) (he i) (hpl i), sim_cb a2 s_reprD⟩
end
/-- what repr of v is like, empty dicts let by -/
structure RPx (v : Val) (n d : Nat) : Prop where
  pl : v.plain = true
  sh : v.dat.showable = true
  dp : v.dat.depth ≤ d
  g : Gt n v.dat.shown
structure RPxs (vs : List Val) (n d : Nat) : Prop where
  pl : plainL vs = true
  sh : PyData.showableAll (datL vs) = true
  dp : PyData.depthAll (datL vs) ≤ d
  g : Gts (PyData.shownAll (datL vs)) n
mutual
theorem nod_plain : ∀ v : Val, v.nod = true → v.plain = true
  | .non, _ => rfl
  | .bl _, _ => rfl
  | .int _, _ => rfl
  | .str _, _ => rfl
  | .tup xs, h => nodL_plain xs h
  | .lst _ xs, h => nodL_plain xs h
  | .dic _ _ _, h => by cases h
  | .ty _, h => by cases h
  | .atm _, h => by cases h
  | .obj _ _ _ _, h => by cases h
  | .exc _ _ _, h => by cases h
  | .glo _, h => by cases h
theorem nodL_plain : ∀ vs : List Val, nodL vs = true → plainL vs = true
  | [], _ => rfl
  | v :: vs, h => by
    obtain ⟨a, b⟩ := Bool.and_eq_true_iff.mp (show (v.nod && nodL vs) = true from h)
    show (v.plain && plainL vs) = true
    rw [nod_plain v a, nodL_plain vs b]
    rfl
end
theorem RPv.x {v : Val} {n d : Nat} (a : RPv v n d) : RPx v n d := ⟨nod_plain v a.nod, a.sh, a.dp, a.g⟩
theorem rx_dic {o : Bool} {xs : List Val} : RPx (.dic o [] xs) 2 1 := ⟨rfl, rfl, by show PyData.depth (.dict []) ≤ 1; simp [PyData.depth, PyData.depthKv], [123, 125], (show (PyData.dict []).shown = tx [123, 125] by decide +kernel), by unfold As; decide, by decide⟩
theorem rxs_nil : RPxs [] 0 0 := ⟨rfl, rfl, Nat.le_refl _, .nil⟩
theorem rxs_cons {v : Val} {vs : List Val} {n m d e : Nat} (a : RPx v n d) (b : RPxs vs m e) : RPxs (v :: vs) (n + 2 + m) (max d e) := by
  refine ⟨?_, ?_, ?_, ?_⟩
  · show (v.plain && plainL vs) = true
    rw [a.pl, b.pl] <;> rfl
  · simp [datL, PyData.showableAll, a.sh, b.sh]
  · have := a.dp
    have := b.dp
    simp only [datL, PyData.depthAll]
    omega
  · simp only [datL, PyData.shownAll]
    exact .cons a.g b.g
theorem rx_tup {vs : List Val} {n d : Nat} (a : RPxs vs n d) : RPx (.tup vs) (n + 3) (d + 1) := by
  have dp := a.dp
  have g1 : Gt 1 (Str.ofString "(") := ⟨[40], by decide +kernel, by unfold As; decide, by decide⟩
  have g2 : ∀ c : Bool, Gt 2 (Str.ofString (if c = true then ",)" else ")")) := fun c => by
    cases c
    · exact ⟨[41], by decide +kernel, by unfold As; decide, by decide⟩
    · exact ⟨[44, 41], by decide +kernel, by unfold As; decide, by decide⟩
  refine ⟨a.pl, by simp [Val.dat, PyData.showable, a.sh], by simp only [Val.dat, PyData.depth]; omega, ?_⟩
  simp only [Val.dat, PyData.shown]
  exact Gt.mono ((g1.app a.g.join).app (g2 ((PyData.shownAll (datL vs)).length == 1))) (by omega)
theorem rx_lst {o : Bool} {vs : List Val} {n d : Nat} (a : RPxs vs n d) : RPx (.lst o vs) (n + 2) (d + 1) := by
  have dp := a.dp
  have g1 : Gt 1 (Str.ofString "[") := ⟨[91], by decide +kernel, by unfold As; decide, by decide⟩
  have g2 : Gt 1 (Str.ofString "]") := ⟨[93], by decide +kernel, by unfold As; decide, by decide⟩
  refine ⟨a.pl, by simp [Val.dat, PyData.showable, a.sh], by simp only [Val.dat, PyData.depth]; omega, ?_⟩
  simp only [Val.dat, PyData.shown]
  exact Gt.mono ((Gts.from_ a.g (k := 0) g1).app g2) (by omega)
theorem rx_ok {v : Val} {n d : Nat} (a : RPx v n d) : PyData.strOk (rpr v) = true := by
  obtain ⟨l, e, h, _⟩ := a.g
  unfold rpr
  rw [e]
  exact as_ok h
theorem r_reprD {v : Val} {n d : Nat} {R : Val → Prop} (a : RPx v n d) (h1 : Nat.ble n 16777216 = true) (h2 : Nat.ble d 100 = true) (k : R (.str (rpr v))) : gReprD [v] R := by
  obtain ⟨l, e, _, h⟩ := a.g
  have h1 := Nat.le_of_ble_eq_true h1
  have h2 := Nat.le_of_ble_eq_true h2
  refine ⟨a.pl, a.sh, Nat.le_trans a.dp h2, ?_, k⟩
  rw [e, tx_len, sizeLine_eq]
  omega
theorem r_eqRx {v : Val} {n d : Nat} {R : Val → Prop} (a : RPx v n d) (k : R (.bl true)) : gEq (.str (rpr v)) (.str (rpr v)) R := r_eqSS (rx_ok a) k
theorem r_neRx {v : Val} {n d : Nat} {R : Val → Prop} (a : RPx v n d) (k : R (.bl false)) : gNe (.str (rpr v)) (.str (rpr v)) R := r_neSS (rx_ok a) k
end Qv
set_option Elab.async false
set_option linter.all false
set_option maxRecDepth 100000
set_option maxHeartbeats 4000000
namespace Qv
open PySem PySem.Spec PyProof.Rows L2
/-! ### many own exception classes side by side under one -/
abbrev veT : List Value := [.type "ValueError", .type "Exception", .type "BaseException", .type "object"]
def flatI (N : List Str) (F : Str) (bu : List (String × Bool)) : Ist := ⟨N.flatMap fun a => (F :: N).map fun b => (a, b, decide (a = b) || decide (b = F)), N.flatMap fun a => bu.map fun t => (a, t.1, t.2), [], N⟩
def clsB (K : PySem.W.Frag) (A : Addr) : Bool := (PySem.W.clsIn K A).isSome && PySem.W.typeIn K (.ref A) == some (.type "type")
def flatB (N : List Str) (F : Str) (bu : List (String × Bool)) (K : PySem.W.Frag) : Bool :=
  ((F :: N).map (He.ga K)).Nodup && (clsB K (He.ga K F) && (N.all (fun a => clsB K (He.ga K a) && (match PySem.W.clsIn K (He.ga K a) with
    | some cd => cd.mro == .ref (He.ga K a) :: .ref (He.ga K F) :: veT
    | none => false)) && bu.all fun t => PySem.W.kitMeta t.1 && (veT.contains (.type t.1) == t.2)))
theorem kit_ref {K : PySem.W.Frag} {A B F : Addr} {cd : ClassData} (hA : PySem.W.clsIn K A = some cd) (hm : cd.mro = .ref A :: .ref F :: veT) (hB : clsB K B = true) : PySem.W.kitOne K (.ref A) (.ref B) = some (decide (B = A) || decide (B = F)) := by
  obtain ⟨b1, b2⟩ := Bool.and_eq_true_iff.mp hB
  unfold PySem.W.kitOne
  by_cases e : A = B
  · subst e
    simp
  · rw [if_neg (by simpa using e)]
    show (if ((PySem.W.clsIn K B).isSome && PySem.W.typeIn K (.ref B) == some (.type "type")) = true then PySem.W.subIn K (.ref A) (.ref B) else none) = _
    rw [if_pos (by rw [b1, b2]; rfl)]
    show PySem.W.mroIn K A (.ref B) = _
    unfold PySem.W.mroIn
    rw [hA, Option.bind_some, hm]
    have e2 : ¬ B = A := fun z => e z.symm
    simp [e2, decide_eq_decide]
theorem flatB_ok {N : List Str} {F : Str} {bu : List (String × Bool)} {K : PySem.W.Frag} (h : flatB N F bu K = true) : istB (flatI N F bu) K = true := by
  unfold flatB at h
  simp only [Bool.and_eq_true, decide_eq_true_eq] at h
  obtain ⟨h1, h2, h3, h4⟩ := h
  rw [List.map_cons] at h1
  obtain ⟨nF, nN⟩ := List.nodup_cons.mp h1
  have inj : ∀ a ∈ F :: N, ∀ b ∈ F :: N, He.ga K a = He.ga K b → a = b := by
    have key : ∀ l : List Str, (l.map (He.ga K)).Nodup → ∀ a ∈ l, ∀ b ∈ l, He.ga K a = He.ga K b → a = b := by
      intro l
      induction l with
      | nil => intro _ a ha; cases ha
      | cons x l ih =>
        intro hn a ha b hb e
        rw [List.map_cons] at hn
        obtain ⟨n1, n2⟩ := List.nodup_cons.mp hn
        rcases List.mem_cons.mp ha with ea | ha' <;> rcases List.mem_cons.mp hb with eb | hb'
        · rw [ea, eb]
        · rw [ea] at e
          exact absurd (by rw [e]; exact List.mem_map_of_mem hb') n1
        · rw [eb] at e
          exact absurd (by rw [← e]; exact List.mem_map_of_mem ha') n1
        · exact ih n2 a ha' b hb' e
    exact key _ (by rw [List.map_cons]; exact h1)
  have cls : ∀ a ∈ N, clsB K (He.ga K a) = true ∧ ∃ cd, PySem.W.clsIn K (He.ga K a) = some cd ∧ cd.mro = .ref (He.ga K a) :: .ref (He.ga K F) :: veT := fun a ha => by
    obtain ⟨c1, c2⟩ := Bool.and_eq_true_iff.mp (List.all_eq_true.mp h3 a ha)
    refine ⟨c1, ?_⟩
    split at c2
    · rename_i cd e
      exact ⟨cd, e, beq_iff_eq.mp c2⟩
    · cases c2
  unfold istB
  simp only [Bool.and_eq_true]
  refine ⟨List.all_eq_true.mpr fun x hx => ?_, List.all_eq_true.mpr fun x hx => ?_, rfl⟩
  · obtain ⟨a, ha, hx⟩ := List.mem_flatMap.mp hx
    obtain ⟨b, hb, rfl⟩ := List.mem_map.mp hx
    obtain ⟨_, cd, e1, e2⟩ := cls a ha
    have cb : clsB K (He.ga K b) = true := by
      rcases List.mem_cons.mp hb with rfl | hb
      · exact h2
      · exact (cls b hb).1
    refine decide_eq_true ?_
    show PySem.W.kitOne K (.ref (He.ga K a)) (.ref (He.ga K b)) = some (decide (a = b) || decide (b = F))
    rw [kit_ref e1 e2 cb]
    have q1 : decide (He.ga K b = He.ga K a) = decide (a = b) := decide_eq_decide.mpr ⟨fun e => (inj b hb a (List.mem_cons_of_mem _ ha) e).symm, fun e => by rw [e]⟩
    have q2 : decide (He.ga K b = He.ga K F) = decide (b = F) := decide_eq_decide.mpr ⟨fun e => inj b hb F List.mem_cons_self e, fun e => by rw [e]⟩
    rw [q1, q2]
  · obtain ⟨a, ha, hx⟩ := List.mem_flatMap.mp hx
    obtain ⟨t, ht, rfl⟩ := List.mem_map.mp hx
    obtain ⟨_, cd, e1, e2⟩ := cls a ha
    obtain ⟨b1, b2⟩ := Bool.and_eq_true_iff.mp (List.all_eq_true.mp h4 t ht)
    refine decide_eq_true ?_
    show PySem.W.kitOne K (.ref (He.ga K a)) (.type t.1) = some t.2
    unfold PySem.W.kitOne
    rw [if_neg (by simp)]
    show (if PySem.W.kitMeta t.1 = true then PySem.W.subIn K (.ref (He.ga K a)) (.type t.1) else none) = _
    rw [if_pos b1]
    show PySem.W.mroIn K (He.ga K a) (.type t.1) = _
    unfold PySem.W.mroIn
    rw [e1, Option.bind_some, e2]
    have b3 : veT.contains (.type t.1) = t.2 := beq_iff_eq.mp b2
    have n1 : ∀ A : Addr, ((Value.type t.1) == (Value.ref A)) = false := fun A => by simp
    rw [if_neg (by simp), List.contains_cons, List.contains_cons, b3, n1, n1]
    rfl
end Qv
set_option Elab.async false
set_option linter.all false
set_option maxRecDepth 100000
set_option maxHeartbeats 0
set_option synthInstance.maxHeartbeats 4000000
set_option synthInstance.maxSize 100000
namespace Gw
open PySem PySem.Spec PyProof.Rows L2 Qv
def top (i : Nat) : Stmt := PySem.Challenge.pw_feedreader_k01_error_classes.main.body.getD i (.Pass ⟨0, 0, 0, 0⟩)
abbrev s__law_begin : Stmt := top 33
abbrev s__law_mixed : Stmt := top 34
abbrev s__law_next : Stmt := top 35
abbrev s__law_made : Stmt := top 36
abbrev s__law_named : Stmt := top 40
abbrev s__law_kinds : Stmt := top 37
abbrev s__law_families_right : Stmt := top 38
abbrev s__law_fields : Stmt := top 39
abbrev s_law : Stmt := top 41
def cs_column : List Str := ["BadText"]
def cs_device : List Str := ["Gap"]
def cs_field : List Str := ["BadEntry", "BadPage", "BadNumber"]
def cs_given : List Str := ["BadMoment", "BadZone", "BadDate", "BadAddress", "NoEntry", "Taken", "BadThing", "BadDevice", "NoItem", "BadFolder", "BadVector"]
def cs_line : List Str := ["BadText"]
def cs_number : List Str := ["BadPage", "BadWorld", "BadTrouble", "BadShelf", "NoSighting", "BadLibrary", "BadWindow", "BadOffer", "BadLog", "NoAnswer", "BadBundle"]
def cs_path : List Str := ["BadQuery"]
def cs_stamp : List Str := ["Torn", "NoNote"]
def cs_what : List Str := ["TooMany"]
def istN : List Str := ["BadMoment", "BadZone", "BadDate", "BadAddress", "BadEntry", "BadPage", "BadText", "BadNumber", "NoEntry", "Taken", "TooMany", "BadWorld", "BadTrouble", "BadThing", "BadShelf", "NoSighting", "BadDevice", "BadLibrary", "Torn", "NoItem", "BadFolder", "NoNote", "BadQuery", "BadWindow", "BadOffer", "BadLog", "NoAnswer", "BadVector", "BadBundle", "Gap"]
def istC : List Str := ["BadAddress", "BadBundle", "BadDate", "BadDevice", "BadEntry", "BadFolder", "BadLibrary", "BadLog", "BadMoment", "BadNumber", "BadOffer", "BadPage", "BadQuery", "BadShelf", "BadText", "BadThing", "BadTrouble", "BadVector", "BadWindow", "BadWorld", "BadZone", "FeedError", "Gap", "NoAnswer", "NoEntry", "NoItem", "NoNote", "NoSighting", "Taken", "TooMany", "Torn"]
def istab : Ist := flatI istN "FeedError" [("LookupError", false), ("RuntimeError", false), ("ValueError", true)]
abbrev si_BadMoment : Stmt := (clsBody (top 2)).getD 0 (.Pass ⟨0, 0, 0, 0⟩)
abbrev si_BadZone : Stmt := (clsBody (top 3)).getD 0 (.Pass ⟨0, 0, 0, 0⟩)
abbrev si_BadDate : Stmt := (clsBody (top 4)).getD 0 (.Pass ⟨0, 0, 0, 0⟩)
abbrev si_BadAddress : Stmt := (clsBody (top 5)).getD 0 (.Pass ⟨0, 0, 0, 0⟩)
abbrev si_BadEntry : Stmt := (clsBody (top 6)).getD 0 (.Pass ⟨0, 0, 0, 0⟩)
abbrev si_BadPage : Stmt := (clsBody (top 7)).getD 0 (.Pass ⟨0, 0, 0, 0⟩)
abbrev si_BadText : Stmt := (clsBody (top 8)).getD 0 (.Pass ⟨0, 0, 0, 0⟩)
abbrev si_BadNumber : Stmt := (clsBody (top 9)).getD 0 (.Pass ⟨0, 0, 0, 0⟩)
abbrev si_NoEntry : Stmt := (clsBody (top 10)).getD 0 (.Pass ⟨0, 0, 0, 0⟩)
abbrev si_Taken : Stmt := (clsBody (top 11)).getD 0 (.Pass ⟨0, 0, 0, 0⟩)
abbrev si_TooMany : Stmt := (clsBody (top 12)).getD 0 (.Pass ⟨0, 0, 0, 0⟩)
abbrev si_BadWorld : Stmt := (clsBody (top 13)).getD 0 (.Pass ⟨0, 0, 0, 0⟩)
abbrev si_BadTrouble : Stmt := (clsBody (top 14)).getD 0 (.Pass ⟨0, 0, 0, 0⟩)
abbrev si_BadThing : Stmt := (clsBody (top 15)).getD 0 (.Pass ⟨0, 0, 0, 0⟩)
abbrev si_BadShelf : Stmt := (clsBody (top 16)).getD 0 (.Pass ⟨0, 0, 0, 0⟩)
abbrev si_NoSighting : Stmt := (clsBody (top 17)).getD 0 (.Pass ⟨0, 0, 0, 0⟩)
abbrev si_BadDevice : Stmt := (clsBody (top 18)).getD 0 (.Pass ⟨0, 0, 0, 0⟩)
abbrev si_BadLibrary : Stmt := (clsBody (top 19)).getD 0 (.Pass ⟨0, 0, 0, 0⟩)
abbrev si_Torn : Stmt := (clsBody (top 20)).getD 0 (.Pass ⟨0, 0, 0, 0⟩)
abbrev si_NoItem : Stmt := (clsBody (top 21)).getD 0 (.Pass ⟨0, 0, 0, 0⟩)
abbrev si_BadFolder : Stmt := (clsBody (top 22)).getD 0 (.Pass ⟨0, 0, 0, 0⟩)
abbrev si_NoNote : Stmt := (clsBody (top 23)).getD 0 (.Pass ⟨0, 0, 0, 0⟩)
abbrev si_BadQuery : Stmt := (clsBody (top 24)).getD 0 (.Pass ⟨0, 0, 0, 0⟩)
abbrev si_BadWindow : Stmt := (clsBody (top 25)).getD 0 (.Pass ⟨0, 0, 0, 0⟩)
abbrev si_BadOffer : Stmt := (clsBody (top 26)).getD 0 (.Pass ⟨0, 0, 0, 0⟩)
abbrev si_BadLog : Stmt := (clsBody (top 27)).getD 0 (.Pass ⟨0, 0, 0, 0⟩)
abbrev si_NoAnswer : Stmt := (clsBody (top 28)).getD 0 (.Pass ⟨0, 0, 0, 0⟩)
abbrev si_BadVector : Stmt := (clsBody (top 29)).getD 0 (.Pass ⟨0, 0, 0, 0⟩)
abbrev si_BadBundle : Stmt := (clsBody (top 30)).getD 0 (.Pass ⟨0, 0, 0, 0⟩)
abbrev si_Gap : Stmt := (clsBody (top 31)).getD 0 (.Pass ⟨0, 0, 0, 0⟩)
/-! ### what each def computes -/
def p__law_begin : PSt := pRet (pDisp (aCons (pC (.str "cells")) (aCons (pOp gAdd (pVar 0) (pLst (aCons (pC (.int 0)) (aNil)))) (aCons (pC (.str "at")) (aCons (pC (.int 0)) (aCons (pC (.str "left")) (aCons (pC (.int 0)) (aCons (pC (.str "used")) (aCons (pC (.int 0)) (aNil))))))))))
def fsp__law_begin : FSp := fspN 1 [false] p__law_begin
theorem e__law_begin {a0 : Val} {Qe : Exc → Qv.Env → Prop} {Qr : Val → Qv.Env → Prop} (h : p__law_begin (fun exc e => Qe exc (fins [false] e)) ⟨fun e => Qr .non (fins [false] e), fun v e => Qr v (fins [false] e), fun _ => False, fun _ => False⟩ [some a0]) : fsp__law_begin [a0] Qe Qr := ⟨rfl, h⟩
def p__law_mixed : PSt := pSeq (pSet 2 (pOp gMod (pCB gInt (aCons (pOp gAdd (pOp gAdd (pOp gAdd (pOp gMod (pCB gInt (aCons (pVar 0) (aNil))) (pC (.int 1000000007))) (pOp gMul (pOp gMul (pC (.int 7919)) (pVar 1)) (pVar 1))) (pOp gMul (pC (.int 31)) (pVar 1))) (pC (.int 7))) (aNil))) (pC (.int 2147483647))))
  (pSeq (pSet 2 (pOp gMod (pCB gInt (aCons (pOp gMul (pOp gMod (pCB gInt (aCons (pOp gMul (pVar 2) (pVar 2)) (aNil))) (pC (.int 2147483647))) (pVar 2)) (aNil))) (pC (.int 2147483629))))
  (pRet (pOp gFdiv (pOp gMod (pCB gInt (aCons (pOp gMul (pVar 2) (pOp gAdd (pC (.int 69621)) (pOp gMul (pC (.int 2)) (pOp gMod (pCB gInt (aCons (pVar 1) (aNil))) (pC (.int 1000)))))) (aNil))) (pC (.int 2147483647))) (pC (.int 7)))))
def fsp__law_mixed : FSp := fspN 3 [false, false] p__law_mixed
theorem e__law_mixed {a0 a1 : Val} {Qe : Exc → Qv.Env → Prop} {Qr : Val → Qv.Env → Prop} (h : p__law_mixed (fun exc e => Qe exc (fins [false, false] e)) ⟨fun e => Qr .non (fins [false, false] e), fun v e => Qr v (fins [false, false] e), fun _ => False, fun _ => False⟩ [some a0, some a1, none]) : fsp__law_mixed [a0, a1] Qe Qr := ⟨rfl, h⟩
def p__law_next : PSt := pSeq (pIfS (pTest (pOp gGt (pOp gIx (pVar 0) (pC (.str "left"))) (pC (.int 0)))) (pSeq (pSet 2 (pOp gMod (pCB gInt (aCons (pOp gIx (pVar 0) (pC (.str "left"))) (aNil))) (pVar 1)))
  (pSeq (pSetIx (pOp gFdiv (pOp gIx (pVar 0) (pC (.str "left"))) (pVar 1)) (pVar 0) (pC (.str "left")))
  (pRetM (pVar 2)))) (pNext))
  (pSeq (pSet 3 (pOp gIx (pVar 0) (pC (.str "cells"))))
  (pSeq (pSet 4 (pOp gIx (pVar 3) (pOp gMod (pCB gInt (aCons (pOp gIx (pVar 0) (pC (.str "at"))) (aNil))) (pCB gLen (aCons (pVar 3) (aNil))))))
  (pSeq (pSetIx (pOp gAdd (pOp gIx (pVar 0) (pC (.str "at"))) (pC (.int 1))) (pVar 0) (pC (.str "at")))
  (pSeq (pIfS (pAnd (pTest (pOp gGe (pVar 4) (pOp gPow (pC (.int 10)) (pC (.int 18))))) (pTest (pOp gLe (pOp gIx (pVar 0) (pC (.str "at"))) (pCB gLen (aCons (pVar 3) (aNil)))))) (pSeq (pSetIx (pOp gFdiv (pVar 4) (pVar 1)) (pVar 0) (pC (.str "left")))
  (pRet (pOp gMod (pCB gInt (aCons (pVar 4) (aNil))) (pVar 1)))) (pNext))
  (pSeq (pSetIx (pOp gAdd (pOp gIx (pVar 0) (pC (.str "used"))) (pC (.int 1))) (pVar 0) (pC (.str "used")))
  (pRet (pOp gMod (pCB gInt (aCons (pCall fsp__law_mixed [false, false] [] (aCons (pCall fsp__law_mixed [false, false] [] (aCons (pVar 4) (aCons (pOp gIx (pVar 0) (pC (.str "at"))) (aNil)))) (aCons (pOp gIx (pVar 0) (pC (.str "used"))) (aNil)))) (aNil))) (pVar 1))))))))
def fsp__law_next : FSp := fspN 5 [true, false] p__law_next
theorem e__law_next {a0 a1 : Val} {Qe : Exc → Qv.Env → Prop} {Qr : Val → Qv.Env → Prop} (h : p__law_next (fun exc e => Qe exc (fins [true, false] e)) ⟨fun e => Qr .non (fins [true, false] e), fun v e => Qr v (fins [true, false] e), fun _ => False, fun _ => False⟩ [some a0, some a1, none, none, none]) : fsp__law_next [a0, a1] Qe Qr := ⟨rfl, h⟩
def p__law_made : PSt := pSeq (pSet 2 (pLst (aCons (pMkX "BadMoment" ["given"] (aCons (pVar 0) (aNil))) (aCons (pMkX "BadZone" ["given"] (aCons (pVar 0) (aNil))) (aCons (pMkX "BadDate" ["given"] (aCons (pVar 0) (aNil))) (aCons (pMkX "BadAddress" ["given"] (aCons (pVar 0) (aNil))) (aCons (pMkX "BadThing" ["given"] (aCons (pVar 0) (aNil))) (aCons (pMkX "BadDevice" ["given"] (aCons (pVar 0) (aNil))) (aNil)))))))))
  (pSeq (pSet 2 (pOp gAdd (pVar 2) (pLst (aCons (pMkX "NoEntry" ["given"] (aCons (pVar 0) (aNil))) (aCons (pMkX "Taken" ["given"] (aCons (pVar 0) (aNil))) (aCons (pMkX "NoItem" ["given"] (aCons (pVar 0) (aNil))) (aCons (pMkX "BadFolder" ["given"] (aCons (pVar 0) (aNil))) (aCons (pMkX "BadVector" ["given"] (aCons (pVar 0) (aNil))) (aCons (pMkX "BadEntry" ["field"] (aCons (pVar 0) (aNil))) (aNil))))))))))
  (pSeq (pSet 2 (pOp gAdd (pVar 2) (pLst (aCons (pMkX "BadNumber" ["field"] (aCons (pVar 0) (aNil))) (aCons (pMkX "BadWorld" ["number"] (aCons (pVar 0) (aNil))) (aCons (pMkX "BadTrouble" ["number"] (aCons (pVar 0) (aNil))) (aCons (pMkX "BadShelf" ["number"] (aCons (pVar 0) (aNil))) (aCons (pMkX "NoSighting" ["number"] (aCons (pVar 0) (aNil))) (aNil)))))))))
  (pSeq (pSet 2 (pOp gAdd (pVar 2) (pLst (aCons (pMkX "BadLibrary" ["number"] (aCons (pVar 0) (aNil))) (aCons (pMkX "BadWindow" ["number"] (aCons (pVar 0) (aNil))) (aCons (pMkX "BadOffer" ["number"] (aCons (pVar 0) (aNil))) (aCons (pMkX "BadLog" ["number"] (aCons (pVar 0) (aNil))) (aCons (pMkX "NoAnswer" ["number"] (aCons (pVar 0) (aNil))) (aNil)))))))))
  (pSeq (pSet 2 (pOp gAdd (pVar 2) (pLst (aCons (pMkX "BadBundle" ["number"] (aCons (pVar 0) (aNil))) (aNil)))))
  (pSeq (pSet 2 (pOp gAdd (pVar 2) (pLst (aCons (pMkX "TooMany" ["what"] (aCons (pVar 0) (aNil))) (aCons (pMkX "Torn" ["stamp"] (aCons (pVar 0) (aNil))) (aCons (pMkX "NoNote" ["stamp"] (aCons (pVar 0) (aNil))) (aCons (pMkX "BadQuery" ["path"] (aCons (pVar 0) (aNil))) (aCons (pMkX "Gap" ["device"] (aCons (pVar 0) (aNil))) (aNil)))))))))
  (pRet (pOp gAdd (pVar 2) (pLst (aCons (pMkX "BadPage" ["field", "number"] (aCons (pVar 0) (aCons (pVar 1) (aNil)))) (aCons (pMkX "BadText" ["line", "column"] (aCons (pVar 0) (aCons (pVar 1) (aNil)))) (aNil)))))))))))
def fsp__law_made : FSp := fspN 3 [false, false] p__law_made
theorem e__law_made {a0 a1 : Val} {Qe : Exc → Qv.Env → Prop} {Qr : Val → Qv.Env → Prop} (h : p__law_made (fun exc e => Qe exc (fins [false, false] e)) ⟨fun e => Qr .non (fins [false, false] e), fun v e => Qr v (fins [false, false] e), fun _ => False, fun _ => False⟩ [some a0, some a1, none]) : fsp__law_made [a0, a1] Qe Qr := ⟨rfl, h⟩
def p__law_named : PSt := pSeq (pSet 2 (pLst (aCons (pMkX "BadMoment" ["given"] (aPick 0 1 [0] [] aNil (aCons (pVar 0) (aNil)))) (aCons (pMkX "BadZone" ["given"] (aPick 0 1 [0] [] aNil (aCons (pVar 0) (aNil)))) (aCons (pMkX "BadDate" ["given"] (aPick 0 1 [0] [] aNil (aCons (pVar 0) (aNil)))) (aCons (pMkX "BadAddress" ["given"] (aPick 0 1 [0] [] aNil (aCons (pVar 0) (aNil)))) (aNil)))))))
  (pSeq (pSet 2 (pOp gAdd (pVar 2) (pLst (aCons (pMkX "BadThing" ["given"] (aPick 0 1 [0] [] aNil (aCons (pVar 0) (aNil)))) (aCons (pMkX "BadDevice" ["given"] (aPick 0 1 [0] [] aNil (aCons (pVar 0) (aNil)))) (aCons (pMkX "NoEntry" ["given"] (aPick 0 1 [0] [] aNil (aCons (pVar 0) (aNil)))) (aCons (pMkX "Taken" ["given"] (aPick 0 1 [0] [] aNil (aCons (pVar 0) (aNil)))) (aNil))))))))
  (pSeq (pSet 2 (pOp gAdd (pVar 2) (pLst (aCons (pMkX "NoItem" ["given"] (aPick 0 1 [0] [] aNil (aCons (pVar 0) (aNil)))) (aCons (pMkX "BadFolder" ["given"] (aPick 0 1 [0] [] aNil (aCons (pVar 0) (aNil)))) (aCons (pMkX "BadVector" ["given"] (aPick 0 1 [0] [] aNil (aCons (pVar 0) (aNil)))) (aCons (pMkX "BadEntry" ["field"] (aPick 0 1 [0] [] aNil (aCons (pVar 0) (aNil)))) (aNil))))))))
  (pSeq (pSet 2 (pOp gAdd (pVar 2) (pLst (aCons (pMkX "BadNumber" ["field"] (aPick 0 1 [0] [] aNil (aCons (pVar 0) (aNil)))) (aCons (pMkX "BadWorld" ["number"] (aPick 0 1 [0] [] aNil (aCons (pVar 0) (aNil)))) (aCons (pMkX "BadTrouble" ["number"] (aPick 0 1 [0] [] aNil (aCons (pVar 0) (aNil)))) (aCons (pMkX "BadShelf" ["number"] (aPick 0 1 [0] [] aNil (aCons (pVar 0) (aNil)))) (aNil))))))))
  (pSeq (pSet 2 (pOp gAdd (pVar 2) (pLst (aCons (pMkX "NoSighting" ["number"] (aPick 0 1 [0] [] aNil (aCons (pVar 0) (aNil)))) (aCons (pMkX "BadLibrary" ["number"] (aPick 0 1 [0] [] aNil (aCons (pVar 0) (aNil)))) (aCons (pMkX "BadWindow" ["number"] (aPick 0 1 [0] [] aNil (aCons (pVar 0) (aNil)))) (aCons (pMkX "BadOffer" ["number"] (aPick 0 1 [0] [] aNil (aCons (pVar 0) (aNil)))) (aNil))))))))
  (pSeq (pSet 2 (pOp gAdd (pVar 2) (pLst (aCons (pMkX "BadLog" ["number"] (aPick 0 1 [0] [] aNil (aCons (pVar 0) (aNil)))) (aCons (pMkX "NoAnswer" ["number"] (aPick 0 1 [0] [] aNil (aCons (pVar 0) (aNil)))) (aCons (pMkX "BadBundle" ["number"] (aPick 0 1 [0] [] aNil (aCons (pVar 0) (aNil)))) (aCons (pMkX "TooMany" ["what"] (aPick 0 1 [0] [] aNil (aCons (pVar 0) (aNil)))) (aNil))))))))
  (pSeq (pSet 2 (pOp gAdd (pVar 2) (pLst (aCons (pMkX "Torn" ["stamp"] (aPick 0 1 [0] [] aNil (aCons (pVar 0) (aNil)))) (aCons (pMkX "NoNote" ["stamp"] (aPick 0 1 [0] [] aNil (aCons (pVar 0) (aNil)))) (aCons (pMkX "BadQuery" ["path"] (aPick 0 1 [0] [] aNil (aCons (pVar 0) (aNil)))) (aCons (pMkX "Gap" ["device"] (aPick 0 1 [0] [] aNil (aCons (pVar 0) (aNil)))) (aNil))))))))
  (pRet (pOp gAdd (pVar 2) (pLst (aCons (pMkX "BadPage" ["field", "number"] (aPick 0 2 [1, 0] [] aNil (aCons (pVar 1) (aCons (pVar 0) (aNil))))) (aCons (pMkX "BadText" ["line", "column"] (aPick 0 2 [1, 0] [] aNil (aCons (pVar 1) (aCons (pVar 0) (aNil))))) (aNil))))))))))))
def fsp__law_named : FSp := fspN 3 [false, false] p__law_named
theorem e__law_named {a0 a1 : Val} {Qe : Exc → Qv.Env → Prop} {Qr : Val → Qv.Env → Prop} (h : p__law_named (fun exc e => Qe exc (fins [false, false] e)) ⟨fun e => Qr .non (fins [false, false] e), fun v e => Qr v (fins [false, false] e), fun _ => False, fun _ => False⟩ [some a0, some a1, none]) : fsp__law_named [a0, a1] Qe Qr := ⟨rfl, h⟩
def p__law_kinds : PSt := pSeq (pSet 1 (pLst (aCons (pCB (gIsC istab) (aCons (pVar 0) (aCons (pC (.glo "BadMoment")) (aNil)))) (aCons (pCB (gIsC istab) (aCons (pVar 0) (aCons (pC (.glo "BadZone")) (aNil)))) (aCons (pCB (gIsC istab) (aCons (pVar 0) (aCons (pC (.glo "BadDate")) (aNil)))) (aCons (pCB (gIsC istab) (aCons (pVar 0) (aCons (pC (.glo "BadAddress")) (aNil)))) (aNil)))))))
  (pSeq (pSet 1 (pOp gAdd (pVar 1) (pLst (aCons (pCB (gIsC istab) (aCons (pVar 0) (aCons (pC (.glo "BadThing")) (aNil)))) (aCons (pCB (gIsC istab) (aCons (pVar 0) (aCons (pC (.glo "BadDevice")) (aNil)))) (aCons (pCB (gIsC istab) (aCons (pVar 0) (aCons (pC (.glo "NoEntry")) (aNil)))) (aCons (pCB (gIsC istab) (aCons (pVar 0) (aCons (pC (.glo "Taken")) (aNil)))) (aNil))))))))
  (pSeq (pSet 1 (pOp gAdd (pVar 1) (pLst (aCons (pCB (gIsC istab) (aCons (pVar 0) (aCons (pC (.glo "NoItem")) (aNil)))) (aCons (pCB (gIsC istab) (aCons (pVar 0) (aCons (pC (.glo "BadFolder")) (aNil)))) (aCons (pCB (gIsC istab) (aCons (pVar 0) (aCons (pC (.glo "BadVector")) (aNil)))) (aCons (pCB (gIsC istab) (aCons (pVar 0) (aCons (pC (.glo "BadEntry")) (aNil)))) (aNil))))))))
  (pSeq (pSet 1 (pOp gAdd (pVar 1) (pLst (aCons (pCB (gIsC istab) (aCons (pVar 0) (aCons (pC (.glo "BadNumber")) (aNil)))) (aCons (pCB (gIsC istab) (aCons (pVar 0) (aCons (pC (.glo "BadWorld")) (aNil)))) (aCons (pCB (gIsC istab) (aCons (pVar 0) (aCons (pC (.glo "BadTrouble")) (aNil)))) (aNil)))))))
  (pSeq (pSet 1 (pOp gAdd (pVar 1) (pLst (aCons (pCB (gIsC istab) (aCons (pVar 0) (aCons (pC (.glo "BadShelf")) (aNil)))) (aCons (pCB (gIsC istab) (aCons (pVar 0) (aCons (pC (.glo "NoSighting")) (aNil)))) (aCons (pCB (gIsC istab) (aCons (pVar 0) (aCons (pC (.glo "BadLibrary")) (aNil)))) (aNil)))))))
  (pSeq (pSet 1 (pOp gAdd (pVar 1) (pLst (aCons (pCB (gIsC istab) (aCons (pVar 0) (aCons (pC (.glo "BadWindow")) (aNil)))) (aCons (pCB (gIsC istab) (aCons (pVar 0) (aCons (pC (.glo "BadOffer")) (aNil)))) (aCons (pCB (gIsC istab) (aCons (pVar 0) (aCons (pC (.glo "BadLog")) (aNil)))) (aCons (pCB (gIsC istab) (aCons (pVar 0) (aCons (pC (.glo "NoAnswer")) (aNil)))) (aNil))))))))
  (pSeq (pSet 1 (pOp gAdd (pVar 1) (pLst (aCons (pCB (gIsC istab) (aCons (pVar 0) (aCons (pC (.glo "BadBundle")) (aNil)))) (aCons (pCB (gIsC istab) (aCons (pVar 0) (aCons (pC (.glo "TooMany")) (aNil)))) (aCons (pCB (gIsC istab) (aCons (pVar 0) (aCons (pC (.glo "Torn")) (aNil)))) (aCons (pCB (gIsC istab) (aCons (pVar 0) (aCons (pC (.glo "NoNote")) (aNil)))) (aNil))))))))
  (pRet (pOp gAdd (pVar 1) (pLst (aCons (pCB (gIsC istab) (aCons (pVar 0) (aCons (pC (.glo "BadQuery")) (aNil)))) (aCons (pCB (gIsC istab) (aCons (pVar 0) (aCons (pC (.glo "Gap")) (aNil)))) (aCons (pCB (gIsC istab) (aCons (pVar 0) (aCons (pC (.glo "BadPage")) (aNil)))) (aCons (pCB (gIsC istab) (aCons (pVar 0) (aCons (pC (.glo "BadText")) (aNil)))) (aNil))))))))))))))
def fsp__law_kinds : FSp := fspN 2 [false] p__law_kinds
theorem e__law_kinds {a0 : Val} {Qe : Exc → Qv.Env → Prop} {Qr : Val → Qv.Env → Prop} (h : p__law_kinds (fun exc e => Qe exc (fins [false] e)) ⟨fun e => Qr .non (fins [false] e), fun v e => Qr v (fins [false] e), fun _ => False, fun _ => False⟩ [some a0, none]) : fsp__law_kinds [a0] Qe Qr := ⟨rfl, h⟩
def p__law_families_right : PSt := pSeq (pFor (iEnum1 (aCons (pVar 0) (aNil))) (gtp 2 (gcons (gnm 1) (gcons (gnm 2) (gnil)))) (pSeq (pIfS (pOr (pTest (pOp gNe (pCall fsp__law_kinds [false] [] (aCons (pVar 2) (aNil))) (pLc (iRange1 (aCons (pC (.int 30)) (aNil))) (gnm 3) (pYes) (pOp gEq (pVar 3) (pVar 1)) [3]))) (pNot (pTru (pCB (gIsC istab) (aCons (pVar 2) (aCons (pC (.glo "FeedError")) (aNil))))))) (pRet (pC (.bl false))) (pNext))
  (pIfS (pOr (pNot (pTru (pCB (gIsC istab) (aCons (pVar 2) (aCons (pC (.ty "ValueError")) (aNil)))))) (pTru (pCB (gIsC istab) (aCons (pVar 2) (aCons (pTup (aCons (pC (.ty "LookupError")) (aCons (pC (.ty "RuntimeError")) (aNil)))) (aNil)))))) (pRet (pC (.bl false))) (pNext))))
  (pRet (pOp gEq (pCB gLen (aCons (pVar 0) (aNil))) (pC (.int 30))))
def fsp__law_families_right : FSp := fspN 4 [false] p__law_families_right
theorem e__law_families_right {a0 : Val} {Qe : Exc → Qv.Env → Prop} {Qr : Val → Qv.Env → Prop} (h : p__law_families_right (fun exc e => Qe exc (fins [false] e)) ⟨fun e => Qr .non (fins [false] e), fun v e => Qr v (fins [false] e), fun _ => False, fun _ => False⟩ [some a0, none, none, none]) : fsp__law_families_right [a0] Qe Qr := ⟨rfl, h⟩
def p__law_fields : PSt := pSeq (pSet 1 (pOp gAdd (pOp gAdd (pLc (iAny (pSl (pVar 0) (oNone) (oSome (pC (.int 11))))) (gnm 2) (pYes) (pUn (gFld cs_given "given") (pVar 2)) [2]) (pLc (iAny (pSl (pVar 0) (oSome (pC (.int 11))) (oSome (pC (.int 13))))) (gnm 2) (pYes) (pUn (gFld cs_field "field") (pVar 2)) [2])) (pLc (iAny (pSl (pVar 0) (oSome (pC (.int 13))) (oSome (pC (.int 23))))) (gnm 2) (pYes) (pUn (gFld cs_number "number") (pVar 2)) [2])))
  (pSeq (pSet 1 (pOp gAdd (pVar 1) (pLst (aCons (pUn (gFld cs_what "what") (pOp gIx (pVar 0) (pC (.int 23)))) (aCons (pUn (gFld cs_stamp "stamp") (pOp gIx (pVar 0) (pC (.int 24)))) (aCons (pUn (gFld cs_stamp "stamp") (pOp gIx (pVar 0) (pC (.int 25)))) (aCons (pUn (gFld cs_path "path") (pOp gIx (pVar 0) (pC (.int 26)))) (aCons (pUn (gFld cs_device "device") (pOp gIx (pVar 0) (pC (.int 27)))) (aNil)))))))))
  (pRet (pOp gAdd (pVar 1) (pLst (aCons (pUn (gFld cs_field "field") (pOp gIx (pVar 0) (pC (.int 28)))) (aCons (pUn (gFld cs_number "number") (pOp gIx (pVar 0) (pC (.int 28)))) (aCons (pUn (gFld cs_line "line") (pOp gIx (pVar 0) (pC (.int 29)))) (aCons (pUn (gFld cs_column "column") (pOp gIx (pVar 0) (pC (.int 29)))) (aNil)))))))))
def fsp__law_fields : FSp := fspN 3 [false] p__law_fields
theorem e__law_fields {a0 : Val} {Qe : Exc → Qv.Env → Prop} {Qr : Val → Qv.Env → Prop} (h : p__law_fields (fun exc e => Qe exc (fins [false] e)) ⟨fun e => Qr .non (fins [false] e), fun v e => Qr v (fins [false] e), fun _ => False, fun _ => False⟩ [some a0, none, none]) : fsp__law_fields [a0] Qe Qr := ⟨rfl, h⟩
def p_law : PSt := pSeq (pSet 1 (pCall fsp__law_begin [false] [] (aCons (pVar 0) (aNil))))
  (pSeq (pFor (iRange1 (aCons (pCB gMin (aCons (pC (.int 12)) (aCons (pOp gAdd (pC (.int 3)) (pCB gLen (aCons (pVar 0) (aNil)))) (aNil)))) (aNil))) (gnm 2) (pSeq (pSet 3 (pOp gSub (pCall fsp__law_next [true, false] [] (aCons (pVar 1) (aCons (pC (.int 2001)) (aNil)))) (pC (.int 1000))))
  (pSeq (pSet 4 (pLst (aCons (pC .non) (aCons (pVar 3) (aCons (pC (.str (tx [116, 111, 108, 100]))) (aCons (pTup (aCons (pVar 3) (aCons (pC (.int 7)) (aNil)))) (aCons (pLst (aCons (pVar 3) (aNil))) (aCons (pTup (aCons (pC (.str (tx [97]))) (aCons (pTup (aNil)) (aNil)))) (aCons (pDict0) (aCons (pC (.bl true)) (aNil)))))))))))
  (pSeq (pPar 5 6 (aCons (pOp gIx (pVar 4) (pCall fsp__law_next [true, false] [] (aCons (pVar 1) (aCons (pC (.int 8)) (aNil))))) (aCons (pOp gIx (pVar 4) (pCall fsp__law_next [true, false] [] (aCons (pVar 1) (aCons (pC (.int 8)) (aNil))))) (aNil))))
  (pSeq (pSet 7 (pOp gAdd (pOp gMulL (pLst (aCons (pVar 5) (aNil))) (pC (.int 28))) (pLst (aCons (pVar 5) (aCons (pVar 6) (aCons (pVar 5) (aCons (pVar 6) (aNil))))))))
  (pFor (iAny (pTup (aCons (pCall fsp__law_made [false, false] [] (aCons (pVar 5) (aCons (pVar 6) (aNil)))) (aCons (pCall fsp__law_named [false, false] [] (aCons (pVar 5) (aCons (pVar 6) (aNil)))) (aNil))))) (gnm 8) (pIfS (pOr (pNot (pTru (pCall fsp__law_families_right [false] [] (aCons (pVar 8) (aNil))))) (pTest (pOp gNe (pCB gReprD (aCons (pCall fsp__law_fields [false] [] (aCons (pVar 8) (aNil))) (aNil))) (pCB gReprD (aCons (pVar 7) (aNil)))))) (pRet (pC (.bl false))) (pNext))))))))
  (pRet (pC (.bl true))))
def fsp_law : FSp := fspN 9 [false] p_law
theorem e_law {a0 : Val} {Qe : Exc → Qv.Env → Prop} {Qr : Val → Qv.Env → Prop} (h : p_law (fun exc e => Qe exc (fins [false] e)) ⟨fun e => Qr .non (fins [false] e), fun v e => Qr v (fins [false] e), fun _ => False, fun _ => False⟩ [some a0, none, none, none, none, none, none, none, none]) : fsp_law [a0] Qe Qr := ⟨rfl, h⟩
/-! ### what the walk asks of the top -/
structure Fx (K : PySem.W.Frag) (mg : Str → Option Value) : Prop where
  n_LookupError : mg "LookupError" = none
  n_RuntimeError : mg "RuntimeError" = none
  n_ValueError : mg "ValueError" = none
  n_enumerate : mg "enumerate" = none
  n_int : mg "int" = none
  n_isinstance : mg "isinstance" = none
  n_len : mg "len" = none
  n_min : mg "min" = none
  n_range : mg "range" = none
  n_repr : mg "repr" = none
  g_BadAddress : mg "BadAddress" = some (.ref (He.ga K "BadAddress"))
  g_BadBundle : mg "BadBundle" = some (.ref (He.ga K "BadBundle"))
  g_BadDate : mg "BadDate" = some (.ref (He.ga K "BadDate"))
  g_BadDevice : mg "BadDevice" = some (.ref (He.ga K "BadDevice"))
  g_BadEntry : mg "BadEntry" = some (.ref (He.ga K "BadEntry"))
  g_BadFolder : mg "BadFolder" = some (.ref (He.ga K "BadFolder"))
  g_BadLibrary : mg "BadLibrary" = some (.ref (He.ga K "BadLibrary"))
  g_BadLog : mg "BadLog" = some (.ref (He.ga K "BadLog"))
  g_BadMoment : mg "BadMoment" = some (.ref (He.ga K "BadMoment"))
  g_BadNumber : mg "BadNumber" = some (.ref (He.ga K "BadNumber"))
  g_BadOffer : mg "BadOffer" = some (.ref (He.ga K "BadOffer"))
  g_BadPage : mg "BadPage" = some (.ref (He.ga K "BadPage"))
  g_BadQuery : mg "BadQuery" = some (.ref (He.ga K "BadQuery"))
  g_BadShelf : mg "BadShelf" = some (.ref (He.ga K "BadShelf"))
  g_BadText : mg "BadText" = some (.ref (He.ga K "BadText"))
  g_BadThing : mg "BadThing" = some (.ref (He.ga K "BadThing"))
  g_BadTrouble : mg "BadTrouble" = some (.ref (He.ga K "BadTrouble"))
  g_BadVector : mg "BadVector" = some (.ref (He.ga K "BadVector"))
  g_BadWindow : mg "BadWindow" = some (.ref (He.ga K "BadWindow"))
  g_BadWorld : mg "BadWorld" = some (.ref (He.ga K "BadWorld"))
  g_BadZone : mg "BadZone" = some (.ref (He.ga K "BadZone"))
  g_FeedError : mg "FeedError" = some (.ref (He.ga K "FeedError"))
  g_Gap : mg "Gap" = some (.ref (He.ga K "Gap"))
  g_NoAnswer : mg "NoAnswer" = some (.ref (He.ga K "NoAnswer"))
  g_NoEntry : mg "NoEntry" = some (.ref (He.ga K "NoEntry"))
  g_NoItem : mg "NoItem" = some (.ref (He.ga K "NoItem"))
  g_NoNote : mg "NoNote" = some (.ref (He.ga K "NoNote"))
  g_NoSighting : mg "NoSighting" = some (.ref (He.ga K "NoSighting"))
  g_Taken : mg "Taken" = some (.ref (He.ga K "Taken"))
  g_TooMany : mg "TooMany" = some (.ref (He.ga K "TooMany"))
  g_Torn : mg "Torn" = some (.ref (He.ga K "Torn"))
  x_BadMoment : ExC K "BadMoment" ["given"]
  x_BadZone : ExC K "BadZone" ["given"]
  x_BadDate : ExC K "BadDate" ["given"]
  x_BadAddress : ExC K "BadAddress" ["given"]
  x_BadEntry : ExC K "BadEntry" ["field"]
  x_BadPage : ExC K "BadPage" ["field", "number"]
  x_BadText : ExC K "BadText" ["line", "column"]
  x_BadNumber : ExC K "BadNumber" ["field"]
  x_NoEntry : ExC K "NoEntry" ["given"]
  x_Taken : ExC K "Taken" ["given"]
  x_TooMany : ExC K "TooMany" ["what"]
  x_BadWorld : ExC K "BadWorld" ["number"]
  x_BadTrouble : ExC K "BadTrouble" ["number"]
  x_BadThing : ExC K "BadThing" ["given"]
  x_BadShelf : ExC K "BadShelf" ["number"]
  x_NoSighting : ExC K "NoSighting" ["number"]
  x_BadDevice : ExC K "BadDevice" ["given"]
  x_BadLibrary : ExC K "BadLibrary" ["number"]
  x_Torn : ExC K "Torn" ["stamp"]
  x_NoItem : ExC K "NoItem" ["given"]
  x_BadFolder : ExC K "BadFolder" ["given"]
  x_NoNote : ExC K "NoNote" ["stamp"]
  x_BadQuery : ExC K "BadQuery" ["path"]
  x_BadWindow : ExC K "BadWindow" ["number"]
  x_BadOffer : ExC K "BadOffer" ["number"]
  x_BadLog : ExC K "BadLog" ["number"]
  x_NoAnswer : ExC K "NoAnswer" ["number"]
  x_BadVector : ExC K "BadVector" ["given"]
  x_BadBundle : ExC K "BadBundle" ["number"]
  x_Gap : ExC K "Gap" ["device"]
  i_BadMoment : ExI K "BadMoment"
  i_BadZone : ExI K "BadZone"
  i_BadDate : ExI K "BadDate"
  i_BadAddress : ExI K "BadAddress"
  i_BadEntry : ExI K "BadEntry"
  i_BadPage : ExI K "BadPage"
  i_BadText : ExI K "BadText"
  i_BadNumber : ExI K "BadNumber"
  i_NoEntry : ExI K "NoEntry"
  i_Taken : ExI K "Taken"
  i_TooMany : ExI K "TooMany"
  i_BadWorld : ExI K "BadWorld"
  i_BadTrouble : ExI K "BadTrouble"
  i_BadThing : ExI K "BadThing"
  i_BadShelf : ExI K "BadShelf"
  i_NoSighting : ExI K "NoSighting"
  i_BadDevice : ExI K "BadDevice"
  i_BadLibrary : ExI K "BadLibrary"
  i_Torn : ExI K "Torn"
  i_NoItem : ExI K "NoItem"
  i_BadFolder : ExI K "BadFolder"
  i_NoNote : ExI K "NoNote"
  i_BadQuery : ExI K "BadQuery"
  i_BadWindow : ExI K "BadWindow"
  i_BadOffer : ExI K "BadOffer"
  i_BadLog : ExI K "BadLog"
  i_NoAnswer : ExI K "NoAnswer"
  i_BadVector : ExI K "BadVector"
  i_BadBundle : ExI K "BadBundle"
  i_Gap : ExI K "Gap"
  sm : smB K = true
  istb : istB istab K = true
  g__law_begin : mg "_law_begin" = some (.ref (He.ga K "_law_begin"))
  g__law_mixed : mg "_law_mixed" = some (.ref (He.ga K "_law_mixed"))
  g__law_next : mg "_law_next" = some (.ref (He.ga K "_law_next"))
  g__law_made : mg "_law_made" = some (.ref (He.ga K "_law_made"))
  g__law_named : mg "_law_named" = some (.ref (He.ga K "_law_named"))
  g__law_kinds : mg "_law_kinds" = some (.ref (He.ga K "_law_kinds"))
  g__law_families_right : mg "_law_families_right" = some (.ref (He.ga K "_law_families_right"))
  g__law_fields : mg "_law_fields" = some (.ref (He.ga K "_law_fields"))
  g_law : mg "law" = some (.ref (He.ga K "law"))
  d__law_begin : ∃ fd, FunD K "_law_begin" "_law_begin" (defArgs s__law_begin) (defBody s__law_begin) (defScope s__law_begin) [] [] (He.ga K "_law_begin") fd
  d__law_mixed : ∃ fd, FunD K "_law_mixed" "_law_mixed" (defArgs s__law_mixed) (defBody s__law_mixed) (defScope s__law_mixed) [] [] (He.ga K "_law_mixed") fd
  d__law_next : ∃ fd, FunD K "_law_next" "_law_next" (defArgs s__law_next) (defBody s__law_next) (defScope s__law_next) [] [] (He.ga K "_law_next") fd
  d__law_made : ∃ fd, FunD K "_law_made" "_law_made" (defArgs s__law_made) (defBody s__law_made) (defScope s__law_made) [] [] (He.ga K "_law_made") fd
  d__law_named : ∃ fd, FunD K "_law_named" "_law_named" (defArgs s__law_named) (defBody s__law_named) (defScope s__law_named) [] [] (He.ga K "_law_named") fd
  d__law_kinds : ∃ fd, FunD K "_law_kinds" "_law_kinds" (defArgs s__law_kinds) (defBody s__law_kinds) (defScope s__law_kinds) [] [] (He.ga K "_law_kinds") fd
  d__law_families_right : ∃ fd, FunD K "_law_families_right" "_law_families_right" (defArgs s__law_families_right) (defBody s__law_families_right) (defScope s__law_families_right) [] [] (He.ga K "_law_families_right") fd
  d__law_fields : ∃ fd, FunD K "_law_fields" "_law_fields" (defArgs s__law_fields) (defBody s__law_fields) (defScope s__law_fields) [] [] (He.ga K "_law_fields") fd
  d_law : ∃ fd, FunD K "law" "law" (defArgs s_law) (defBody s_law) (defScope s_law) [] [] (He.ga K "law") fd
  d_BadMoment : ∃ fd, FunD K "__init__" "BadMoment.__init__" (defArgs si_BadMoment) (defBody si_BadMoment) (defScope si_BadMoment) [] [] (He.ma K (He.ga K "BadMoment") "__init__") fd
  d_BadZone : ∃ fd, FunD K "__init__" "BadZone.__init__" (defArgs si_BadZone) (defBody si_BadZone) (defScope si_BadZone) [] [] (He.ma K (He.ga K "BadZone") "__init__") fd
  d_BadDate : ∃ fd, FunD K "__init__" "BadDate.__init__" (defArgs si_BadDate) (defBody si_BadDate) (defScope si_BadDate) [] [] (He.ma K (He.ga K "BadDate") "__init__") fd
  d_BadAddress : ∃ fd, FunD K "__init__" "BadAddress.__init__" (defArgs si_BadAddress) (defBody si_BadAddress) (defScope si_BadAddress) [] [] (He.ma K (He.ga K "BadAddress") "__init__") fd
  d_BadEntry : ∃ fd, FunD K "__init__" "BadEntry.__init__" (defArgs si_BadEntry) (defBody si_BadEntry) (defScope si_BadEntry) [] [] (He.ma K (He.ga K "BadEntry") "__init__") fd
  d_BadPage : ∃ fd, FunD K "__init__" "BadPage.__init__" (defArgs si_BadPage) (defBody si_BadPage) (defScope si_BadPage) [] [] (He.ma K (He.ga K "BadPage") "__init__") fd
  d_BadText : ∃ fd, FunD K "__init__" "BadText.__init__" (defArgs si_BadText) (defBody si_BadText) (defScope si_BadText) [] [] (He.ma K (He.ga K "BadText") "__init__") fd
  d_BadNumber : ∃ fd, FunD K "__init__" "BadNumber.__init__" (defArgs si_BadNumber) (defBody si_BadNumber) (defScope si_BadNumber) [] [] (He.ma K (He.ga K "BadNumber") "__init__") fd
  d_NoEntry : ∃ fd, FunD K "__init__" "NoEntry.__init__" (defArgs si_NoEntry) (defBody si_NoEntry) (defScope si_NoEntry) [] [] (He.ma K (He.ga K "NoEntry") "__init__") fd
  d_Taken : ∃ fd, FunD K "__init__" "Taken.__init__" (defArgs si_Taken) (defBody si_Taken) (defScope si_Taken) [] [] (He.ma K (He.ga K "Taken") "__init__") fd
  d_TooMany : ∃ fd, FunD K "__init__" "TooMany.__init__" (defArgs si_TooMany) (defBody si_TooMany) (defScope si_TooMany) [] [] (He.ma K (He.ga K "TooMany") "__init__") fd
  d_BadWorld : ∃ fd, FunD K "__init__" "BadWorld.__init__" (defArgs si_BadWorld) (defBody si_BadWorld) (defScope si_BadWorld) [] [] (He.ma K (He.ga K "BadWorld") "__init__") fd
  d_BadTrouble : ∃ fd, FunD K "__init__" "BadTrouble.__init__" (defArgs si_BadTrouble) (defBody si_BadTrouble) (defScope si_BadTrouble) [] [] (He.ma K (He.ga K "BadTrouble") "__init__") fd
  d_BadThing : ∃ fd, FunD K "__init__" "BadThing.__init__" (defArgs si_BadThing) (defBody si_BadThing) (defScope si_BadThing) [] [] (He.ma K (He.ga K "BadThing") "__init__") fd
  d_BadShelf : ∃ fd, FunD K "__init__" "BadShelf.__init__" (defArgs si_BadShelf) (defBody si_BadShelf) (defScope si_BadShelf) [] [] (He.ma K (He.ga K "BadShelf") "__init__") fd
  d_NoSighting : ∃ fd, FunD K "__init__" "NoSighting.__init__" (defArgs si_NoSighting) (defBody si_NoSighting) (defScope si_NoSighting) [] [] (He.ma K (He.ga K "NoSighting") "__init__") fd
  d_BadDevice : ∃ fd, FunD K "__init__" "BadDevice.__init__" (defArgs si_BadDevice) (defBody si_BadDevice) (defScope si_BadDevice) [] [] (He.ma K (He.ga K "BadDevice") "__init__") fd
  d_BadLibrary : ∃ fd, FunD K "__init__" "BadLibrary.__init__" (defArgs si_BadLibrary) (defBody si_BadLibrary) (defScope si_BadLibrary) [] [] (He.ma K (He.ga K "BadLibrary") "__init__") fd
  d_Torn : ∃ fd, FunD K "__init__" "Torn.__init__" (defArgs si_Torn) (defBody si_Torn) (defScope si_Torn) [] [] (He.ma K (He.ga K "Torn") "__init__") fd
  d_NoItem : ∃ fd, FunD K "__init__" "NoItem.__init__" (defArgs si_NoItem) (defBody si_NoItem) (defScope si_NoItem) [] [] (He.ma K (He.ga K "NoItem") "__init__") fd
  d_BadFolder : ∃ fd, FunD K "__init__" "BadFolder.__init__" (defArgs si_BadFolder) (defBody si_BadFolder) (defScope si_BadFolder) [] [] (He.ma K (He.ga K "BadFolder") "__init__") fd
  d_NoNote : ∃ fd, FunD K "__init__" "NoNote.__init__" (defArgs si_NoNote) (defBody si_NoNote) (defScope si_NoNote) [] [] (He.ma K (He.ga K "NoNote") "__init__") fd
  d_BadQuery : ∃ fd, FunD K "__init__" "BadQuery.__init__" (defArgs si_BadQuery) (defBody si_BadQuery) (defScope si_BadQuery) [] [] (He.ma K (He.ga K "BadQuery") "__init__") fd
  d_BadWindow : ∃ fd, FunD K "__init__" "BadWindow.__init__" (defArgs si_BadWindow) (defBody si_BadWindow) (defScope si_BadWindow) [] [] (He.ma K (He.ga K "BadWindow") "__init__") fd
  d_BadOffer : ∃ fd, FunD K "__init__" "BadOffer.__init__" (defArgs si_BadOffer) (defBody si_BadOffer) (defScope si_BadOffer) [] [] (He.ma K (He.ga K "BadOffer") "__init__") fd
  d_BadLog : ∃ fd, FunD K "__init__" "BadLog.__init__" (defArgs si_BadLog) (defBody si_BadLog) (defScope si_BadLog) [] [] (He.ma K (He.ga K "BadLog") "__init__") fd
  d_NoAnswer : ∃ fd, FunD K "__init__" "NoAnswer.__init__" (defArgs si_NoAnswer) (defBody si_NoAnswer) (defScope si_NoAnswer) [] [] (He.ma K (He.ga K "NoAnswer") "__init__") fd
  d_BadVector : ∃ fd, FunD K "__init__" "BadVector.__init__" (defArgs si_BadVector) (defBody si_BadVector) (defScope si_BadVector) [] [] (He.ma K (He.ga K "BadVector") "__init__") fd
  d_BadBundle : ∃ fd, FunD K "__init__" "BadBundle.__init__" (defArgs si_BadBundle) (defBody si_BadBundle) (defScope si_BadBundle) [] [] (He.ma K (He.ga K "BadBundle") "__init__") fd
  d_Gap : ∃ fd, FunD K "__init__" "Gap.__init__" (defArgs si_Gap) (defBody si_Gap) (defScope si_Gap) [] [] (He.ma K (He.ga K "Gap") "__init__") fd
section
variable {K : PySem.W.Frag} {mg : Str → Option Value}
theorem Fx.ist (fx : Fx K mg) : IstOk istab K := ⟨fx.istb, show ∀ C ∈ istN, ∃ fs, ExC K C fs from List.forall_mem_cons.mpr ⟨⟨_, fx.x_BadMoment⟩, List.forall_mem_cons.mpr ⟨⟨_, fx.x_BadZone⟩, List.forall_mem_cons.mpr ⟨⟨_, fx.x_BadDate⟩, List.forall_mem_cons.mpr ⟨⟨_, fx.x_BadAddress⟩, List.forall_mem_cons.mpr ⟨⟨_, fx.x_BadEntry⟩, List.forall_mem_cons.mpr ⟨⟨_, fx.x_BadPage⟩, List.forall_mem_cons.mpr ⟨⟨_, fx.x_BadText⟩, List.forall_mem_cons.mpr ⟨⟨_, fx.x_BadNumber⟩, List.forall_mem_cons.mpr ⟨⟨_, fx.x_NoEntry⟩, List.forall_mem_cons.mpr ⟨⟨_, fx.x_Taken⟩, List.forall_mem_cons.mpr ⟨⟨_, fx.x_TooMany⟩, List.forall_mem_cons.mpr ⟨⟨_, fx.x_BadWorld⟩, List.forall_mem_cons.mpr ⟨⟨_, fx.x_BadTrouble⟩, List.forall_mem_cons.mpr ⟨⟨_, fx.x_BadThing⟩, List.forall_mem_cons.mpr ⟨⟨_, fx.x_BadShelf⟩, List.forall_mem_cons.mpr ⟨⟨_, fx.x_NoSighting⟩, List.forall_mem_cons.mpr ⟨⟨_, fx.x_BadDevice⟩, List.forall_mem_cons.mpr ⟨⟨_, fx.x_BadLibrary⟩, List.forall_mem_cons.mpr ⟨⟨_, fx.x_Torn⟩, List.forall_mem_cons.mpr ⟨⟨_, fx.x_NoItem⟩, List.forall_mem_cons.mpr ⟨⟨_, fx.x_BadFolder⟩, List.forall_mem_cons.mpr ⟨⟨_, fx.x_NoNote⟩, List.forall_mem_cons.mpr ⟨⟨_, fx.x_BadQuery⟩, List.forall_mem_cons.mpr ⟨⟨_, fx.x_BadWindow⟩, List.forall_mem_cons.mpr ⟨⟨_, fx.x_BadOffer⟩, List.forall_mem_cons.mpr ⟨⟨_, fx.x_BadLog⟩, List.forall_mem_cons.mpr ⟨⟨_, fx.x_NoAnswer⟩, List.forall_mem_cons.mpr ⟨⟨_, fx.x_BadVector⟩, List.forall_mem_cons.mpr ⟨⟨_, fx.x_BadBundle⟩, List.forall_mem_cons.mpr ⟨⟨_, fx.x_Gap⟩, (fun _ h => nomatch h)⟩⟩⟩⟩⟩⟩⟩⟩⟩⟩⟩⟩⟩⟩⟩⟩⟩⟩⟩⟩⟩⟩⟩⟩⟩⟩⟩⟩⟩⟩⟩
end
theorem fc_column {K : PySem.W.Frag} {mg : Str → Option Value} (fx : Fx K mg) : ∀ C ∈ cs_column, ∃ fs, ExC K C fs ∧ ("column" : Str) ∈ fs := fun C h => by
  simp only [cs_column, List.mem_cons, List.not_mem_nil, or_false] at h
  rcases h with rfl
  · exact ⟨_, fx.x_BadText, by simp⟩
theorem fc_device {K : PySem.W.Frag} {mg : Str → Option Value} (fx : Fx K mg) : ∀ C ∈ cs_device, ∃ fs, ExC K C fs ∧ ("device" : Str) ∈ fs := fun C h => by
  simp only [cs_device, List.mem_cons, List.not_mem_nil, or_false] at h
  rcases h with rfl
  · exact ⟨_, fx.x_Gap, by simp⟩
theorem fc_field {K : PySem.W.Frag} {mg : Str → Option Value} (fx : Fx K mg) : ∀ C ∈ cs_field, ∃ fs, ExC K C fs ∧ ("field" : Str) ∈ fs := fun C h => by
  simp only [cs_field, List.mem_cons, List.not_mem_nil, or_false] at h
  rcases h with rfl | rfl | rfl
  · exact ⟨_, fx.x_BadEntry, by simp⟩
  · exact ⟨_, fx.x_BadPage, by simp⟩
  · exact ⟨_, fx.x_BadNumber, by simp⟩
theorem fc_given {K : PySem.W.Frag} {mg : Str → Option Value} (fx : Fx K mg) : ∀ C ∈ cs_given, ∃ fs, ExC K C fs ∧ ("given" : Str) ∈ fs := fun C h => by
  simp only [cs_given, List.mem_cons, List.not_mem_nil, or_false] at h
  rcases h with rfl | rfl | rfl | rfl | rfl | rfl | rfl | rfl | rfl | rfl | rfl
  · exact ⟨_, fx.x_BadMoment, by simp⟩
  · exact ⟨_, fx.x_BadZone, by simp⟩
  · exact ⟨_, fx.x_BadDate, by simp⟩
  · exact ⟨_, fx.x_BadAddress, by simp⟩
  · exact ⟨_, fx.x_NoEntry, by simp⟩
  · exact ⟨_, fx.x_Taken, by simp⟩
  · exact ⟨_, fx.x_BadThing, by simp⟩
  · exact ⟨_, fx.x_BadDevice, by simp⟩
  · exact ⟨_, fx.x_NoItem, by simp⟩
  · exact ⟨_, fx.x_BadFolder, by simp⟩
  · exact ⟨_, fx.x_BadVector, by simp⟩
theorem fc_line {K : PySem.W.Frag} {mg : Str → Option Value} (fx : Fx K mg) : ∀ C ∈ cs_line, ∃ fs, ExC K C fs ∧ ("line" : Str) ∈ fs := fun C h => by
  simp only [cs_line, List.mem_cons, List.not_mem_nil, or_false] at h
  rcases h with rfl
  · exact ⟨_, fx.x_BadText, by simp⟩
theorem fc_number {K : PySem.W.Frag} {mg : Str → Option Value} (fx : Fx K mg) : ∀ C ∈ cs_number, ∃ fs, ExC K C fs ∧ ("number" : Str) ∈ fs := fun C h => by
  simp only [cs_number, List.mem_cons, List.not_mem_nil, or_false] at h
  rcases h with rfl | rfl | rfl | rfl | rfl | rfl | rfl | rfl | rfl | rfl | rfl
  · exact ⟨_, fx.x_BadPage, by simp⟩
  · exact ⟨_, fx.x_BadWorld, by simp⟩
  · exact ⟨_, fx.x_BadTrouble, by simp⟩
  · exact ⟨_, fx.x_BadShelf, by simp⟩
  · exact ⟨_, fx.x_NoSighting, by simp⟩
  · exact ⟨_, fx.x_BadLibrary, by simp⟩
  · exact ⟨_, fx.x_BadWindow, by simp⟩
  · exact ⟨_, fx.x_BadOffer, by simp⟩
  · exact ⟨_, fx.x_BadLog, by simp⟩
  · exact ⟨_, fx.x_NoAnswer, by simp⟩
  · exact ⟨_, fx.x_BadBundle, by simp⟩
theorem fc_path {K : PySem.W.Frag} {mg : Str → Option Value} (fx : Fx K mg) : ∀ C ∈ cs_path, ∃ fs, ExC K C fs ∧ ("path" : Str) ∈ fs := fun C h => by
  simp only [cs_path, List.mem_cons, List.not_mem_nil, or_false] at h
  rcases h with rfl
  · exact ⟨_, fx.x_BadQuery, by simp⟩
theorem fc_stamp {K : PySem.W.Frag} {mg : Str → Option Value} (fx : Fx K mg) : ∀ C ∈ cs_stamp, ∃ fs, ExC K C fs ∧ ("stamp" : Str) ∈ fs := fun C h => by
  simp only [cs_stamp, List.mem_cons, List.not_mem_nil, or_false] at h
  rcases h with rfl | rfl
  · exact ⟨_, fx.x_Torn, by simp⟩
  · exact ⟨_, fx.x_NoNote, by simp⟩
theorem fc_what {K : PySem.W.Frag} {mg : Str → Option Value} (fx : Fx K mg) : ∀ C ∈ cs_what, ∃ fs, ExC K C fs ∧ ("what" : Str) ∈ fs := fun C h => by
  simp only [cs_what, List.mem_cons, List.not_mem_nil, or_false] at h
  rcases h with rfl
  · exact ⟨_, fx.x_TooMany, by simp⟩
instance {v0 v1 : Val} {R : Val → Prop} {Z : Prop} [Rx (R v0) Z] : Sx (gFld cs_column "column" (.exc "BadText" ["column", "line"] [v0, v1]) R) Z := ⟨fun z => r_fld (by simp [cs_column]) rfl rfl (Rx.h z)⟩
instance {v0 : Val} {R : Val → Prop} {Z : Prop} [Rx (R v0) Z] : Sx (gFld cs_device "device" (.exc "Gap" ["device"] [v0]) R) Z := ⟨fun z => r_fld (by simp [cs_device]) rfl rfl (Rx.h z)⟩
instance {v0 : Val} {R : Val → Prop} {Z : Prop} [Rx (R v0) Z] : Sx (gFld cs_field "field" (.exc "BadEntry" ["field"] [v0]) R) Z := ⟨fun z => r_fld (by simp [cs_field]) rfl rfl (Rx.h z)⟩
instance {v0 v1 : Val} {R : Val → Prop} {Z : Prop} [Rx (R v1) Z] : Sx (gFld cs_field "field" (.exc "BadPage" ["number", "field"] [v0, v1]) R) Z := ⟨fun z => r_fld (by simp [cs_field]) rfl rfl (Rx.h z)⟩
instance {v0 : Val} {R : Val → Prop} {Z : Prop} [Rx (R v0) Z] : Sx (gFld cs_field "field" (.exc "BadNumber" ["field"] [v0]) R) Z := ⟨fun z => r_fld (by simp [cs_field]) rfl rfl (Rx.h z)⟩
instance {v0 : Val} {R : Val → Prop} {Z : Prop} [Rx (R v0) Z] : Sx (gFld cs_given "given" (.exc "BadMoment" ["given"] [v0]) R) Z := ⟨fun z => r_fld (by simp [cs_given]) rfl rfl (Rx.h z)⟩
instance {v0 : Val} {R : Val → Prop} {Z : Prop} [Rx (R v0) Z] : Sx (gFld cs_given "given" (.exc "BadZone" ["given"] [v0]) R) Z := ⟨fun z => r_fld (by simp [cs_given]) rfl rfl (Rx.h z)⟩
instance {v0 : Val} {R : Val → Prop} {Z : Prop} [Rx (R v0) Z] : Sx (gFld cs_given "given" (.exc "BadDate" ["given"] [v0]) R) Z := ⟨fun z => r_fld (by simp [cs_given]) rfl rfl (Rx.h z)⟩
instance {v0 : Val} {R : Val → Prop} {Z : Prop} [Rx (R v0) Z] : Sx (gFld cs_given "given" (.exc "BadAddress" ["given"] [v0]) R) Z := ⟨fun z => r_fld (by simp [cs_given]) rfl rfl (Rx.h z)⟩
instance {v0 : Val} {R : Val → Prop} {Z : Prop} [Rx (R v0) Z] : Sx (gFld cs_given "given" (.exc "NoEntry" ["given"] [v0]) R) Z := ⟨fun z => r_fld (by simp [cs_given]) rfl rfl (Rx.h z)⟩
instance {v0 : Val} {R : Val → Prop} {Z : Prop} [Rx (R v0) Z] : Sx (gFld cs_given "given" (.exc "Taken" ["given"] [v0]) R) Z := ⟨fun z => r_fld (by simp [cs_given]) rfl rfl (Rx.h z)⟩
instance {v0 : Val} {R : Val → Prop} {Z : Prop} [Rx (R v0) Z] : Sx (gFld cs_given "given" (.exc "BadThing" ["given"] [v0]) R) Z := ⟨fun z => r_fld (by simp [cs_given]) rfl rfl (Rx.h z)⟩
instance {v0 : Val} {R : Val → Prop} {Z : Prop} [Rx (R v0) Z] : Sx (gFld cs_given "given" (.exc "BadDevice" ["given"] [v0]) R) Z := ⟨fun z => r_fld (by simp [cs_given]) rfl rfl (Rx.h z)⟩
instance {v0 : Val} {R : Val → Prop} {Z : Prop} [Rx (R v0) Z] : Sx (gFld cs_given "given" (.exc "NoItem" ["given"] [v0]) R) Z := ⟨fun z => r_fld (by simp [cs_given]) rfl rfl (Rx.h z)⟩
instance {v0 : Val} {R : Val → Prop} {Z : Prop} [Rx (R v0) Z] : Sx (gFld cs_given "given" (.exc "BadFolder" ["given"] [v0]) R) Z := ⟨fun z => r_fld (by simp [cs_given]) rfl rfl (Rx.h z)⟩
instance {v0 : Val} {R : Val → Prop} {Z : Prop} [Rx (R v0) Z] : Sx (gFld cs_given "given" (.exc "BadVector" ["given"] [v0]) R) Z := ⟨fun z => r_fld (by simp [cs_given]) rfl rfl (Rx.h z)⟩
instance {v0 v1 : Val} {R : Val → Prop} {Z : Prop} [Rx (R v1) Z] : Sx (gFld cs_line "line" (.exc "BadText" ["column", "line"] [v0, v1]) R) Z := ⟨fun z => r_fld (by simp [cs_line]) rfl rfl (Rx.h z)⟩
instance {v0 v1 : Val} {R : Val → Prop} {Z : Prop} [Rx (R v0) Z] : Sx (gFld cs_number "number" (.exc "BadPage" ["number", "field"] [v0, v1]) R) Z := ⟨fun z => r_fld (by simp [cs_number]) rfl rfl (Rx.h z)⟩
instance {v0 : Val} {R : Val → Prop} {Z : Prop} [Rx (R v0) Z] : Sx (gFld cs_number "number" (.exc "BadWorld" ["number"] [v0]) R) Z := ⟨fun z => r_fld (by simp [cs_number]) rfl rfl (Rx.h z)⟩
instance {v0 : Val} {R : Val → Prop} {Z : Prop} [Rx (R v0) Z] : Sx (gFld cs_number "number" (.exc "BadTrouble" ["number"] [v0]) R) Z := ⟨fun z => r_fld (by simp [cs_number]) rfl rfl (Rx.h z)⟩
instance {v0 : Val} {R : Val → Prop} {Z : Prop} [Rx (R v0) Z] : Sx (gFld cs_number "number" (.exc "BadShelf" ["number"] [v0]) R) Z := ⟨fun z => r_fld (by simp [cs_number]) rfl rfl (Rx.h z)⟩
instance {v0 : Val} {R : Val → Prop} {Z : Prop} [Rx (R v0) Z] : Sx (gFld cs_number "number" (.exc "NoSighting" ["number"] [v0]) R) Z := ⟨fun z => r_fld (by simp [cs_number]) rfl rfl (Rx.h z)⟩
instance {v0 : Val} {R : Val → Prop} {Z : Prop} [Rx (R v0) Z] : Sx (gFld cs_number "number" (.exc "BadLibrary" ["number"] [v0]) R) Z := ⟨fun z => r_fld (by simp [cs_number]) rfl rfl (Rx.h z)⟩
instance {v0 : Val} {R : Val → Prop} {Z : Prop} [Rx (R v0) Z] : Sx (gFld cs_number "number" (.exc "BadWindow" ["number"] [v0]) R) Z := ⟨fun z => r_fld (by simp [cs_number]) rfl rfl (Rx.h z)⟩
instance {v0 : Val} {R : Val → Prop} {Z : Prop} [Rx (R v0) Z] : Sx (gFld cs_number "number" (.exc "BadOffer" ["number"] [v0]) R) Z := ⟨fun z => r_fld (by simp [cs_number]) rfl rfl (Rx.h z)⟩
instance {v0 : Val} {R : Val → Prop} {Z : Prop} [Rx (R v0) Z] : Sx (gFld cs_number "number" (.exc "BadLog" ["number"] [v0]) R) Z := ⟨fun z => r_fld (by simp [cs_number]) rfl rfl (Rx.h z)⟩
instance {v0 : Val} {R : Val → Prop} {Z : Prop} [Rx (R v0) Z] : Sx (gFld cs_number "number" (.exc "NoAnswer" ["number"] [v0]) R) Z := ⟨fun z => r_fld (by simp [cs_number]) rfl rfl (Rx.h z)⟩
instance {v0 : Val} {R : Val → Prop} {Z : Prop} [Rx (R v0) Z] : Sx (gFld cs_number "number" (.exc "BadBundle" ["number"] [v0]) R) Z := ⟨fun z => r_fld (by simp [cs_number]) rfl rfl (Rx.h z)⟩
instance {v0 : Val} {R : Val → Prop} {Z : Prop} [Rx (R v0) Z] : Sx (gFld cs_path "path" (.exc "BadQuery" ["path"] [v0]) R) Z := ⟨fun z => r_fld (by simp [cs_path]) rfl rfl (Rx.h z)⟩
instance {v0 : Val} {R : Val → Prop} {Z : Prop} [Rx (R v0) Z] : Sx (gFld cs_stamp "stamp" (.exc "Torn" ["stamp"] [v0]) R) Z := ⟨fun z => r_fld (by simp [cs_stamp]) rfl rfl (Rx.h z)⟩
instance {v0 : Val} {R : Val → Prop} {Z : Prop} [Rx (R v0) Z] : Sx (gFld cs_stamp "stamp" (.exc "NoNote" ["stamp"] [v0]) R) Z := ⟨fun z => r_fld (by simp [cs_stamp]) rfl rfl (Rx.h z)⟩
instance {v0 : Val} {R : Val → Prop} {Z : Prop} [Rx (R v0) Z] : Sx (gFld cs_what "what" (.exc "TooMany" ["what"] [v0]) R) Z := ⟨fun z => r_fld (by simp [cs_what]) rfl rfl (Rx.h z)⟩
/-! ### each def does what its p-term says -/
section
variable {P : Program} {w : World} {K : PySem.W.Frag} {mg : Str → Option Value} {base : Heap}
theorem sci_BadMoment : FnScope ["self", "given"] ["self", "given"] (defScope si_BadMoment) := ⟨rfl, rfl, rfl, by decide +kernel, rfl, by decide +kernel, by decide +kernel⟩
theorem xi_BadMoment (fx : Fx K mg) : XiOk P w K mg base "BadMoment" ["given"] := by
  obtain ⟨fd, D⟩ := fx.d_BadMoment
  exact ⟨fx.x_BadMoment, fx.i_BadMoment, fd, _, D.bindsN (ps := ["self", "given"]) (fun _ _ _ _ _ _ us hl => match us, hl with | [_, _], _ => rfl), xi_one fx.x_BadMoment D sci_BadMoment (by decide) (by decide) rfl rfl (fun _ => rfl)⟩
theorem sci_BadZone : FnScope ["self", "given"] ["self", "given"] (defScope si_BadZone) := ⟨rfl, rfl, rfl, by decide +kernel, rfl, by decide +kernel, by decide +kernel⟩
theorem xi_BadZone (fx : Fx K mg) : XiOk P w K mg base "BadZone" ["given"] := by
  obtain ⟨fd, D⟩ := fx.d_BadZone
  exact ⟨fx.x_BadZone, fx.i_BadZone, fd, _, D.bindsN (ps := ["self", "given"]) (fun _ _ _ _ _ _ us hl => match us, hl with | [_, _], _ => rfl), xi_one fx.x_BadZone D sci_BadZone (by decide) (by decide) rfl rfl (fun _ => rfl)⟩
theorem sci_BadDate : FnScope ["self", "given"] ["self", "given"] (defScope si_BadDate) := ⟨rfl, rfl, rfl, by decide +kernel, rfl, by decide +kernel, by decide +kernel⟩
theorem xi_BadDate (fx : Fx K mg) : XiOk P w K mg base "BadDate" ["given"] := by
  obtain ⟨fd, D⟩ := fx.d_BadDate
  exact ⟨fx.x_BadDate, fx.i_BadDate, fd, _, D.bindsN (ps := ["self", "given"]) (fun _ _ _ _ _ _ us hl => match us, hl with | [_, _], _ => rfl), xi_one fx.x_BadDate D sci_BadDate (by decide) (by decide) rfl rfl (fun _ => rfl)⟩
theorem sci_BadAddress : FnScope ["self", "given"] ["self", "given"] (defScope si_BadAddress) := ⟨rfl, rfl, rfl, by decide +kernel, rfl, by decide +kernel, by decide +kernel⟩
theorem xi_BadAddress (fx : Fx K mg) : XiOk P w K mg base "BadAddress" ["given"] := by
  obtain ⟨fd, D⟩ := fx.d_BadAddress
  exact ⟨fx.x_BadAddress, fx.i_BadAddress, fd, _, D.bindsN (ps := ["self", "given"]) (fun _ _ _ _ _ _ us hl => match us, hl with | [_, _], _ => rfl), xi_one fx.x_BadAddress D sci_BadAddress (by decide) (by decide) rfl rfl (fun _ => rfl)⟩
theorem sci_BadEntry : FnScope ["self", "field"] ["self", "field"] (defScope si_BadEntry) := ⟨rfl, rfl, rfl, by decide +kernel, rfl, by decide +kernel, by decide +kernel⟩
theorem xi_BadEntry (fx : Fx K mg) : XiOk P w K mg base "BadEntry" ["field"] := by
  obtain ⟨fd, D⟩ := fx.d_BadEntry
  exact ⟨fx.x_BadEntry, fx.i_BadEntry, fd, _, D.bindsN (ps := ["self", "field"]) (fun _ _ _ _ _ _ us hl => match us, hl with | [_, _], _ => rfl), xi_one fx.x_BadEntry D sci_BadEntry (by decide) (by decide) rfl rfl (fun _ => rfl)⟩
theorem sci_BadPage : FnScope ["self", "field", "number"] ["self", "field", "number"] (defScope si_BadPage) := ⟨rfl, rfl, rfl, by decide +kernel, rfl, by decide +kernel, by decide +kernel⟩
theorem xi_BadPage (fx : Fx K mg) : XiOk P w K mg base "BadPage" ["field", "number"] := by
  obtain ⟨fd, D⟩ := fx.d_BadPage
  exact ⟨fx.x_BadPage, fx.i_BadPage, fd, _, D.bindsN (ps := ["self", "field", "number"]) (fun _ _ _ _ _ _ us hl => match us, hl with | [_, _, _], _ => rfl), xi_two fx.x_BadPage D sci_BadPage (by decide) (by decide) (by decide) (by decide) rfl rfl rfl (fun _ => rfl) (fun _ => rfl)⟩
theorem sci_BadText : FnScope ["self", "line", "column"] ["self", "line", "column"] (defScope si_BadText) := ⟨rfl, rfl, rfl, by decide +kernel, rfl, by decide +kernel, by decide +kernel⟩
theorem xi_BadText (fx : Fx K mg) : XiOk P w K mg base "BadText" ["line", "column"] := by
  obtain ⟨fd, D⟩ := fx.d_BadText
  exact ⟨fx.x_BadText, fx.i_BadText, fd, _, D.bindsN (ps := ["self", "line", "column"]) (fun _ _ _ _ _ _ us hl => match us, hl with | [_, _, _], _ => rfl), xi_two fx.x_BadText D sci_BadText (by decide) (by decide) (by decide) (by decide) rfl rfl rfl (fun _ => rfl) (fun _ => rfl)⟩
theorem sci_BadNumber : FnScope ["self", "field"] ["self", "field"] (defScope si_BadNumber) := ⟨rfl, rfl, rfl, by decide +kernel, rfl, by decide +kernel, by decide +kernel⟩
theorem xi_BadNumber (fx : Fx K mg) : XiOk P w K mg base "BadNumber" ["field"] := by
  obtain ⟨fd, D⟩ := fx.d_BadNumber
  exact ⟨fx.x_BadNumber, fx.i_BadNumber, fd, _, D.bindsN (ps := ["self", "field"]) (fun _ _ _ _ _ _ us hl => match us, hl with | [_, _], _ => rfl), xi_one fx.x_BadNumber D sci_BadNumber (by decide) (by decide) rfl rfl (fun _ => rfl)⟩
theorem sci_NoEntry : FnScope ["self", "given"] ["self", "given"] (defScope si_NoEntry) := ⟨rfl, rfl, rfl, by decide +kernel, rfl, by decide +kernel, by decide +kernel⟩
theorem xi_NoEntry (fx : Fx K mg) : XiOk P w K mg base "NoEntry" ["given"] := by
  obtain ⟨fd, D⟩ := fx.d_NoEntry
  exact ⟨fx.x_NoEntry, fx.i_NoEntry, fd, _, D.bindsN (ps := ["self", "given"]) (fun _ _ _ _ _ _ us hl => match us, hl with | [_, _], _ => rfl), xi_one fx.x_NoEntry D sci_NoEntry (by decide) (by decide) rfl rfl (fun _ => rfl)⟩
theorem sci_Taken : FnScope ["self", "given"] ["self", "given"] (defScope si_Taken) := ⟨rfl, rfl, rfl, by decide +kernel, rfl, by decide +kernel, by decide +kernel⟩
theorem xi_Taken (fx : Fx K mg) : XiOk P w K mg base "Taken" ["given"] := by
  obtain ⟨fd, D⟩ := fx.d_Taken
  exact ⟨fx.x_Taken, fx.i_Taken, fd, _, D.bindsN (ps := ["self", "given"]) (fun _ _ _ _ _ _ us hl => match us, hl with | [_, _], _ => rfl), xi_one fx.x_Taken D sci_Taken (by decide) (by decide) rfl rfl (fun _ => rfl)⟩
theorem sci_TooMany : FnScope ["self", "what"] ["self", "what"] (defScope si_TooMany) := ⟨rfl, rfl, rfl, by decide +kernel, rfl, by decide +kernel, by decide +kernel⟩
theorem xi_TooMany (fx : Fx K mg) : XiOk P w K mg base "TooMany" ["what"] := by
  obtain ⟨fd, D⟩ := fx.d_TooMany
  exact ⟨fx.x_TooMany, fx.i_TooMany, fd, _, D.bindsN (ps := ["self", "what"]) (fun _ _ _ _ _ _ us hl => match us, hl with | [_, _], _ => rfl), xi_one fx.x_TooMany D sci_TooMany (by decide) (by decide) rfl rfl (fun _ => rfl)⟩
theorem sci_BadWorld : FnScope ["self", "number"] ["self", "number"] (defScope si_BadWorld) := ⟨rfl, rfl, rfl, by decide +kernel, rfl, by decide +kernel, by decide +kernel⟩
theorem xi_BadWorld (fx : Fx K mg) : XiOk P w K mg base "BadWorld" ["number"] := by
  obtain ⟨fd, D⟩ := fx.d_BadWorld
  exact ⟨fx.x_BadWorld, fx.i_BadWorld, fd, _, D.bindsN (ps := ["self", "number"]) (fun _ _ _ _ _ _ us hl => match us, hl with | [_, _], _ => rfl), xi_one fx.x_BadWorld D sci_BadWorld (by decide) (by decide) rfl rfl (fun _ => rfl)⟩
theorem sci_BadTrouble : FnScope ["self", "number"] ["self", "number"] (defScope si_BadTrouble) := ⟨rfl, rfl, rfl, by decide +kernel, rfl, by decide +kernel, by decide +kernel⟩
theorem xi_BadTrouble (fx : Fx K mg) : XiOk P w K mg base "BadTrouble" ["number"] := by
  obtain ⟨fd, D⟩ := fx.d_BadTrouble
  exact ⟨fx.x_BadTrouble, fx.i_BadTrouble, fd, _, D.bindsN (ps := ["self", "number"]) (fun _ _ _ _ _ _ us hl => match us, hl with | [_, _], _ => rfl), xi_one fx.x_BadTrouble D sci_BadTrouble (by decide) (by decide) rfl rfl (fun _ => rfl)⟩
theorem sci_BadThing : FnScope ["self", "given"] ["self", "given"] (defScope si_BadThing) := ⟨rfl, rfl, rfl, by decide +kernel, rfl, by decide +kernel, by decide +kernel⟩
theorem xi_BadThing (fx : Fx K mg) : XiOk P w K mg base "BadThing" ["given"] := by
  obtain ⟨fd, D⟩ := fx.d_BadThing
  exact ⟨fx.x_BadThing, fx.i_BadThing, fd, _, D.bindsN (ps := ["self", "given"]) (fun _ _ _ _ _ _ us hl => match us, hl with | [_, _], _ => rfl), xi_one fx.x_BadThing D sci_BadThing (by decide) (by decide) rfl rfl (fun _ => rfl)⟩
theorem sci_BadShelf : FnScope ["self", "number"] ["self", "number"] (defScope si_BadShelf) := ⟨rfl, rfl, rfl, by decide +kernel, rfl, by decide +kernel, by decide +kernel⟩
theorem xi_BadShelf (fx : Fx K mg) : XiOk P w K mg base "BadShelf" ["number"] := by
  obtain ⟨fd, D⟩ := fx.d_BadShelf
  exact ⟨fx.x_BadShelf, fx.i_BadShelf, fd, _, D.bindsN (ps := ["self", "number"]) (fun _ _ _ _ _ _ us hl => match us, hl with | [_, _], _ => rfl), xi_one fx.x_BadShelf D sci_BadShelf (by decide) (by decide) rfl rfl (fun _ => rfl)⟩
theorem sci_NoSighting : FnScope ["self", "number"] ["self", "number"] (defScope si_NoSighting) := ⟨rfl, rfl, rfl, by decide +kernel, rfl, by decide +kernel, by decide +kernel⟩
theorem xi_NoSighting (fx : Fx K mg) : XiOk P w K mg base "NoSighting" ["number"] := by
  obtain ⟨fd, D⟩ := fx.d_NoSighting
  exact ⟨fx.x_NoSighting, fx.i_NoSighting, fd, _, D.bindsN (ps := ["self", "number"]) (fun _ _ _ _ _ _ us hl => match us, hl with | [_, _], _ => rfl), xi_one fx.x_NoSighting D sci_NoSighting (by decide) (by decide) rfl rfl (fun _ => rfl)⟩
theorem sci_BadDevice : FnScope ["self", "given"] ["self", "given"] (defScope si_BadDevice) := ⟨rfl, rfl, rfl, by decide +kernel, rfl, by decide +kernel, by decide +kernel⟩
theorem xi_BadDevice (fx : Fx K mg) : XiOk P w K mg base "BadDevice" ["given"] := by
  obtain ⟨fd, D⟩ := fx.d_BadDevice
  exact ⟨fx.x_BadDevice, fx.i_BadDevice, fd, _, D.bindsN (ps := ["self", "given"]) (fun _ _ _ _ _ _ us hl => match us, hl with | [_, _], _ => rfl), xi_one fx.x_BadDevice D sci_BadDevice (by decide) (by decide) rfl rfl (fun _ => rfl)⟩
theorem sci_BadLibrary : FnScope ["self", "number"] ["self", "number"] (defScope si_BadLibrary) := ⟨rfl, rfl, rfl, by decide +kernel, rfl, by decide +kernel, by decide +kernel⟩
theorem xi_BadLibrary (fx : Fx K mg) : XiOk P w K mg base "BadLibrary" ["number"] := by
  obtain ⟨fd, D⟩ := fx.d_BadLibrary
  exact ⟨fx.x_BadLibrary, fx.i_BadLibrary, fd, _, D.bindsN (ps := ["self", "number"]) (fun _ _ _ _ _ _ us hl => match us, hl with | [_, _], _ => rfl), xi_one fx.x_BadLibrary D sci_BadLibrary (by decide) (by decide) rfl rfl (fun _ => rfl)⟩
theorem sci_Torn : FnScope ["self", "stamp"] ["self", "stamp"] (defScope si_Torn) := ⟨rfl, rfl, rfl, by decide +kernel, rfl, by decide +kernel, by decide +kernel⟩
theorem xi_Torn (fx : Fx K mg) : XiOk P w K mg base "Torn" ["stamp"] := by
  obtain ⟨fd, D⟩ := fx.d_Torn
  exact ⟨fx.x_Torn, fx.i_Torn, fd, _, D.bindsN (ps := ["self", "stamp"]) (fun _ _ _ _ _ _ us hl => match us, hl with | [_, _], _ => rfl), xi_one fx.x_Torn D sci_Torn (by decide) (by decide) rfl rfl (fun _ => rfl)⟩
theorem sci_NoItem : FnScope ["self", "given"] ["self", "given"] (defScope si_NoItem) := ⟨rfl, rfl, rfl, by decide +kernel, rfl, by decide +kernel, by decide +kernel⟩
theorem xi_NoItem (fx : Fx K mg) : XiOk P w K mg base "NoItem" ["given"] := by
  obtain ⟨fd, D⟩ := fx.d_NoItem
  exact ⟨fx.x_NoItem, fx.i_NoItem, fd, _, D.bindsN (ps := ["self", "given"]) (fun _ _ _ _ _ _ us hl => match us, hl with | [_, _], _ => rfl), xi_one fx.x_NoItem D sci_NoItem (by decide) (by decide) rfl rfl (fun _ => rfl)⟩
theorem sci_BadFolder : FnScope ["self", "given"] ["self", "given"] (defScope si_BadFolder) := ⟨rfl, rfl, rfl, by decide +kernel, rfl, by decide +kernel, by decide +kernel⟩
theorem xi_BadFolder (fx : Fx K mg) : XiOk P w K mg base "BadFolder" ["given"] := by
  obtain ⟨fd, D⟩ := fx.d_BadFolder
  exact ⟨fx.x_BadFolder, fx.i_BadFolder, fd, _, D.bindsN (ps := ["self", "given"]) (fun _ _ _ _ _ _ us hl => match us, hl with | [_, _], _ => rfl), xi_one fx.x_BadFolder D sci_BadFolder (by decide) (by decide) rfl rfl (fun _ => rfl)⟩
theorem sci_NoNote : FnScope ["self", "stamp"] ["self", "stamp"] (defScope si_NoNote) := ⟨rfl, rfl, rfl, by decide +kernel, rfl, by decide +kernel, by decide +kernel⟩
theorem xi_NoNote (fx : Fx K mg) : XiOk P w K mg base "NoNote" ["stamp"] := by
  obtain ⟨fd, D⟩ := fx.d_NoNote
  exact ⟨fx.x_NoNote, fx.i_NoNote, fd, _, D.bindsN (ps := ["self", "stamp"]) (fun _ _ _ _ _ _ us hl => match us, hl with | [_, _], _ => rfl), xi_one fx.x_NoNote D sci_NoNote (by decide) (by decide) rfl rfl (fun _ => rfl)⟩
theorem sci_BadQuery : FnScope ["self", "path"] ["self", "path"] (defScope si_BadQuery) := ⟨rfl, rfl, rfl, by decide +kernel, rfl, by decide +kernel, by decide +kernel⟩
theorem xi_BadQuery (fx : Fx K mg) : XiOk P w K mg base "BadQuery" ["path"] := by
  obtain ⟨fd, D⟩ := fx.d_BadQuery
  exact ⟨fx.x_BadQuery, fx.i_BadQuery, fd, _, D.bindsN (ps := ["self", "path"]) (fun _ _ _ _ _ _ us hl => match us, hl with | [_, _], _ => rfl), xi_one fx.x_BadQuery D sci_BadQuery (by decide) (by decide) rfl rfl (fun _ => rfl)⟩
theorem sci_BadWindow : FnScope ["self", "number"] ["self", "number"] (defScope si_BadWindow) := ⟨rfl, rfl, rfl, by decide +kernel, rfl, by decide +kernel, by decide +kernel⟩
theorem xi_BadWindow (fx : Fx K mg) : XiOk P w K mg base "BadWindow" ["number"] := by
  obtain ⟨fd, D⟩ := fx.d_BadWindow
  exact ⟨fx.x_BadWindow, fx.i_BadWindow, fd, _, D.bindsN (ps := ["self", "number"]) (fun _ _ _ _ _ _ us hl => match us, hl with | [_, _], _ => rfl), xi_one fx.x_BadWindow D sci_BadWindow (by decide) (by decide) rfl rfl (fun _ => rfl)⟩
theorem sci_BadOffer : FnScope ["self", "number"] ["self", "number"] (defScope si_BadOffer) := ⟨rfl, rfl, rfl, by decide +kernel, rfl, by decide +kernel, by decide +kernel⟩
theorem xi_BadOffer (fx : Fx K mg) : XiOk P w K mg base "BadOffer" ["number"] := by
  obtain ⟨fd, D⟩ := fx.d_BadOffer
  exact ⟨fx.x_BadOffer, fx.i_BadOffer, fd, _, D.bindsN (ps := ["self", "number"]) (fun _ _ _ _ _ _ us hl => match us, hl with | [_, _], _ => rfl), xi_one fx.x_BadOffer D sci_BadOffer (by decide) (by decide) rfl rfl (fun _ => rfl)⟩
theorem sci_BadLog : FnScope ["self", "number"] ["self", "number"] (defScope si_BadLog) := ⟨rfl, rfl, rfl, by decide +kernel, rfl, by decide +kernel, by decide +kernel⟩
theorem xi_BadLog (fx : Fx K mg) : XiOk P w K mg base "BadLog" ["number"] := by
  obtain ⟨fd, D⟩ := fx.d_BadLog
  exact ⟨fx.x_BadLog, fx.i_BadLog, fd, _, D.bindsN (ps := ["self", "number"]) (fun _ _ _ _ _ _ us hl => match us, hl with | [_, _], _ => rfl), xi_one fx.x_BadLog D sci_BadLog (by decide) (by decide) rfl rfl (fun _ => rfl)⟩
theorem sci_NoAnswer : FnScope ["self", "number"] ["self", "number"] (defScope si_NoAnswer) := ⟨rfl, rfl, rfl, by decide +kernel, rfl, by decide +kernel, by decide +kernel⟩
theorem xi_NoAnswer (fx : Fx K mg) : XiOk P w K mg base "NoAnswer" ["number"] := by
  obtain ⟨fd, D⟩ := fx.d_NoAnswer
  exact ⟨fx.x_NoAnswer, fx.i_NoAnswer, fd, _, D.bindsN (ps := ["self", "number"]) (fun _ _ _ _ _ _ us hl => match us, hl with | [_, _], _ => rfl), xi_one fx.x_NoAnswer D sci_NoAnswer (by decide) (by decide) rfl rfl (fun _ => rfl)⟩
theorem sci_BadVector : FnScope ["self", "given"] ["self", "given"] (defScope si_BadVector) := ⟨rfl, rfl, rfl, by decide +kernel, rfl, by decide +kernel, by decide +kernel⟩
theorem xi_BadVector (fx : Fx K mg) : XiOk P w K mg base "BadVector" ["given"] := by
  obtain ⟨fd, D⟩ := fx.d_BadVector
  exact ⟨fx.x_BadVector, fx.i_BadVector, fd, _, D.bindsN (ps := ["self", "given"]) (fun _ _ _ _ _ _ us hl => match us, hl with | [_, _], _ => rfl), xi_one fx.x_BadVector D sci_BadVector (by decide) (by decide) rfl rfl (fun _ => rfl)⟩
theorem sci_BadBundle : FnScope ["self", "number"] ["self", "number"] (defScope si_BadBundle) := ⟨rfl, rfl, rfl, by decide +kernel, rfl, by decide +kernel, by decide +kernel⟩
theorem xi_BadBundle (fx : Fx K mg) : XiOk P w K mg base "BadBundle" ["number"] := by
  obtain ⟨fd, D⟩ := fx.d_BadBundle
  exact ⟨fx.x_BadBundle, fx.i_BadBundle, fd, _, D.bindsN (ps := ["self", "number"]) (fun _ _ _ _ _ _ us hl => match us, hl with | [_, _], _ => rfl), xi_one fx.x_BadBundle D sci_BadBundle (by decide) (by decide) rfl rfl (fun _ => rfl)⟩
theorem sci_Gap : FnScope ["self", "device"] ["self", "device"] (defScope si_Gap) := ⟨rfl, rfl, rfl, by decide +kernel, rfl, by decide +kernel, by decide +kernel⟩
theorem xi_Gap (fx : Fx K mg) : XiOk P w K mg base "Gap" ["device"] := by
  obtain ⟨fd, D⟩ := fx.d_Gap
  exact ⟨fx.x_Gap, fx.i_Gap, fd, _, D.bindsN (ps := ["self", "device"]) (fun _ _ _ _ _ _ us hl => match us, hl with | [_, _], _ => rfl), xi_one fx.x_Gap D sci_Gap (by decide) (by decide) rfl rfl (fun _ => rfl)⟩
theorem xig0 (fx : Fx K mg) : XiG P w K mg base "BadAddress" ["given"] ["given"] [0] := xig fx.x_BadAddress fx.i_BadAddress (by
  obtain ⟨fd, D⟩ := fx.d_BadAddress
  exact ⟨fd, D, xi_one fx.x_BadAddress D sci_BadAddress (by decide) (by decide) rfl rfl (fun _ => rfl)⟩) (fun _ _ _ _ _ _ self ws hw => match ws, hw with | [_], _ => ⟨rfl, rfl⟩)
theorem xig1 (fx : Fx K mg) : XiG P w K mg base "BadDate" ["given"] ["given"] [0] := xig fx.x_BadDate fx.i_BadDate (by
  obtain ⟨fd, D⟩ := fx.d_BadDate
  exact ⟨fd, D, xi_one fx.x_BadDate D sci_BadDate (by decide) (by decide) rfl rfl (fun _ => rfl)⟩) (fun _ _ _ _ _ _ self ws hw => match ws, hw with | [_], _ => ⟨rfl, rfl⟩)
theorem xig2 (fx : Fx K mg) : XiG P w K mg base "BadZone" ["given"] ["given"] [0] := xig fx.x_BadZone fx.i_BadZone (by
  obtain ⟨fd, D⟩ := fx.d_BadZone
  exact ⟨fd, D, xi_one fx.x_BadZone D sci_BadZone (by decide) (by decide) rfl rfl (fun _ => rfl)⟩) (fun _ _ _ _ _ _ self ws hw => match ws, hw with | [_], _ => ⟨rfl, rfl⟩)
theorem xig3 (fx : Fx K mg) : XiG P w K mg base "BadMoment" ["given"] ["given"] [0] := xig fx.x_BadMoment fx.i_BadMoment (by
  obtain ⟨fd, D⟩ := fx.d_BadMoment
  exact ⟨fd, D, xi_one fx.x_BadMoment D sci_BadMoment (by decide) (by decide) rfl rfl (fun _ => rfl)⟩) (fun _ _ _ _ _ _ self ws hw => match ws, hw with | [_], _ => ⟨rfl, rfl⟩)
theorem xig4 (fx : Fx K mg) : XiG P w K mg base "Taken" ["given"] ["given"] [0] := xig fx.x_Taken fx.i_Taken (by
  obtain ⟨fd, D⟩ := fx.d_Taken
  exact ⟨fd, D, xi_one fx.x_Taken D sci_Taken (by decide) (by decide) rfl rfl (fun _ => rfl)⟩) (fun _ _ _ _ _ _ self ws hw => match ws, hw with | [_], _ => ⟨rfl, rfl⟩)
theorem xig5 (fx : Fx K mg) : XiG P w K mg base "NoEntry" ["given"] ["given"] [0] := xig fx.x_NoEntry fx.i_NoEntry (by
  obtain ⟨fd, D⟩ := fx.d_NoEntry
  exact ⟨fd, D, xi_one fx.x_NoEntry D sci_NoEntry (by decide) (by decide) rfl rfl (fun _ => rfl)⟩) (fun _ _ _ _ _ _ self ws hw => match ws, hw with | [_], _ => ⟨rfl, rfl⟩)
theorem xig6 (fx : Fx K mg) : XiG P w K mg base "BadDevice" ["given"] ["given"] [0] := xig fx.x_BadDevice fx.i_BadDevice (by
  obtain ⟨fd, D⟩ := fx.d_BadDevice
  exact ⟨fd, D, xi_one fx.x_BadDevice D sci_BadDevice (by decide) (by decide) rfl rfl (fun _ => rfl)⟩) (fun _ _ _ _ _ _ self ws hw => match ws, hw with | [_], _ => ⟨rfl, rfl⟩)
theorem xig7 (fx : Fx K mg) : XiG P w K mg base "BadThing" ["given"] ["given"] [0] := xig fx.x_BadThing fx.i_BadThing (by
  obtain ⟨fd, D⟩ := fx.d_BadThing
  exact ⟨fd, D, xi_one fx.x_BadThing D sci_BadThing (by decide) (by decide) rfl rfl (fun _ => rfl)⟩) (fun _ _ _ _ _ _ self ws hw => match ws, hw with | [_], _ => ⟨rfl, rfl⟩)
theorem xig8 (fx : Fx K mg) : XiG P w K mg base "BadEntry" ["field"] ["field"] [0] := xig fx.x_BadEntry fx.i_BadEntry (by
  obtain ⟨fd, D⟩ := fx.d_BadEntry
  exact ⟨fd, D, xi_one fx.x_BadEntry D sci_BadEntry (by decide) (by decide) rfl rfl (fun _ => rfl)⟩) (fun _ _ _ _ _ _ self ws hw => match ws, hw with | [_], _ => ⟨rfl, rfl⟩)
theorem xig9 (fx : Fx K mg) : XiG P w K mg base "BadVector" ["given"] ["given"] [0] := xig fx.x_BadVector fx.i_BadVector (by
  obtain ⟨fd, D⟩ := fx.d_BadVector
  exact ⟨fd, D, xi_one fx.x_BadVector D sci_BadVector (by decide) (by decide) rfl rfl (fun _ => rfl)⟩) (fun _ _ _ _ _ _ self ws hw => match ws, hw with | [_], _ => ⟨rfl, rfl⟩)
theorem xig10 (fx : Fx K mg) : XiG P w K mg base "BadFolder" ["given"] ["given"] [0] := xig fx.x_BadFolder fx.i_BadFolder (by
  obtain ⟨fd, D⟩ := fx.d_BadFolder
  exact ⟨fd, D, xi_one fx.x_BadFolder D sci_BadFolder (by decide) (by decide) rfl rfl (fun _ => rfl)⟩) (fun _ _ _ _ _ _ self ws hw => match ws, hw with | [_], _ => ⟨rfl, rfl⟩)
theorem xig11 (fx : Fx K mg) : XiG P w K mg base "NoItem" ["given"] ["given"] [0] := xig fx.x_NoItem fx.i_NoItem (by
  obtain ⟨fd, D⟩ := fx.d_NoItem
  exact ⟨fd, D, xi_one fx.x_NoItem D sci_NoItem (by decide) (by decide) rfl rfl (fun _ => rfl)⟩) (fun _ _ _ _ _ _ self ws hw => match ws, hw with | [_], _ => ⟨rfl, rfl⟩)
theorem xig12 (fx : Fx K mg) : XiG P w K mg base "BadShelf" ["number"] ["number"] [0] := xig fx.x_BadShelf fx.i_BadShelf (by
  obtain ⟨fd, D⟩ := fx.d_BadShelf
  exact ⟨fd, D, xi_one fx.x_BadShelf D sci_BadShelf (by decide) (by decide) rfl rfl (fun _ => rfl)⟩) (fun _ _ _ _ _ _ self ws hw => match ws, hw with | [_], _ => ⟨rfl, rfl⟩)
theorem xig13 (fx : Fx K mg) : XiG P w K mg base "BadTrouble" ["number"] ["number"] [0] := xig fx.x_BadTrouble fx.i_BadTrouble (by
  obtain ⟨fd, D⟩ := fx.d_BadTrouble
  exact ⟨fd, D, xi_one fx.x_BadTrouble D sci_BadTrouble (by decide) (by decide) rfl rfl (fun _ => rfl)⟩) (fun _ _ _ _ _ _ self ws hw => match ws, hw with | [_], _ => ⟨rfl, rfl⟩)
theorem xig14 (fx : Fx K mg) : XiG P w K mg base "BadWorld" ["number"] ["number"] [0] := xig fx.x_BadWorld fx.i_BadWorld (by
  obtain ⟨fd, D⟩ := fx.d_BadWorld
  exact ⟨fd, D, xi_one fx.x_BadWorld D sci_BadWorld (by decide) (by decide) rfl rfl (fun _ => rfl)⟩) (fun _ _ _ _ _ _ self ws hw => match ws, hw with | [_], _ => ⟨rfl, rfl⟩)
theorem xig15 (fx : Fx K mg) : XiG P w K mg base "BadNumber" ["field"] ["field"] [0] := xig fx.x_BadNumber fx.i_BadNumber (by
  obtain ⟨fd, D⟩ := fx.d_BadNumber
  exact ⟨fd, D, xi_one fx.x_BadNumber D sci_BadNumber (by decide) (by decide) rfl rfl (fun _ => rfl)⟩) (fun _ _ _ _ _ _ self ws hw => match ws, hw with | [_], _ => ⟨rfl, rfl⟩)
theorem xig16 (fx : Fx K mg) : XiG P w K mg base "BadOffer" ["number"] ["number"] [0] := xig fx.x_BadOffer fx.i_BadOffer (by
  obtain ⟨fd, D⟩ := fx.d_BadOffer
  exact ⟨fd, D, xi_one fx.x_BadOffer D sci_BadOffer (by decide) (by decide) rfl rfl (fun _ => rfl)⟩) (fun _ _ _ _ _ _ self ws hw => match ws, hw with | [_], _ => ⟨rfl, rfl⟩)
theorem xig17 (fx : Fx K mg) : XiG P w K mg base "BadWindow" ["number"] ["number"] [0] := xig fx.x_BadWindow fx.i_BadWindow (by
  obtain ⟨fd, D⟩ := fx.d_BadWindow
  exact ⟨fd, D, xi_one fx.x_BadWindow D sci_BadWindow (by decide) (by decide) rfl rfl (fun _ => rfl)⟩) (fun _ _ _ _ _ _ self ws hw => match ws, hw with | [_], _ => ⟨rfl, rfl⟩)
theorem xig18 (fx : Fx K mg) : XiG P w K mg base "BadLibrary" ["number"] ["number"] [0] := xig fx.x_BadLibrary fx.i_BadLibrary (by
  obtain ⟨fd, D⟩ := fx.d_BadLibrary
  exact ⟨fd, D, xi_one fx.x_BadLibrary D sci_BadLibrary (by decide) (by decide) rfl rfl (fun _ => rfl)⟩) (fun _ _ _ _ _ _ self ws hw => match ws, hw with | [_], _ => ⟨rfl, rfl⟩)
theorem xig19 (fx : Fx K mg) : XiG P w K mg base "NoSighting" ["number"] ["number"] [0] := xig fx.x_NoSighting fx.i_NoSighting (by
  obtain ⟨fd, D⟩ := fx.d_NoSighting
  exact ⟨fd, D, xi_one fx.x_NoSighting D sci_NoSighting (by decide) (by decide) rfl rfl (fun _ => rfl)⟩) (fun _ _ _ _ _ _ self ws hw => match ws, hw with | [_], _ => ⟨rfl, rfl⟩)
theorem xig20 (fx : Fx K mg) : XiG P w K mg base "TooMany" ["what"] ["what"] [0] := xig fx.x_TooMany fx.i_TooMany (by
  obtain ⟨fd, D⟩ := fx.d_TooMany
  exact ⟨fd, D, xi_one fx.x_TooMany D sci_TooMany (by decide) (by decide) rfl rfl (fun _ => rfl)⟩) (fun _ _ _ _ _ _ self ws hw => match ws, hw with | [_], _ => ⟨rfl, rfl⟩)
theorem xig21 (fx : Fx K mg) : XiG P w K mg base "BadBundle" ["number"] ["number"] [0] := xig fx.x_BadBundle fx.i_BadBundle (by
  obtain ⟨fd, D⟩ := fx.d_BadBundle
  exact ⟨fd, D, xi_one fx.x_BadBundle D sci_BadBundle (by decide) (by decide) rfl rfl (fun _ => rfl)⟩) (fun _ _ _ _ _ _ self ws hw => match ws, hw with | [_], _ => ⟨rfl, rfl⟩)
theorem xig22 (fx : Fx K mg) : XiG P w K mg base "NoAnswer" ["number"] ["number"] [0] := xig fx.x_NoAnswer fx.i_NoAnswer (by
  obtain ⟨fd, D⟩ := fx.d_NoAnswer
  exact ⟨fd, D, xi_one fx.x_NoAnswer D sci_NoAnswer (by decide) (by decide) rfl rfl (fun _ => rfl)⟩) (fun _ _ _ _ _ _ self ws hw => match ws, hw with | [_], _ => ⟨rfl, rfl⟩)
theorem xig23 (fx : Fx K mg) : XiG P w K mg base "BadLog" ["number"] ["number"] [0] := xig fx.x_BadLog fx.i_BadLog (by
  obtain ⟨fd, D⟩ := fx.d_BadLog
  exact ⟨fd, D, xi_one fx.x_BadLog D sci_BadLog (by decide) (by decide) rfl rfl (fun _ => rfl)⟩) (fun _ _ _ _ _ _ self ws hw => match ws, hw with | [_], _ => ⟨rfl, rfl⟩)
theorem xig24 (fx : Fx K mg) : XiG P w K mg base "Gap" ["device"] ["device"] [0] := xig fx.x_Gap fx.i_Gap (by
  obtain ⟨fd, D⟩ := fx.d_Gap
  exact ⟨fd, D, xi_one fx.x_Gap D sci_Gap (by decide) (by decide) rfl rfl (fun _ => rfl)⟩) (fun _ _ _ _ _ _ self ws hw => match ws, hw with | [_], _ => ⟨rfl, rfl⟩)
theorem xig25 (fx : Fx K mg) : XiG P w K mg base "BadQuery" ["path"] ["path"] [0] := xig fx.x_BadQuery fx.i_BadQuery (by
  obtain ⟨fd, D⟩ := fx.d_BadQuery
  exact ⟨fd, D, xi_one fx.x_BadQuery D sci_BadQuery (by decide) (by decide) rfl rfl (fun _ => rfl)⟩) (fun _ _ _ _ _ _ self ws hw => match ws, hw with | [_], _ => ⟨rfl, rfl⟩)
theorem xig26 (fx : Fx K mg) : XiG P w K mg base "NoNote" ["stamp"] ["stamp"] [0] := xig fx.x_NoNote fx.i_NoNote (by
  obtain ⟨fd, D⟩ := fx.d_NoNote
  exact ⟨fd, D, xi_one fx.x_NoNote D sci_NoNote (by decide) (by decide) rfl rfl (fun _ => rfl)⟩) (fun _ _ _ _ _ _ self ws hw => match ws, hw with | [_], _ => ⟨rfl, rfl⟩)
theorem xig27 (fx : Fx K mg) : XiG P w K mg base "Torn" ["stamp"] ["stamp"] [0] := xig fx.x_Torn fx.i_Torn (by
  obtain ⟨fd, D⟩ := fx.d_Torn
  exact ⟨fd, D, xi_one fx.x_Torn D sci_Torn (by decide) (by decide) rfl rfl (fun _ => rfl)⟩) (fun _ _ _ _ _ _ self ws hw => match ws, hw with | [_], _ => ⟨rfl, rfl⟩)
theorem xig28 (fx : Fx K mg) : XiG P w K mg base "BadText" ["line", "column"] ["column", "line"] [1, 0] := xig fx.x_BadText fx.i_BadText (by
  obtain ⟨fd, D⟩ := fx.d_BadText
  exact ⟨fd, D, xi_two fx.x_BadText D sci_BadText (by decide) (by decide) (by decide) (by decide) rfl rfl rfl (fun _ => rfl) (fun _ => rfl)⟩) (fun _ _ _ _ _ _ self ws hw => match ws, hw with | [_, _], _ => ⟨rfl, rfl⟩)
theorem xig29 (fx : Fx K mg) : XiG P w K mg base "BadPage" ["field", "number"] ["number", "field"] [1, 0] := xig fx.x_BadPage fx.i_BadPage (by
  obtain ⟨fd, D⟩ := fx.d_BadPage
  exact ⟨fd, D, xi_two fx.x_BadPage D sci_BadPage (by decide) (by decide) (by decide) (by decide) rfl rfl rfl (fun _ => rfl) (fun _ => rfl)⟩) (fun _ _ _ _ _ _ self ws hw => match ws, hw with | [_, _], _ => ⟨rfl, rfl⟩)
theorem sc__law_begin : FnScope ["script"] ["script"] (defScope s__law_begin) := ⟨rfl, rfl, rfl, by decide +kernel, rfl, by decide +kernel, by decide +kernel⟩
theorem fn__law_begin (fx : Fx K mg) : ∃ fd, FunD K "_law_begin" "_law_begin" (defArgs s__law_begin) (defBody s__law_begin) (defScope s__law_begin) [] [] (He.ga K "_law_begin") fd ∧ FnG P w K mg base 1 (He.ga K "_law_begin") fd ["script"] (spOf K [false] fsp__law_begin) := by
  refine fnf (k := 0) (n := 1) (ms := [false]) (p := p__law_begin) fx.d__law_begin sc__law_begin rfl (by decide) rfl fun cdv A fr s H E c => ?_
  exact (ss_one (s_ret (q_disp (p_cons q_str (q_add c (q_var c 0) (q_lst (a_cons q_int a_nil))) (p_cons q_str q_int (p_cons q_str q_int (p_cons q_str q_int p_nil)))))))
theorem ok__law_begin (fx : Fx K mg) : OkF P w K mg base 1 (He.ga K "_law_begin") ["script"] [false] [] fsp__law_begin := okf_of fspN_len (fn__law_begin fx) fun _ _ _ _ _ _ us hl => match us, hl with | [_], _ => rfl
theorem sc__law_mixed : FnScope ["cell", "k", "mixed"] ["cell", "k"] (defScope s__law_mixed) := ⟨rfl, rfl, rfl, by decide +kernel, rfl, by decide +kernel, by decide +kernel⟩
theorem fn__law_mixed (fx : Fx K mg) : ∃ fd, FunD K "_law_mixed" "_law_mixed" (defArgs s__law_mixed) (defBody s__law_mixed) (defScope s__law_mixed) [] [] (He.ga K "_law_mixed") fd ∧ FnG P w K mg base 1 (He.ga K "_law_mixed") fd ["cell", "k"] (spOf K [false, false] fsp__law_mixed) := by
  refine fnf (k := 0) (n := 3) (ms := [false, false]) (p := p__law_mixed) fx.d__law_mixed sc__law_mixed rfl (by decide) rfl fun cdv A fr s H E c => ?_
  exact (ss_cons (s_set c 2 (q_mod c (qb_int c fx.n_int (a_cons (q_add c (q_add c (q_add c (q_mod c (qb_int c fx.n_int (a_cons (q_var c 0) a_nil)) q_int) (q_mul c (q_mul c q_int (q_var c 1)) (q_var c 1))) (q_mul c q_int (q_var c 1))) q_int) a_nil)) q_int))
  (ss_cons (s_set c 2 (q_mod c (qb_int c fx.n_int (a_cons (q_mul c (q_mod c (qb_int c fx.n_int (a_cons (q_mul c (q_var c 2) (q_var c 2)) a_nil)) q_int) (q_var c 2)) a_nil)) q_int))
  (ss_one (s_ret (q_fdiv c (q_mod c (qb_int c fx.n_int (a_cons (q_mul c (q_var c 2) (q_add c q_int (q_mul c q_int (q_mod c (qb_int c fx.n_int (a_cons (q_var c 1) a_nil)) q_int)))) a_nil)) q_int) q_int)))))
theorem ok__law_mixed (fx : Fx K mg) : OkF P w K mg base 1 (He.ga K "_law_mixed") ["cell", "k"] [false, false] [] fsp__law_mixed := okf_of fspN_len (fn__law_mixed fx) fun _ _ _ _ _ _ us hl => match us, hl with | [_, _], _ => rfl
theorem sc__law_next : FnScope ["draw", "bound", "found", "every", "cell"] ["draw", "bound"] (defScope s__law_next) := ⟨rfl, rfl, rfl, by decide +kernel, rfl, by decide +kernel, by decide +kernel⟩
theorem fn__law_next (fx : Fx K mg) : ∃ fd, FunD K "_law_next" "_law_next" (defArgs s__law_next) (defBody s__law_next) (defScope s__law_next) [] [] (He.ga K "_law_next") fd ∧ FnG P w K mg base 2 (He.ga K "_law_next") fd ["draw", "bound"] (spOf K [true, false] fsp__law_next) := by
  refine fnf (k := 1) (n := 5) (ms := [true, false]) (p := p__law_next) fx.d__law_next sc__law_next rfl (by decide) rfl fun cdv A fr s H E c => ?_
  exact (ss_cons (s_if (t_gt c (q_ix c (q_var c 0) q_str) q_int) (ss_cons (s_set c 2 (q_mod c (qb_int c fx.n_int (a_cons (q_ix c (q_var c 0) q_str) a_nil)) (q_var c 1)))
  (ss_cons (s_setIx c (q_fdiv c (q_ix c (q_var c 0) q_str) (q_var c 1)) (q_var c 0) q_str)
  (ss_one (s_retM (q_var c 2))))) ss_nil)
  (ss_cons (s_set c 3 (q_ix c (q_var c 0) q_str))
  (ss_cons (s_set c 4 (q_ix c (q_var c 3) (q_mod c (qb_int c fx.n_int (a_cons (q_ix c (q_var c 0) q_str) a_nil)) (qb_len c fx.n_len (a_cons (q_var c 3) a_nil)))))
  (ss_cons (s_setIx c (q_add c (q_ix c (q_var c 0) q_str) q_int) (q_var c 0) q_str)
  (ss_cons (s_if (t_w (w_and (t_ge c (q_var c 4) (q_pow c q_int q_int)) (w_and1 (t_le c (q_ix c (q_var c 0) q_str) (qb_len c fx.n_len (a_cons (q_var c 3) a_nil)))))) (ss_cons (s_setIx c (q_fdiv c (q_var c 4) (q_var c 1)) (q_var c 0) q_str)
  (ss_one (s_ret (q_mod c (qb_int c fx.n_int (a_cons (q_var c 4) a_nil)) (q_var c 1))))) ss_nil)
  (ss_cons (s_setIx c (q_add c (q_ix c (q_var c 0) q_str) q_int) (q_var c 0) q_str)
  (ss_one (s_ret (q_mod c (qb_int c fx.n_int (a_cons (q_call c (ok__law_mixed fx) (by decide) fx.g__law_mixed (a_cons (q_call c (ok__law_mixed fx) (by decide) fx.g__law_mixed (a_cons (q_var c 4) (a_cons (q_ix c (q_var c 0) q_str) a_nil))) (a_cons (q_ix c (q_var c 0) q_str) a_nil))) a_nil)) (q_var c 1))))))))))
theorem ok__law_next (fx : Fx K mg) : OkF P w K mg base 2 (He.ga K "_law_next") ["draw", "bound"] [true, false] [] fsp__law_next := okf_of fspN_len (fn__law_next fx) fun _ _ _ _ _ _ us hl => match us, hl with | [_, _], _ => rfl
theorem sc__law_made : FnScope ["worth", "more", "made"] ["worth", "more"] (defScope s__law_made) := ⟨rfl, rfl, rfl, by decide +kernel, rfl, by decide +kernel, by decide +kernel⟩
theorem fn__law_made (fx : Fx K mg) : ∃ fd, FunD K "_law_made" "_law_made" (defArgs s__law_made) (defBody s__law_made) (defScope s__law_made) [] [] (He.ga K "_law_made") fd ∧ FnG P w K mg base 3 (He.ga K "_law_made") fd ["worth", "more"] (spOf K [false, false] fsp__law_made) := by
  refine fnf (k := 2) (n := 3) (ms := [false, false]) (p := p__law_made) fx.d__law_made sc__law_made rfl (by decide) rfl fun cdv A fr s H E c => ?_
  exact (ss_cons (s_set c 2 (q_lst (a_cons (q_mkX c (xi_BadMoment fx) (by decide) fx.g_BadMoment (a_cons (q_var c 0) a_nil)) (a_cons (q_mkX c (xi_BadZone fx) (by decide) fx.g_BadZone (a_cons (q_var c 0) a_nil)) (a_cons (q_mkX c (xi_BadDate fx) (by decide) fx.g_BadDate (a_cons (q_var c 0) a_nil)) (a_cons (q_mkX c (xi_BadAddress fx) (by decide) fx.g_BadAddress (a_cons (q_var c 0) a_nil)) (a_cons (q_mkX c (xi_BadThing fx) (by decide) fx.g_BadThing (a_cons (q_var c 0) a_nil)) (a_cons (q_mkX c (xi_BadDevice fx) (by decide) fx.g_BadDevice (a_cons (q_var c 0) a_nil)) a_nil))))))))
  (ss_cons (s_set c 2 (q_add c (q_var c 2) (q_lst (a_cons (q_mkX c (xi_NoEntry fx) (by decide) fx.g_NoEntry (a_cons (q_var c 0) a_nil)) (a_cons (q_mkX c (xi_Taken fx) (by decide) fx.g_Taken (a_cons (q_var c 0) a_nil)) (a_cons (q_mkX c (xi_NoItem fx) (by decide) fx.g_NoItem (a_cons (q_var c 0) a_nil)) (a_cons (q_mkX c (xi_BadFolder fx) (by decide) fx.g_BadFolder (a_cons (q_var c 0) a_nil)) (a_cons (q_mkX c (xi_BadVector fx) (by decide) fx.g_BadVector (a_cons (q_var c 0) a_nil)) (a_cons (q_mkX c (xi_BadEntry fx) (by decide) fx.g_BadEntry (a_cons (q_var c 0) a_nil)) a_nil)))))))))
  (ss_cons (s_set c 2 (q_add c (q_var c 2) (q_lst (a_cons (q_mkX c (xi_BadNumber fx) (by decide) fx.g_BadNumber (a_cons (q_var c 0) a_nil)) (a_cons (q_mkX c (xi_BadWorld fx) (by decide) fx.g_BadWorld (a_cons (q_var c 0) a_nil)) (a_cons (q_mkX c (xi_BadTrouble fx) (by decide) fx.g_BadTrouble (a_cons (q_var c 0) a_nil)) (a_cons (q_mkX c (xi_BadShelf fx) (by decide) fx.g_BadShelf (a_cons (q_var c 0) a_nil)) (a_cons (q_mkX c (xi_NoSighting fx) (by decide) fx.g_NoSighting (a_cons (q_var c 0) a_nil)) a_nil))))))))
  (ss_cons (s_set c 2 (q_add c (q_var c 2) (q_lst (a_cons (q_mkX c (xi_BadLibrary fx) (by decide) fx.g_BadLibrary (a_cons (q_var c 0) a_nil)) (a_cons (q_mkX c (xi_BadWindow fx) (by decide) fx.g_BadWindow (a_cons (q_var c 0) a_nil)) (a_cons (q_mkX c (xi_BadOffer fx) (by decide) fx.g_BadOffer (a_cons (q_var c 0) a_nil)) (a_cons (q_mkX c (xi_BadLog fx) (by decide) fx.g_BadLog (a_cons (q_var c 0) a_nil)) (a_cons (q_mkX c (xi_NoAnswer fx) (by decide) fx.g_NoAnswer (a_cons (q_var c 0) a_nil)) a_nil))))))))
  (ss_cons (s_set c 2 (q_add c (q_var c 2) (q_lst (a_cons (q_mkX c (xi_BadBundle fx) (by decide) fx.g_BadBundle (a_cons (q_var c 0) a_nil)) a_nil))))
  (ss_cons (s_set c 2 (q_add c (q_var c 2) (q_lst (a_cons (q_mkX c (xi_TooMany fx) (by decide) fx.g_TooMany (a_cons (q_var c 0) a_nil)) (a_cons (q_mkX c (xi_Torn fx) (by decide) fx.g_Torn (a_cons (q_var c 0) a_nil)) (a_cons (q_mkX c (xi_NoNote fx) (by decide) fx.g_NoNote (a_cons (q_var c 0) a_nil)) (a_cons (q_mkX c (xi_BadQuery fx) (by decide) fx.g_BadQuery (a_cons (q_var c 0) a_nil)) (a_cons (q_mkX c (xi_Gap fx) (by decide) fx.g_Gap (a_cons (q_var c 0) a_nil)) a_nil))))))))
  (ss_one (s_ret (q_add c (q_var c 2) (q_lst (a_cons (q_mkX c (xi_BadPage fx) (by decide) fx.g_BadPage (a_cons (q_var c 0) (a_cons (q_var c 1) a_nil))) (a_cons (q_mkX c (xi_BadText fx) (by decide) fx.g_BadText (a_cons (q_var c 0) (a_cons (q_var c 1) a_nil))) a_nil))))))))))))
theorem ok__law_made (fx : Fx K mg) : OkF P w K mg base 3 (He.ga K "_law_made") ["worth", "more"] [false, false] [] fsp__law_made := okf_of fspN_len (fn__law_made fx) fun _ _ _ _ _ _ us hl => match us, hl with | [_, _], _ => rfl
theorem sc__law_named : FnScope ["worth", "more", "made"] ["worth", "more"] (defScope s__law_named) := ⟨rfl, rfl, rfl, by decide +kernel, rfl, by decide +kernel, by decide +kernel⟩
theorem fn__law_named (fx : Fx K mg) : ∃ fd, FunD K "_law_named" "_law_named" (defArgs s__law_named) (defBody s__law_named) (defScope s__law_named) [] [] (He.ga K "_law_named") fd ∧ FnG P w K mg base 3 (He.ga K "_law_named") fd ["worth", "more"] (spOf K [false, false] fsp__law_named) := by
  refine fnf (k := 2) (n := 3) (ms := [false, false]) (p := p__law_named) fx.d__law_named sc__law_named rfl (by decide) rfl fun cdv A fr s H E c => ?_
  exact (ss_cons (s_set c 2 (q_lst (a_cons (q_mkXk c (xig3 fx) (by decide) fx.g_BadMoment (k_cons (q_var c 0) k_nil)) (a_cons (q_mkXk c (xig2 fx) (by decide) fx.g_BadZone (k_cons (q_var c 0) k_nil)) (a_cons (q_mkXk c (xig1 fx) (by decide) fx.g_BadDate (k_cons (q_var c 0) k_nil)) (a_cons (q_mkXk c (xig0 fx) (by decide) fx.g_BadAddress (k_cons (q_var c 0) k_nil)) a_nil))))))
  (ss_cons (s_set c 2 (q_add c (q_var c 2) (q_lst (a_cons (q_mkXk c (xig7 fx) (by decide) fx.g_BadThing (k_cons (q_var c 0) k_nil)) (a_cons (q_mkXk c (xig6 fx) (by decide) fx.g_BadDevice (k_cons (q_var c 0) k_nil)) (a_cons (q_mkXk c (xig5 fx) (by decide) fx.g_NoEntry (k_cons (q_var c 0) k_nil)) (a_cons (q_mkXk c (xig4 fx) (by decide) fx.g_Taken (k_cons (q_var c 0) k_nil)) a_nil)))))))
  (ss_cons (s_set c 2 (q_add c (q_var c 2) (q_lst (a_cons (q_mkXk c (xig11 fx) (by decide) fx.g_NoItem (k_cons (q_var c 0) k_nil)) (a_cons (q_mkXk c (xig10 fx) (by decide) fx.g_BadFolder (k_cons (q_var c 0) k_nil)) (a_cons (q_mkXk c (xig9 fx) (by decide) fx.g_BadVector (k_cons (q_var c 0) k_nil)) (a_cons (q_mkXk c (xig8 fx) (by decide) fx.g_BadEntry (k_cons (q_var c 0) k_nil)) a_nil)))))))
  (ss_cons (s_set c 2 (q_add c (q_var c 2) (q_lst (a_cons (q_mkXk c (xig15 fx) (by decide) fx.g_BadNumber (k_cons (q_var c 0) k_nil)) (a_cons (q_mkXk c (xig14 fx) (by decide) fx.g_BadWorld (k_cons (q_var c 0) k_nil)) (a_cons (q_mkXk c (xig13 fx) (by decide) fx.g_BadTrouble (k_cons (q_var c 0) k_nil)) (a_cons (q_mkXk c (xig12 fx) (by decide) fx.g_BadShelf (k_cons (q_var c 0) k_nil)) a_nil)))))))
  (ss_cons (s_set c 2 (q_add c (q_var c 2) (q_lst (a_cons (q_mkXk c (xig19 fx) (by decide) fx.g_NoSighting (k_cons (q_var c 0) k_nil)) (a_cons (q_mkXk c (xig18 fx) (by decide) fx.g_BadLibrary (k_cons (q_var c 0) k_nil)) (a_cons (q_mkXk c (xig17 fx) (by decide) fx.g_BadWindow (k_cons (q_var c 0) k_nil)) (a_cons (q_mkXk c (xig16 fx) (by decide) fx.g_BadOffer (k_cons (q_var c 0) k_nil)) a_nil)))))))
  (ss_cons (s_set c 2 (q_add c (q_var c 2) (q_lst (a_cons (q_mkXk c (xig23 fx) (by decide) fx.g_BadLog (k_cons (q_var c 0) k_nil)) (a_cons (q_mkXk c (xig22 fx) (by decide) fx.g_NoAnswer (k_cons (q_var c 0) k_nil)) (a_cons (q_mkXk c (xig21 fx) (by decide) fx.g_BadBundle (k_cons (q_var c 0) k_nil)) (a_cons (q_mkXk c (xig20 fx) (by decide) fx.g_TooMany (k_cons (q_var c 0) k_nil)) a_nil)))))))
  (ss_cons (s_set c 2 (q_add c (q_var c 2) (q_lst (a_cons (q_mkXk c (xig27 fx) (by decide) fx.g_Torn (k_cons (q_var c 0) k_nil)) (a_cons (q_mkXk c (xig26 fx) (by decide) fx.g_NoNote (k_cons (q_var c 0) k_nil)) (a_cons (q_mkXk c (xig25 fx) (by decide) fx.g_BadQuery (k_cons (q_var c 0) k_nil)) (a_cons (q_mkXk c (xig24 fx) (by decide) fx.g_Gap (k_cons (q_var c 0) k_nil)) a_nil)))))))
  (ss_one (s_ret (q_add c (q_var c 2) (q_lst (a_cons (q_mkXk c (xig29 fx) (by decide) fx.g_BadPage (k_cons (q_var c 1) (k_cons (q_var c 0) k_nil))) (a_cons (q_mkXk c (xig28 fx) (by decide) fx.g_BadText (k_cons (q_var c 1) (k_cons (q_var c 0) k_nil))) a_nil)))))))))))))
theorem ok__law_named (fx : Fx K mg) : OkF P w K mg base 3 (He.ga K "_law_named") ["worth", "more"] [false, false] [] fsp__law_named := okf_of fspN_len (fn__law_named fx) fun _ _ _ _ _ _ us hl => match us, hl with | [_, _], _ => rfl
theorem sc__law_kinds : FnScope ["e", "told"] ["e"] (defScope s__law_kinds) := ⟨rfl, rfl, rfl, by decide +kernel, rfl, by decide +kernel, by decide +kernel⟩
theorem fn__law_kinds (fx : Fx K mg) : ∃ fd, FunD K "_law_kinds" "_law_kinds" (defArgs s__law_kinds) (defBody s__law_kinds) (defScope s__law_kinds) [] [] (He.ga K "_law_kinds") fd ∧ FnG P w K mg base 1 (He.ga K "_law_kinds") fd ["e"] (spOf K [false] fsp__law_kinds) := by
  refine fnf (k := 0) (n := 2) (ms := [false]) (p := p__law_kinds) fx.d__law_kinds sc__law_kinds rfl (by decide) rfl fun cdv A fr s H E c => ?_
  exact (ss_cons (s_set c 1 (q_lst (a_cons (qb_isC istab fx.ist c fx.n_isinstance (a_cons (q_var c 0) (a_cons (q_gglo c fx.g_BadMoment) a_nil))) (a_cons (qb_isC istab fx.ist c fx.n_isinstance (a_cons (q_var c 0) (a_cons (q_gglo c fx.g_BadZone) a_nil))) (a_cons (qb_isC istab fx.ist c fx.n_isinstance (a_cons (q_var c 0) (a_cons (q_gglo c fx.g_BadDate) a_nil))) (a_cons (qb_isC istab fx.ist c fx.n_isinstance (a_cons (q_var c 0) (a_cons (q_gglo c fx.g_BadAddress) a_nil))) a_nil))))))
  (ss_cons (s_set c 1 (q_add c (q_var c 1) (q_lst (a_cons (qb_isC istab fx.ist c fx.n_isinstance (a_cons (q_var c 0) (a_cons (q_gglo c fx.g_BadThing) a_nil))) (a_cons (qb_isC istab fx.ist c fx.n_isinstance (a_cons (q_var c 0) (a_cons (q_gglo c fx.g_BadDevice) a_nil))) (a_cons (qb_isC istab fx.ist c fx.n_isinstance (a_cons (q_var c 0) (a_cons (q_gglo c fx.g_NoEntry) a_nil))) (a_cons (qb_isC istab fx.ist c fx.n_isinstance (a_cons (q_var c 0) (a_cons (q_gglo c fx.g_Taken) a_nil))) a_nil)))))))
  (ss_cons (s_set c 1 (q_add c (q_var c 1) (q_lst (a_cons (qb_isC istab fx.ist c fx.n_isinstance (a_cons (q_var c 0) (a_cons (q_gglo c fx.g_NoItem) a_nil))) (a_cons (qb_isC istab fx.ist c fx.n_isinstance (a_cons (q_var c 0) (a_cons (q_gglo c fx.g_BadFolder) a_nil))) (a_cons (qb_isC istab fx.ist c fx.n_isinstance (a_cons (q_var c 0) (a_cons (q_gglo c fx.g_BadVector) a_nil))) (a_cons (qb_isC istab fx.ist c fx.n_isinstance (a_cons (q_var c 0) (a_cons (q_gglo c fx.g_BadEntry) a_nil))) a_nil)))))))
  (ss_cons (s_set c 1 (q_add c (q_var c 1) (q_lst (a_cons (qb_isC istab fx.ist c fx.n_isinstance (a_cons (q_var c 0) (a_cons (q_gglo c fx.g_BadNumber) a_nil))) (a_cons (qb_isC istab fx.ist c fx.n_isinstance (a_cons (q_var c 0) (a_cons (q_gglo c fx.g_BadWorld) a_nil))) (a_cons (qb_isC istab fx.ist c fx.n_isinstance (a_cons (q_var c 0) (a_cons (q_gglo c fx.g_BadTrouble) a_nil))) a_nil))))))
  (ss_cons (s_set c 1 (q_add c (q_var c 1) (q_lst (a_cons (qb_isC istab fx.ist c fx.n_isinstance (a_cons (q_var c 0) (a_cons (q_gglo c fx.g_BadShelf) a_nil))) (a_cons (qb_isC istab fx.ist c fx.n_isinstance (a_cons (q_var c 0) (a_cons (q_gglo c fx.g_NoSighting) a_nil))) (a_cons (qb_isC istab fx.ist c fx.n_isinstance (a_cons (q_var c 0) (a_cons (q_gglo c fx.g_BadLibrary) a_nil))) a_nil))))))
  (ss_cons (s_set c 1 (q_add c (q_var c 1) (q_lst (a_cons (qb_isC istab fx.ist c fx.n_isinstance (a_cons (q_var c 0) (a_cons (q_gglo c fx.g_BadWindow) a_nil))) (a_cons (qb_isC istab fx.ist c fx.n_isinstance (a_cons (q_var c 0) (a_cons (q_gglo c fx.g_BadOffer) a_nil))) (a_cons (qb_isC istab fx.ist c fx.n_isinstance (a_cons (q_var c 0) (a_cons (q_gglo c fx.g_BadLog) a_nil))) (a_cons (qb_isC istab fx.ist c fx.n_isinstance (a_cons (q_var c 0) (a_cons (q_gglo c fx.g_NoAnswer) a_nil))) a_nil)))))))
  (ss_cons (s_set c 1 (q_add c (q_var c 1) (q_lst (a_cons (qb_isC istab fx.ist c fx.n_isinstance (a_cons (q_var c 0) (a_cons (q_gglo c fx.g_BadBundle) a_nil))) (a_cons (qb_isC istab fx.ist c fx.n_isinstance (a_cons (q_var c 0) (a_cons (q_gglo c fx.g_TooMany) a_nil))) (a_cons (qb_isC istab fx.ist c fx.n_isinstance (a_cons (q_var c 0) (a_cons (q_gglo c fx.g_Torn) a_nil))) (a_cons (qb_isC istab fx.ist c fx.n_isinstance (a_cons (q_var c 0) (a_cons (q_gglo c fx.g_NoNote) a_nil))) a_nil)))))))
  (ss_one (s_ret (q_add c (q_var c 1) (q_lst (a_cons (qb_isC istab fx.ist c fx.n_isinstance (a_cons (q_var c 0) (a_cons (q_gglo c fx.g_BadQuery) a_nil))) (a_cons (qb_isC istab fx.ist c fx.n_isinstance (a_cons (q_var c 0) (a_cons (q_gglo c fx.g_Gap) a_nil))) (a_cons (qb_isC istab fx.ist c fx.n_isinstance (a_cons (q_var c 0) (a_cons (q_gglo c fx.g_BadPage) a_nil))) (a_cons (qb_isC istab fx.ist c fx.n_isinstance (a_cons (q_var c 0) (a_cons (q_gglo c fx.g_BadText) a_nil))) a_nil)))))))))))))))
theorem ok__law_kinds (fx : Fx K mg) : OkF P w K mg base 1 (He.ga K "_law_kinds") ["e"] [false] [] fsp__law_kinds := okf_of fspN_len (fn__law_kinds fx) fun _ _ _ _ _ _ us hl => match us, hl with | [_], _ => rfl
theorem sc__law_families_right : FnScope ["made", "at", "e", "k"] ["made"] (defScope s__law_families_right) := ⟨rfl, rfl, rfl, by decide +kernel, rfl, by decide +kernel, by decide +kernel⟩
theorem fn__law_families_right (fx : Fx K mg) : ∃ fd, FunD K "_law_families_right" "_law_families_right" (defArgs s__law_families_right) (defBody s__law_families_right) (defScope s__law_families_right) [] [] (He.ga K "_law_families_right") fd ∧ FnG P w K mg base 2 (He.ga K "_law_families_right") fd ["made"] (spOf K [false] fsp__law_families_right) := by
  refine fnf (k := 1) (n := 4) (ms := [false]) (p := p__law_families_right) fx.d__law_families_right sc__law_families_right rfl (by decide) rfl fun cdv A fr s H E c => ?_
  exact (ss_cons (s_for c (i_enum1 c fx.n_enumerate (a_cons (q_var c 0) a_nil)) (g_tup c 2 (gs_cons (g_name c 1) (gs_cons (g_name c 2) gs_nil))) (ss_cons (s_if (t_w (w_or (t_ne c (q_call c (ok__law_kinds fx) (by decide) fx.g__law_kinds (a_cons (q_var c 2) a_nil)) (q_lc [("k", 3)] c (i_range1 c fx.n_range (a_cons q_int a_nil)) (show ∀ _, BlkOk _ (defScope s__law_families_right) _ _ from fun _ => blk_ok (by decide +kernel)) (g_name (Ct.blk c) 3) f_nil (q_eq (Ct.blk c) (q_var (Ct.blk c) 3) (q_var (Ct.blk c) 1)))) (w_or1 (t_not (t_tru c (qb_isC istab fx.ist c fx.n_isinstance (a_cons (q_var c 2) (a_cons (q_gglo c fx.g_FeedError) a_nil)))))))) (ss_one (s_ret q_bl)) ss_nil)
  (ss_one (s_if (t_w (w_or (t_not (t_tru c (qb_isC istab fx.ist c fx.n_isinstance (a_cons (q_var c 2) (a_cons (q_gty c fx.n_ValueError (by decide +kernel)) a_nil))))) (w_or1 (t_tru c (qb_isC istab fx.ist c fx.n_isinstance (a_cons (q_var c 2) (a_cons (q_tup (a_cons (q_gty c fx.n_LookupError (by decide +kernel)) (a_cons (q_gty c fx.n_RuntimeError (by decide +kernel)) a_nil))) a_nil))))))) (ss_one (s_ret q_bl)) ss_nil))))
  (ss_one (s_ret (q_eq c (qb_len c fx.n_len (a_cons (q_var c 0) a_nil)) q_int))))
theorem ok__law_families_right (fx : Fx K mg) : OkF P w K mg base 2 (He.ga K "_law_families_right") ["made"] [false] [] fsp__law_families_right := okf_of fspN_len (fn__law_families_right fx) fun _ _ _ _ _ _ us hl => match us, hl with | [_], _ => rfl
theorem sc__law_fields : FnScope ["made", "told", "e"] ["made"] (defScope s__law_fields) := ⟨rfl, rfl, rfl, by decide +kernel, rfl, by decide +kernel, by decide +kernel⟩
theorem fn__law_fields (fx : Fx K mg) : ∃ fd, FunD K "_law_fields" "_law_fields" (defArgs s__law_fields) (defBody s__law_fields) (defScope s__law_fields) [] [] (He.ga K "_law_fields") fd ∧ FnG P w K mg base 1 (He.ga K "_law_fields") fd ["made"] (spOf K [false] fsp__law_fields) := by
  refine fnf (k := 0) (n := 3) (ms := [false]) (p := p__law_fields) fx.d__law_fields sc__law_fields rfl (by decide) rfl fun cdv A fr s H E c => ?_
  exact (ss_cons (s_set c 1 (q_add c (q_add c (q_lc [("e", 2)] c (i_any c (q_sl c (q_var c 0) o_none (o_some q_int))) (show ∀ _, BlkOk _ (defScope s__law_fields) _ _ from fun _ => blk_ok (by decide +kernel)) (g_name (Ct.blk c) 2) f_nil (q_fld cs_given (Ct.blk c) (fc_given fx) (q_var (Ct.blk c) 2))) (q_lc [("e", 2)] c (i_any c (q_sl c (q_var c 0) (o_some q_int) (o_some q_int))) (show ∀ _, BlkOk _ (defScope s__law_fields) _ _ from fun _ => blk_ok (by decide +kernel)) (g_name (Ct.blk c) 2) f_nil (q_fld cs_field (Ct.blk c) (fc_field fx) (q_var (Ct.blk c) 2)))) (q_lc [("e", 2)] c (i_any c (q_sl c (q_var c 0) (o_some q_int) (o_some q_int))) (show ∀ _, BlkOk _ (defScope s__law_fields) _ _ from fun _ => blk_ok (by decide +kernel)) (g_name (Ct.blk c) 2) f_nil (q_fld cs_number (Ct.blk c) (fc_number fx) (q_var (Ct.blk c) 2)))))
  (ss_cons (s_set c 1 (q_add c (q_var c 1) (q_lst (a_cons (q_fld cs_what c (fc_what fx) (q_ix c (q_var c 0) q_int)) (a_cons (q_fld cs_stamp c (fc_stamp fx) (q_ix c (q_var c 0) q_int)) (a_cons (q_fld cs_stamp c (fc_stamp fx) (q_ix c (q_var c 0) q_int)) (a_cons (q_fld cs_path c (fc_path fx) (q_ix c (q_var c 0) q_int)) (a_cons (q_fld cs_device c (fc_device fx) (q_ix c (q_var c 0) q_int)) a_nil))))))))
  (ss_one (s_ret (q_add c (q_var c 1) (q_lst (a_cons (q_fld cs_field c (fc_field fx) (q_ix c (q_var c 0) q_int)) (a_cons (q_fld cs_number c (fc_number fx) (q_ix c (q_var c 0) q_int)) (a_cons (q_fld cs_line c (fc_line fx) (q_ix c (q_var c 0) q_int)) (a_cons (q_fld cs_column c (fc_column fx) (q_ix c (q_var c 0) q_int)) a_nil))))))))))
theorem ok__law_fields (fx : Fx K mg) : OkF P w K mg base 1 (He.ga K "_law_fields") ["made"] [false] [] fsp__law_fields := okf_of fspN_len (fn__law_fields fx) fun _ _ _ _ _ _ us hl => match us, hl with | [_], _ => rfl
theorem sc_law : FnScope ["script", "draw", "turn", "amount", "some", "worth", "more", "due", "made"] ["script"] (defScope s_law) := ⟨rfl, rfl, rfl, by decide +kernel, rfl, by decide +kernel, by decide +kernel⟩
theorem fn_law (fx : Fx K mg) : ∃ fd, FunD K "law" "law" (defArgs s_law) (defBody s_law) (defScope s_law) [] [] (He.ga K "law") fd ∧ FnG P w K mg base 4 (He.ga K "law") fd ["script"] (spOf K [false] fsp_law) := by
  refine fnf (k := 3) (n := 9) (ms := [false]) (p := p_law) fx.d_law sc_law rfl (by decide) rfl fun cdv A fr s H E c => ?_
  exact (ss_cons (s_set c 1 (q_call c (ok__law_begin fx) (by decide) fx.g__law_begin (a_cons (q_var c 0) a_nil)))
  (ss_cons (s_for c (i_range1 c fx.n_range (a_cons (qb_min c fx.n_min (a_cons q_int (a_cons (q_add c q_int (qb_len c fx.n_len (a_cons (q_var c 0) a_nil))) a_nil))) a_nil)) (g_name c 2) (ss_cons (s_set c 3 (q_sub c (q_call c (ok__law_next fx) (by decide) fx.g__law_next (a_cons (q_var c 1) (a_cons q_int a_nil))) q_int))
  (ss_cons (s_set c 4 (q_lst (a_cons q_non (a_cons (q_var c 3) (a_cons (q_strL (l := [116, 111, 108, 100]) (by decide +kernel)) (a_cons (q_tup (a_cons (q_var c 3) (a_cons q_int a_nil))) (a_cons (q_lst (a_cons (q_var c 3) a_nil)) (a_cons (q_tup (a_cons (q_strL (l := [97]) (by decide +kernel)) (a_cons (q_tup a_nil) a_nil))) (a_cons q_dict0 (a_cons q_bl a_nil))))))))))
  (ss_cons (s_par c 5 6 (a_cons (q_ix c (q_var c 4) (q_call c (ok__law_next fx) (by decide) fx.g__law_next (a_cons (q_var c 1) (a_cons q_int a_nil)))) (a_cons (q_ix c (q_var c 4) (q_call c (ok__law_next fx) (by decide) fx.g__law_next (a_cons (q_var c 1) (a_cons q_int a_nil)))) a_nil)))
  (ss_cons (s_set c 7 (q_add c (q_mull c (q_lst (a_cons (q_var c 5) a_nil)) q_int) (q_lst (a_cons (q_var c 5) (a_cons (q_var c 6) (a_cons (q_var c 5) (a_cons (q_var c 6) a_nil)))))))
  (ss_one (s_for c (i_any c (q_tup (a_cons (q_call c (ok__law_made fx) (by decide) fx.g__law_made (a_cons (q_var c 5) (a_cons (q_var c 6) a_nil))) (a_cons (q_call c (ok__law_named fx) (by decide) fx.g__law_named (a_cons (q_var c 5) (a_cons (q_var c 6) a_nil))) a_nil)))) (g_name c 8) (ss_one (s_if (t_w (w_or (t_not (t_tru c (q_call c (ok__law_families_right fx) (by decide) fx.g__law_families_right (a_cons (q_var c 8) a_nil)))) (w_or1 (t_ne c (qb_reprD fx.sm c fx.n_repr (a_cons (q_call c (ok__law_fields fx) (by decide) fx.g__law_fields (a_cons (q_var c 8) a_nil)) a_nil)) (qb_reprD fx.sm c fx.n_repr (a_cons (q_var c 7) a_nil)))))) (ss_one (s_ret q_bl)) ss_nil)))))))))
  (ss_one (s_ret q_bl))))
theorem ok_law (fx : Fx K mg) : OkF P w K mg base 4 (He.ga K "law") ["script"] [false] [] fsp_law := okf_of fspN_len (fn_law fx) fun _ _ _ _ _ _ us hl => match us, hl with | [_], _ => rfl
end
end Gw
set_option Elab.async false
set_option linter.all false
set_option maxRecDepth 100000
set_option maxHeartbeats 0
namespace Gw
open PySem PySem.Spec PyProof.Rows L2 Qv
def d__law_begin : He.DefD := ⟨("_law_begin", none), "_law_begin", "_law_begin", defArgs s__law_begin, defBody s__law_begin, defScope s__law_begin, [], []⟩
def d__law_mixed : He.DefD := ⟨("_law_mixed", none), "_law_mixed", "_law_mixed", defArgs s__law_mixed, defBody s__law_mixed, defScope s__law_mixed, [], []⟩
def d__law_next : He.DefD := ⟨("_law_next", none), "_law_next", "_law_next", defArgs s__law_next, defBody s__law_next, defScope s__law_next, [], []⟩
def d__law_made : He.DefD := ⟨("_law_made", none), "_law_made", "_law_made", defArgs s__law_made, defBody s__law_made, defScope s__law_made, [], []⟩
def d__law_named : He.DefD := ⟨("_law_named", none), "_law_named", "_law_named", defArgs s__law_named, defBody s__law_named, defScope s__law_named, [], []⟩
def d__law_kinds : He.DefD := ⟨("_law_kinds", none), "_law_kinds", "_law_kinds", defArgs s__law_kinds, defBody s__law_kinds, defScope s__law_kinds, [], []⟩
def d__law_families_right : He.DefD := ⟨("_law_families_right", none), "_law_families_right", "_law_families_right", defArgs s__law_families_right, defBody s__law_families_right, defScope s__law_families_right, [], []⟩
def d__law_fields : He.DefD := ⟨("_law_fields", none), "_law_fields", "_law_fields", defArgs s__law_fields, defBody s__law_fields, defScope s__law_fields, [], []⟩
def d_law : He.DefD := ⟨("law", none), "law", "law", defArgs s_law, defBody s_law, defScope s_law, [], []⟩
def d_BadMoment : He.DefD := ⟨("BadMoment", some "__init__"), "__init__", "BadMoment.__init__", defArgs si_BadMoment, defBody si_BadMoment, defScope si_BadMoment, [], []⟩
def d_BadZone : He.DefD := ⟨("BadZone", some "__init__"), "__init__", "BadZone.__init__", defArgs si_BadZone, defBody si_BadZone, defScope si_BadZone, [], []⟩
def d_BadDate : He.DefD := ⟨("BadDate", some "__init__"), "__init__", "BadDate.__init__", defArgs si_BadDate, defBody si_BadDate, defScope si_BadDate, [], []⟩
def d_BadAddress : He.DefD := ⟨("BadAddress", some "__init__"), "__init__", "BadAddress.__init__", defArgs si_BadAddress, defBody si_BadAddress, defScope si_BadAddress, [], []⟩
def d_BadEntry : He.DefD := ⟨("BadEntry", some "__init__"), "__init__", "BadEntry.__init__", defArgs si_BadEntry, defBody si_BadEntry, defScope si_BadEntry, [], []⟩
def d_BadPage : He.DefD := ⟨("BadPage", some "__init__"), "__init__", "BadPage.__init__", defArgs si_BadPage, defBody si_BadPage, defScope si_BadPage, [], []⟩
def d_BadText : He.DefD := ⟨("BadText", some "__init__"), "__init__", "BadText.__init__", defArgs si_BadText, defBody si_BadText, defScope si_BadText, [], []⟩
def d_BadNumber : He.DefD := ⟨("BadNumber", some "__init__"), "__init__", "BadNumber.__init__", defArgs si_BadNumber, defBody si_BadNumber, defScope si_BadNumber, [], []⟩
def d_NoEntry : He.DefD := ⟨("NoEntry", some "__init__"), "__init__", "NoEntry.__init__", defArgs si_NoEntry, defBody si_NoEntry, defScope si_NoEntry, [], []⟩
def d_Taken : He.DefD := ⟨("Taken", some "__init__"), "__init__", "Taken.__init__", defArgs si_Taken, defBody si_Taken, defScope si_Taken, [], []⟩
def d_TooMany : He.DefD := ⟨("TooMany", some "__init__"), "__init__", "TooMany.__init__", defArgs si_TooMany, defBody si_TooMany, defScope si_TooMany, [], []⟩
def d_BadWorld : He.DefD := ⟨("BadWorld", some "__init__"), "__init__", "BadWorld.__init__", defArgs si_BadWorld, defBody si_BadWorld, defScope si_BadWorld, [], []⟩
def d_BadTrouble : He.DefD := ⟨("BadTrouble", some "__init__"), "__init__", "BadTrouble.__init__", defArgs si_BadTrouble, defBody si_BadTrouble, defScope si_BadTrouble, [], []⟩
def d_BadThing : He.DefD := ⟨("BadThing", some "__init__"), "__init__", "BadThing.__init__", defArgs si_BadThing, defBody si_BadThing, defScope si_BadThing, [], []⟩
def d_BadShelf : He.DefD := ⟨("BadShelf", some "__init__"), "__init__", "BadShelf.__init__", defArgs si_BadShelf, defBody si_BadShelf, defScope si_BadShelf, [], []⟩
def d_NoSighting : He.DefD := ⟨("NoSighting", some "__init__"), "__init__", "NoSighting.__init__", defArgs si_NoSighting, defBody si_NoSighting, defScope si_NoSighting, [], []⟩
def d_BadDevice : He.DefD := ⟨("BadDevice", some "__init__"), "__init__", "BadDevice.__init__", defArgs si_BadDevice, defBody si_BadDevice, defScope si_BadDevice, [], []⟩
def d_BadLibrary : He.DefD := ⟨("BadLibrary", some "__init__"), "__init__", "BadLibrary.__init__", defArgs si_BadLibrary, defBody si_BadLibrary, defScope si_BadLibrary, [], []⟩
def d_Torn : He.DefD := ⟨("Torn", some "__init__"), "__init__", "Torn.__init__", defArgs si_Torn, defBody si_Torn, defScope si_Torn, [], []⟩
def d_NoItem : He.DefD := ⟨("NoItem", some "__init__"), "__init__", "NoItem.__init__", defArgs si_NoItem, defBody si_NoItem, defScope si_NoItem, [], []⟩
def d_BadFolder : He.DefD := ⟨("BadFolder", some "__init__"), "__init__", "BadFolder.__init__", defArgs si_BadFolder, defBody si_BadFolder, defScope si_BadFolder, [], []⟩
def d_NoNote : He.DefD := ⟨("NoNote", some "__init__"), "__init__", "NoNote.__init__", defArgs si_NoNote, defBody si_NoNote, defScope si_NoNote, [], []⟩
def d_BadQuery : He.DefD := ⟨("BadQuery", some "__init__"), "__init__", "BadQuery.__init__", defArgs si_BadQuery, defBody si_BadQuery, defScope si_BadQuery, [], []⟩
def d_BadWindow : He.DefD := ⟨("BadWindow", some "__init__"), "__init__", "BadWindow.__init__", defArgs si_BadWindow, defBody si_BadWindow, defScope si_BadWindow, [], []⟩
def d_BadOffer : He.DefD := ⟨("BadOffer", some "__init__"), "__init__", "BadOffer.__init__", defArgs si_BadOffer, defBody si_BadOffer, defScope si_BadOffer, [], []⟩
def d_BadLog : He.DefD := ⟨("BadLog", some "__init__"), "__init__", "BadLog.__init__", defArgs si_BadLog, defBody si_BadLog, defScope si_BadLog, [], []⟩
def d_NoAnswer : He.DefD := ⟨("NoAnswer", some "__init__"), "__init__", "NoAnswer.__init__", defArgs si_NoAnswer, defBody si_NoAnswer, defScope si_NoAnswer, [], []⟩
def d_BadVector : He.DefD := ⟨("BadVector", some "__init__"), "__init__", "BadVector.__init__", defArgs si_BadVector, defBody si_BadVector, defScope si_BadVector, [], []⟩
def d_BadBundle : He.DefD := ⟨("BadBundle", some "__init__"), "__init__", "BadBundle.__init__", defArgs si_BadBundle, defBody si_BadBundle, defScope si_BadBundle, [], []⟩
def d_Gap : He.DefD := ⟨("Gap", some "__init__"), "__init__", "Gap.__init__", defArgs si_Gap, defBody si_Gap, defScope si_Gap, [], []⟩
def fn : List He.DefD := [d__law_begin, d__law_mixed, d__law_next, d__law_made, d__law_named, d__law_kinds, d__law_families_right, d__law_fields, d_law, d_BadMoment, d_BadZone, d_BadDate, d_BadAddress, d_BadEntry, d_BadPage, d_BadText, d_BadNumber, d_NoEntry, d_Taken, d_TooMany, d_BadWorld, d_BadTrouble, d_BadThing, d_BadShelf, d_NoSighting, d_BadDevice, d_BadLibrary, d_Torn, d_NoItem, d_BadFolder, d_NoNote, d_BadQuery, d_BadWindow, d_BadOffer, d_BadLog, d_NoAnswer, d_BadVector, d_BadBundle, d_Gap]
def exs : List (PySem.W.Frag → Bool) := [fun K => excB "BadMoment" ["given"] K,
  fun K => excB "BadZone" ["given"] K,
  fun K => excB "BadDate" ["given"] K,
  fun K => excB "BadAddress" ["given"] K,
  fun K => excB "BadEntry" ["field"] K,
  fun K => excB "BadPage" ["field", "number"] K,
  fun K => excB "BadText" ["line", "column"] K,
  fun K => excB "BadNumber" ["field"] K,
  fun K => excB "NoEntry" ["given"] K,
  fun K => excB "Taken" ["given"] K,
  fun K => excB "TooMany" ["what"] K,
  fun K => excB "BadWorld" ["number"] K,
  fun K => excB "BadTrouble" ["number"] K,
  fun K => excB "BadThing" ["given"] K,
  fun K => excB "BadShelf" ["number"] K,
  fun K => excB "NoSighting" ["number"] K,
  fun K => excB "BadDevice" ["given"] K,
  fun K => excB "BadLibrary" ["number"] K,
  fun K => excB "Torn" ["stamp"] K,
  fun K => excB "NoItem" ["given"] K,
  fun K => excB "BadFolder" ["given"] K,
  fun K => excB "NoNote" ["stamp"] K,
  fun K => excB "BadQuery" ["path"] K,
  fun K => excB "BadWindow" ["number"] K,
  fun K => excB "BadOffer" ["number"] K,
  fun K => excB "BadLog" ["number"] K,
  fun K => excB "NoAnswer" ["number"] K,
  fun K => excB "BadVector" ["given"] K,
  fun K => excB "BadBundle" ["number"] K,
  fun K => excB "Gap" ["device"] K,
  fun K => excIB "BadMoment" K,
  fun K => excIB "BadZone" K,
  fun K => excIB "BadDate" K,
  fun K => excIB "BadAddress" K,
  fun K => excIB "BadEntry" K,
  fun K => excIB "BadPage" K,
  fun K => excIB "BadText" K,
  fun K => excIB "BadNumber" K,
  fun K => excIB "NoEntry" K,
  fun K => excIB "Taken" K,
  fun K => excIB "TooMany" K,
  fun K => excIB "BadWorld" K,
  fun K => excIB "BadTrouble" K,
  fun K => excIB "BadThing" K,
  fun K => excIB "BadShelf" K,
  fun K => excIB "NoSighting" K,
  fun K => excIB "BadDevice" K,
  fun K => excIB "BadLibrary" K,
  fun K => excIB "Torn" K,
  fun K => excIB "NoItem" K,
  fun K => excIB "BadFolder" K,
  fun K => excIB "NoNote" K,
  fun K => excIB "BadQuery" K,
  fun K => excIB "BadWindow" K,
  fun K => excIB "BadOffer" K,
  fun K => excIB "BadLog" K,
  fun K => excIB "NoAnswer" K,
  fun K => excIB "BadVector" K,
  fun K => excIB "BadBundle" K,
  fun K => excIB "Gap" K,
  fun K => smB K,
  fun K => flatB istN "FeedError" [("LookupError", false), ("RuntimeError", false), ("ValueError", true)] K]
def fa : List He.Fa := [.free "LookupError", .free "RuntimeError", .free "ValueError", .free "enumerate", .free "int", .free "isinstance", .free "len", .free "min", .free "range", .free "repr", .glo "BadAddress", .glo "BadBundle", .glo "BadDate", .glo "BadDevice", .glo "BadEntry", .glo "BadFolder", .glo "BadLibrary", .glo "BadLog", .glo "BadMoment", .glo "BadNumber", .glo "BadOffer", .glo "BadPage", .glo "BadQuery", .glo "BadShelf", .glo "BadText", .glo "BadThing", .glo "BadTrouble", .glo "BadVector", .glo "BadWindow", .glo "BadWorld", .glo "BadZone", .glo "FeedError", .glo "Gap", .glo "NoAnswer", .glo "NoEntry", .glo "NoItem", .glo "NoNote", .glo "NoSighting", .glo "Taken", .glo "TooMany", .glo "Torn", .glo "_law_begin", .glo "_law_mixed", .glo "_law_next", .glo "_law_made", .glo "_law_named", .glo "_law_kinds", .glo "_law_families_right", .glo "_law_fields", .glo "law"]
abbrev R : PySem.W.OpenRow := PySem.W.OpenLaw.row PySem.Challenge.rw_feedreader_k01_error_classes
abbrev hk : PySem.W.Hook := hookZ 5 fa fn exs
def ob (s : PySem.W.SharedT) : AlY := obsZG 5 fa fn exs (HandSHeadRun.getT s)
theorem ob_eq (s : PySem.W.SharedT) : ob s = hk.obs s.abs := obsZG_eq (HandSHeadRun.getT_eq s)
def loose : List Str := (["BadAddress", "BadBundle", "BadDate", "BadDevice", "BadEntry", "BadFolder", "BadLibrary", "BadLog", "BadMoment", "BadNumber", "BadOffer", "BadPage", "BadQuery", "BadShelf", "BadText", "BadThing", "BadTrouble", "BadVector", "BadWindow", "BadWorld", "BadZone", "FeedError", "Gap", "NoAnswer", "NoEntry", "NoItem", "NoNote", "NoSighting", "Taken", "TooMany"] : List Str) ++ (["Torn", "_law_begin", "_law_families_right", "_law_fields", "_law_kinds", "_law_made", "_law_mixed", "_law_named", "_law_next"] : List Str)
theorem run (w : World) : HandSHeadRun.RunEq R (PySem.W.view R.prog [41]) hk ob 20000 loose w := by
  intro os
  kernel_rfl
theorem fx_of {K : PySem.W.Frag} {h : Heap} {mg : Str → Option Value} (KX : K.In h) (G : h.Ns mainGlobals mg) (c : SaysY fa fn exs K) : Fx K mg :=
  ⟨He.free_ok KX G (c.d.fact 0 (f := .free "LookupError") rfl),
  He.free_ok KX G (c.d.fact 1 (f := .free "RuntimeError") rfl),
  He.free_ok KX G (c.d.fact 2 (f := .free "ValueError") rfl),
  He.free_ok KX G (c.d.fact 3 (f := .free "enumerate") rfl),
  He.free_ok KX G (c.d.fact 4 (f := .free "int") rfl),
  He.free_ok KX G (c.d.fact 5 (f := .free "isinstance") rfl),
  He.free_ok KX G (c.d.fact 6 (f := .free "len") rfl),
  He.free_ok KX G (c.d.fact 7 (f := .free "min") rfl),
  He.free_ok KX G (c.d.fact 8 (f := .free "range") rfl),
  He.free_ok KX G (c.d.fact 9 (f := .free "repr") rfl),
  He.glo_ok KX G (c.d.fact 10 (f := .glo "BadAddress") rfl),
  He.glo_ok KX G (c.d.fact 11 (f := .glo "BadBundle") rfl),
  He.glo_ok KX G (c.d.fact 12 (f := .glo "BadDate") rfl),
  He.glo_ok KX G (c.d.fact 13 (f := .glo "BadDevice") rfl),
  He.glo_ok KX G (c.d.fact 14 (f := .glo "BadEntry") rfl),
  He.glo_ok KX G (c.d.fact 15 (f := .glo "BadFolder") rfl),
  He.glo_ok KX G (c.d.fact 16 (f := .glo "BadLibrary") rfl),
  He.glo_ok KX G (c.d.fact 17 (f := .glo "BadLog") rfl),
  He.glo_ok KX G (c.d.fact 18 (f := .glo "BadMoment") rfl),
  He.glo_ok KX G (c.d.fact 19 (f := .glo "BadNumber") rfl),
  He.glo_ok KX G (c.d.fact 20 (f := .glo "BadOffer") rfl),
  He.glo_ok KX G (c.d.fact 21 (f := .glo "BadPage") rfl),
  He.glo_ok KX G (c.d.fact 22 (f := .glo "BadQuery") rfl),
  He.glo_ok KX G (c.d.fact 23 (f := .glo "BadShelf") rfl),
  He.glo_ok KX G (c.d.fact 24 (f := .glo "BadText") rfl),
  He.glo_ok KX G (c.d.fact 25 (f := .glo "BadThing") rfl),
  He.glo_ok KX G (c.d.fact 26 (f := .glo "BadTrouble") rfl),
  He.glo_ok KX G (c.d.fact 27 (f := .glo "BadVector") rfl),
  He.glo_ok KX G (c.d.fact 28 (f := .glo "BadWindow") rfl),
  He.glo_ok KX G (c.d.fact 29 (f := .glo "BadWorld") rfl),
  He.glo_ok KX G (c.d.fact 30 (f := .glo "BadZone") rfl),
  He.glo_ok KX G (c.d.fact 31 (f := .glo "FeedError") rfl),
  He.glo_ok KX G (c.d.fact 32 (f := .glo "Gap") rfl),
  He.glo_ok KX G (c.d.fact 33 (f := .glo "NoAnswer") rfl),
  He.glo_ok KX G (c.d.fact 34 (f := .glo "NoEntry") rfl),
  He.glo_ok KX G (c.d.fact 35 (f := .glo "NoItem") rfl),
  He.glo_ok KX G (c.d.fact 36 (f := .glo "NoNote") rfl),
  He.glo_ok KX G (c.d.fact 37 (f := .glo "NoSighting") rfl),
  He.glo_ok KX G (c.d.fact 38 (f := .glo "Taken") rfl),
  He.glo_ok KX G (c.d.fact 39 (f := .glo "TooMany") rfl),
  He.glo_ok KX G (c.d.fact 40 (f := .glo "Torn") rfl),
  excB_ok (c.ex 0 (f := fun K => excB "BadMoment" ["given"] K) rfl),
  excB_ok (c.ex 1 (f := fun K => excB "BadZone" ["given"] K) rfl),
  excB_ok (c.ex 2 (f := fun K => excB "BadDate" ["given"] K) rfl),
  excB_ok (c.ex 3 (f := fun K => excB "BadAddress" ["given"] K) rfl),
  excB_ok (c.ex 4 (f := fun K => excB "BadEntry" ["field"] K) rfl),
  excB_ok (c.ex 5 (f := fun K => excB "BadPage" ["field", "number"] K) rfl),
  excB_ok (c.ex 6 (f := fun K => excB "BadText" ["line", "column"] K) rfl),
  excB_ok (c.ex 7 (f := fun K => excB "BadNumber" ["field"] K) rfl),
  excB_ok (c.ex 8 (f := fun K => excB "NoEntry" ["given"] K) rfl),
  excB_ok (c.ex 9 (f := fun K => excB "Taken" ["given"] K) rfl),
  excB_ok (c.ex 10 (f := fun K => excB "TooMany" ["what"] K) rfl),
  excB_ok (c.ex 11 (f := fun K => excB "BadWorld" ["number"] K) rfl),
  excB_ok (c.ex 12 (f := fun K => excB "BadTrouble" ["number"] K) rfl),
  excB_ok (c.ex 13 (f := fun K => excB "BadThing" ["given"] K) rfl),
  excB_ok (c.ex 14 (f := fun K => excB "BadShelf" ["number"] K) rfl),
  excB_ok (c.ex 15 (f := fun K => excB "NoSighting" ["number"] K) rfl),
  excB_ok (c.ex 16 (f := fun K => excB "BadDevice" ["given"] K) rfl),
  excB_ok (c.ex 17 (f := fun K => excB "BadLibrary" ["number"] K) rfl),
  excB_ok (c.ex 18 (f := fun K => excB "Torn" ["stamp"] K) rfl),
  excB_ok (c.ex 19 (f := fun K => excB "NoItem" ["given"] K) rfl),
  excB_ok (c.ex 20 (f := fun K => excB "BadFolder" ["given"] K) rfl),
  excB_ok (c.ex 21 (f := fun K => excB "NoNote" ["stamp"] K) rfl),
  excB_ok (c.ex 22 (f := fun K => excB "BadQuery" ["path"] K) rfl),
  excB_ok (c.ex 23 (f := fun K => excB "BadWindow" ["number"] K) rfl),
  excB_ok (c.ex 24 (f := fun K => excB "BadOffer" ["number"] K) rfl),
  excB_ok (c.ex 25 (f := fun K => excB "BadLog" ["number"] K) rfl),
  excB_ok (c.ex 26 (f := fun K => excB "NoAnswer" ["number"] K) rfl),
  excB_ok (c.ex 27 (f := fun K => excB "BadVector" ["given"] K) rfl),
  excB_ok (c.ex 28 (f := fun K => excB "BadBundle" ["number"] K) rfl),
  excB_ok (c.ex 29 (f := fun K => excB "Gap" ["device"] K) rfl),
  excIB_ok (c.ex 30 (f := fun K => excIB "BadMoment" K) rfl),
  excIB_ok (c.ex 31 (f := fun K => excIB "BadZone" K) rfl),
  excIB_ok (c.ex 32 (f := fun K => excIB "BadDate" K) rfl),
  excIB_ok (c.ex 33 (f := fun K => excIB "BadAddress" K) rfl),
  excIB_ok (c.ex 34 (f := fun K => excIB "BadEntry" K) rfl),
  excIB_ok (c.ex 35 (f := fun K => excIB "BadPage" K) rfl),
  excIB_ok (c.ex 36 (f := fun K => excIB "BadText" K) rfl),
  excIB_ok (c.ex 37 (f := fun K => excIB "BadNumber" K) rfl),
  excIB_ok (c.ex 38 (f := fun K => excIB "NoEntry" K) rfl),
  excIB_ok (c.ex 39 (f := fun K => excIB "Taken" K) rfl),
  excIB_ok (c.ex 40 (f := fun K => excIB "TooMany" K) rfl),
  excIB_ok (c.ex 41 (f := fun K => excIB "BadWorld" K) rfl),
  excIB_ok (c.ex 42 (f := fun K => excIB "BadTrouble" K) rfl),
  excIB_ok (c.ex 43 (f := fun K => excIB "BadThing" K) rfl),
  excIB_ok (c.ex 44 (f := fun K => excIB "BadShelf" K) rfl),
  excIB_ok (c.ex 45 (f := fun K => excIB "NoSighting" K) rfl),
  excIB_ok (c.ex 46 (f := fun K => excIB "BadDevice" K) rfl),
  excIB_ok (c.ex 47 (f := fun K => excIB "BadLibrary" K) rfl),
  excIB_ok (c.ex 48 (f := fun K => excIB "Torn" K) rfl),
  excIB_ok (c.ex 49 (f := fun K => excIB "NoItem" K) rfl),
  excIB_ok (c.ex 50 (f := fun K => excIB "BadFolder" K) rfl),
  excIB_ok (c.ex 51 (f := fun K => excIB "NoNote" K) rfl),
  excIB_ok (c.ex 52 (f := fun K => excIB "BadQuery" K) rfl),
  excIB_ok (c.ex 53 (f := fun K => excIB "BadWindow" K) rfl),
  excIB_ok (c.ex 54 (f := fun K => excIB "BadOffer" K) rfl),
  excIB_ok (c.ex 55 (f := fun K => excIB "BadLog" K) rfl),
  excIB_ok (c.ex 56 (f := fun K => excIB "NoAnswer" K) rfl),
  excIB_ok (c.ex 57 (f := fun K => excIB "BadVector" K) rfl),
  excIB_ok (c.ex 58 (f := fun K => excIB "BadBundle" K) rfl),
  excIB_ok (c.ex 59 (f := fun K => excIB "Gap" K) rfl),
  (c.ex 60 (f := fun K => smB K) rfl),
  flatB_ok (c.ex 61 (f := fun K => flatB istN "FeedError" [("LookupError", false), ("RuntimeError", false), ("ValueError", true)] K) rfl),
  He.glo_ok KX G (c.d.fact 41 (f := .glo "_law_begin") rfl),
  He.glo_ok KX G (c.d.fact 42 (f := .glo "_law_mixed") rfl),
  He.glo_ok KX G (c.d.fact 43 (f := .glo "_law_next") rfl),
  He.glo_ok KX G (c.d.fact 44 (f := .glo "_law_made") rfl),
  He.glo_ok KX G (c.d.fact 45 (f := .glo "_law_named") rfl),
  He.glo_ok KX G (c.d.fact 46 (f := .glo "_law_kinds") rfl),
  He.glo_ok KX G (c.d.fact 47 (f := .glo "_law_families_right") rfl),
  He.glo_ok KX G (c.d.fact 48 (f := .glo "_law_fields") rfl),
  He.glo_ok KX G (c.d.fact 49 (f := .glo "law") rfl),
  c.d.def_ 0 (d := d__law_begin) rfl,
  c.d.def_ 1 (d := d__law_mixed) rfl,
  c.d.def_ 2 (d := d__law_next) rfl,
  c.d.def_ 3 (d := d__law_made) rfl,
  c.d.def_ 4 (d := d__law_named) rfl,
  c.d.def_ 5 (d := d__law_kinds) rfl,
  c.d.def_ 6 (d := d__law_families_right) rfl,
  c.d.def_ 7 (d := d__law_fields) rfl,
  c.d.def_ 8 (d := d_law) rfl,
  c.d.def_ 9 (d := d_BadMoment) rfl,
  c.d.def_ 10 (d := d_BadZone) rfl,
  c.d.def_ 11 (d := d_BadDate) rfl,
  c.d.def_ 12 (d := d_BadAddress) rfl,
  c.d.def_ 13 (d := d_BadEntry) rfl,
  c.d.def_ 14 (d := d_BadPage) rfl,
  c.d.def_ 15 (d := d_BadText) rfl,
  c.d.def_ 16 (d := d_BadNumber) rfl,
  c.d.def_ 17 (d := d_NoEntry) rfl,
  c.d.def_ 18 (d := d_Taken) rfl,
  c.d.def_ 19 (d := d_TooMany) rfl,
  c.d.def_ 20 (d := d_BadWorld) rfl,
  c.d.def_ 21 (d := d_BadTrouble) rfl,
  c.d.def_ 22 (d := d_BadThing) rfl,
  c.d.def_ 23 (d := d_BadShelf) rfl,
  c.d.def_ 24 (d := d_NoSighting) rfl,
  c.d.def_ 25 (d := d_BadDevice) rfl,
  c.d.def_ 26 (d := d_BadLibrary) rfl,
  c.d.def_ 27 (d := d_Torn) rfl,
  c.d.def_ 28 (d := d_NoItem) rfl,
  c.d.def_ 29 (d := d_BadFolder) rfl,
  c.d.def_ 30 (d := d_NoNote) rfl,
  c.d.def_ 31 (d := d_BadQuery) rfl,
  c.d.def_ 32 (d := d_BadWindow) rfl,
  c.d.def_ 33 (d := d_BadOffer) rfl,
  c.d.def_ 34 (d := d_BadLog) rfl,
  c.d.def_ 35 (d := d_NoAnswer) rfl,
  c.d.def_ 36 (d := d_BadVector) rfl,
  c.d.def_ 37 (d := d_BadBundle) rfl,
  c.d.def_ 38 (d := d_Gap) rfl⟩
end Gw
set_option Elab.async false
set_option linter.all false
set_option maxRecDepth 100000
set_option maxHeartbeats 4000000
set_option synthInstance.maxHeartbeats 4000000
set_option synthInstance.maxSize 100000
namespace Gw
open PySem PySem.Spec L2 Qv
local macro_rules | `(tactic| get_elem_tactic_extensible) => `(tactic| ((repeat (focus (first | ((with_reducible refine Sx.h ?_)) | ((with_reducible apply r_iteT); rfl) | ((with_reducible apply r_iteF); rfl) | ((with_reducible apply r_var); rfl; assumption) | ((with_reducible apply r_varO); rfl; assumption) | ((with_reducible apply r_modI); omega) | ((with_reducible apply r_fdivI); (apply cdiv <;> omega)) | ((with_reducible apply r_mulI); (apply cmul <;> omega)) | ((with_reducible apply r_powI); exact ⟨by decide, by decide, by decide⟩) | ((with_reducible apply r_ixL); rfl) | ((with_reducible apply r_ixT); rfl) | ((with_reducible apply r_sdA); rfl; rfl; (try dsimp only [List.set_cons_zero, List.set_cons_succ])) | ((with_reducible apply r_sdL); rfl; rfl; (try dsimp only [List.set_cons_zero, List.set_cons_succ])) | ((with_reducible apply r_sdU); rfl; rfl; (try dsimp only [List.set_cons_zero, List.set_cons_succ])) | ((with_reducible apply r_isi); rfl; exact isT_int _) | ((with_reducible apply r_isi); rfl; exact isT_bool _) | ((with_reducible apply r_isi); rfl; exact isT_str _) | ((with_reducible apply r_isi); rfl; exact isT_tuple _) | ((with_reducible apply r_isi); rfl; exact isT_list _) | ((with_reducible apply r_escL); rfl; (try dsimp only [List.set_cons_zero, List.set_cons_succ])) | ((with_reducible apply r_escD); rfl; (try dsimp only [List.set_cons_zero, List.set_cons_succ])) | ((with_reducible apply r_tu); rfl; rfl; trivial) | ((with_reducible apply r_addX); (focus ((repeat (first | assumption | with_reducible exact tl_nil | with_reducible apply tl_cons | with_reducible apply tl_app | with_reducible apply tl_take | with_reducible apply tl_drop | with_reducible apply tl_cut | with_reducible apply tl_bef | with_reducible apply tl_beh | with_reducible apply tl_map)); done)); (focus ((repeat (first | assumption | with_reducible exact tl_nil | with_reducible apply tl_cons | with_reducible apply tl_app | with_reducible apply tl_take | with_reducible apply tl_drop | with_reducible apply tl_cut | with_reducible apply tl_bef | with_reducible apply tl_beh | with_reducible apply tl_map)); done)); rfl) | ((with_reducible apply r_lenX); (focus ((repeat (first | assumption | with_reducible exact tl_nil | with_reducible apply tl_cons | with_reducible apply tl_app | with_reducible apply tl_take | with_reducible apply tl_drop | with_reducible apply tl_cut | with_reducible apply tl_bef | with_reducible apply tl_beh | with_reducible apply tl_map)); done)); rfl) | ((with_reducible apply r_slXt); rfl; (focus ((repeat (first | assumption | with_reducible exact tl_nil | with_reducible apply tl_cons | with_reducible apply tl_app | with_reducible apply tl_take | with_reducible apply tl_drop | with_reducible apply tl_cut | with_reducible apply tl_bef | with_reducible apply tl_beh | with_reducible apply tl_map)); done)); rfl) | ((with_reducible apply r_slXd); rfl; (focus ((repeat (first | assumption | with_reducible exact tl_nil | with_reducible apply tl_cons | with_reducible apply tl_app | with_reducible apply tl_take | with_reducible apply tl_drop | with_reducible apply tl_cut | with_reducible apply tl_bef | with_reducible apply tl_beh | with_reducible apply tl_map)); done)); rfl) | ((with_reducible apply r_slX); rfl; (focus ((repeat (first | assumption | with_reducible exact tl_nil | with_reducible apply tl_cons | with_reducible apply tl_app | with_reducible apply tl_take | with_reducible apply tl_drop | with_reducible apply tl_cut | with_reducible apply tl_bef | with_reducible apply tl_beh | with_reducible apply tl_map)); done)); rfl) | ((with_reducible apply r_eqX); (focus ((repeat (first | assumption | with_reducible exact as_nil | ((with_reducible apply as_cons); decide) | with_reducible apply as_app | with_reducible apply as_take | with_reducible apply as_drop | with_reducible apply as_cut | with_reducible apply as_bef | with_reducible apply as_beh | with_reducible apply as_low | with_reducible apply as_mul)); done)); (focus ((repeat (first | assumption | with_reducible exact as_nil | ((with_reducible apply as_cons); decide) | with_reducible apply as_app | with_reducible apply as_take | with_reducible apply as_drop | with_reducible apply as_cut | with_reducible apply as_bef | with_reducible apply as_beh | with_reducible apply as_low | with_reducible apply as_mul)); done))) | ((with_reducible apply r_neX); (focus ((repeat (first | assumption | with_reducible exact as_nil | ((with_reducible apply as_cons); decide) | with_reducible apply as_app | with_reducible apply as_take | with_reducible apply as_drop | with_reducible apply as_cut | with_reducible apply as_bef | with_reducible apply as_beh | with_reducible apply as_low | with_reducible apply as_mul)); done)); (focus ((repeat (first | assumption | with_reducible exact as_nil | ((with_reducible apply as_cons); decide) | with_reducible apply as_app | with_reducible apply as_take | with_reducible apply as_drop | with_reducible apply as_cut | with_reducible apply as_bef | with_reducible apply as_beh | with_reducible apply as_low | with_reducible apply as_mul)); done))) | ((with_reducible apply r_slT); rfl; (focus (apply cutN; rfl; rfl; (focus ((repeat (first | exact dr_zero | exact dr_nil | apply dr_succ)); done)); (focus ((repeat (first | exact tk_zero | exact tk_nil | apply tk_succ)); done))))) | ((with_reducible apply r_slL); rfl; (focus (apply cutN; rfl; rfl; (focus ((repeat (first | exact dr_zero | exact dr_nil | apply dr_succ)); done)); (focus ((repeat (first | exact tk_zero | exact tk_nil | apply tk_succ)); done))))) | ((with_reducible apply r_slLt); rfl) | ((with_reducible apply r_slLd); rfl) | ((with_reducible apply r_slT); rfl; rfl) | ((with_reducible apply r_slL); rfl; rfl) | ((with_reducible apply r_split); (focus ((repeat (first | assumption | with_reducible exact tl_nil | with_reducible apply tl_cons | with_reducible apply tl_app | with_reducible apply tl_take | with_reducible apply tl_drop | with_reducible apply tl_cut | with_reducible apply tl_bef | with_reducible apply tl_beh | with_reducible apply tl_map)); done)); rfl; rfl) | ((with_reducible apply r_part); (focus ((repeat (first | assumption | with_reducible exact tl_nil | with_reducible apply tl_cons | with_reducible apply tl_app | with_reducible apply tl_take | with_reducible apply tl_drop | with_reducible apply tl_cut | with_reducible apply tl_bef | with_reducible apply tl_beh | with_reducible apply tl_map)); done)); rfl) | ((with_reducible apply r_reprX); (focus ((repeat (first | assumption | with_reducible exact as_nil | ((with_reducible apply as_cons); decide) | with_reducible apply as_app | with_reducible apply as_take | with_reducible apply as_drop | with_reducible apply as_cut | with_reducible apply as_bef | with_reducible apply as_beh | with_reducible apply as_low | with_reducible apply as_mul)); done)); (focus ((repeat (first | assumption | with_reducible exact tl_nil | with_reducible apply tl_cons | with_reducible apply tl_app | with_reducible apply tl_take | with_reducible apply tl_drop | with_reducible apply tl_cut | with_reducible apply tl_bef | with_reducible apply tl_beh | with_reducible apply tl_map)); done)); rfl) | ((with_reducible apply r_reprV); (focus ((repeat (first | assumption | with_reducible exact rp_non | with_reducible exact rp_bl | ((with_reducible apply rp_int); omega) | ((with_reducible apply rp_str); (focus ((repeat (first | assumption | with_reducible exact as_nil | ((with_reducible apply as_cons); decide) | with_reducible apply as_app | with_reducible apply as_take | with_reducible apply as_drop | with_reducible apply as_cut | with_reducible apply as_bef | with_reducible apply as_beh | with_reducible apply as_low | with_reducible apply as_mul)); done)); (focus ((repeat (first | assumption | with_reducible exact tl_nil | with_reducible apply tl_cons | with_reducible apply tl_app | with_reducible apply tl_take | with_reducible apply tl_drop | with_reducible apply tl_cut | with_reducible apply tl_bef | with_reducible apply tl_beh | with_reducible apply tl_map)); done))) | with_reducible apply rp_tup | with_reducible apply rp_lst | with_reducible exact rpl_nil | with_reducible apply rpl_cons)); done)); rfl; rfl) | ((with_reducible apply r_reprV); assumption; assumption; assumption) | ((with_reducible apply r_reprD); (focus ((repeat (first | assumption | with_reducible exact rx_dic | with_reducible exact rxs_nil | with_reducible apply rxs_cons | with_reducible apply rx_tup | with_reducible apply rx_lst | ((with_reducible apply RPv.x); (focus ((repeat (first | assumption | with_reducible exact rp_non | with_reducible exact rp_bl | ((with_reducible apply rp_int); omega) | ((with_reducible apply rp_str); (focus ((repeat (first | assumption | with_reducible exact as_nil | ((with_reducible apply as_cons); decide) | with_reducible apply as_app | with_reducible apply as_take | with_reducible apply as_drop | with_reducible apply as_cut | with_reducible apply as_bef | with_reducible apply as_beh | with_reducible apply as_low | with_reducible apply as_mul)); done)); (focus ((repeat (first | assumption | with_reducible exact tl_nil | with_reducible apply tl_cons | with_reducible apply tl_app | with_reducible apply tl_take | with_reducible apply tl_drop | with_reducible apply tl_cut | with_reducible apply tl_bef | with_reducible apply tl_beh | with_reducible apply tl_map)); done))) | with_reducible apply rp_tup | with_reducible apply rp_lst | with_reducible exact rpl_nil | with_reducible apply rpl_cons)); done))))); done)); rfl; rfl) | ((with_reducible apply r_eqRx); (focus ((repeat (first | assumption | with_reducible exact rx_dic | with_reducible exact rxs_nil | with_reducible apply rxs_cons | with_reducible apply rx_tup | with_reducible apply rx_lst | ((with_reducible apply RPv.x); (focus ((repeat (first | assumption | with_reducible exact rp_non | with_reducible exact rp_bl | ((with_reducible apply rp_int); omega) | ((with_reducible apply rp_str); (focus ((repeat (first | assumption | with_reducible exact as_nil | ((with_reducible apply as_cons); decide) | with_reducible apply as_app | with_reducible apply as_take | with_reducible apply as_drop | with_reducible apply as_cut | with_reducible apply as_bef | with_reducible apply as_beh | with_reducible apply as_low | with_reducible apply as_mul)); done)); (focus ((repeat (first | assumption | with_reducible exact tl_nil | with_reducible apply tl_cons | with_reducible apply tl_app | with_reducible apply tl_take | with_reducible apply tl_drop | with_reducible apply tl_cut | with_reducible apply tl_bef | with_reducible apply tl_beh | with_reducible apply tl_map)); done))) | with_reducible apply rp_tup | with_reducible apply rp_lst | with_reducible exact rpl_nil | with_reducible apply rpl_cons)); done))))); done))) | ((with_reducible apply r_neRx); (focus ((repeat (first | assumption | with_reducible exact rx_dic | with_reducible exact rxs_nil | with_reducible apply rxs_cons | with_reducible apply rx_tup | with_reducible apply rx_lst | ((with_reducible apply RPv.x); (focus ((repeat (first | assumption | with_reducible exact rp_non | with_reducible exact rp_bl | ((with_reducible apply rp_int); omega) | ((with_reducible apply rp_str); (focus ((repeat (first | assumption | with_reducible exact as_nil | ((with_reducible apply as_cons); decide) | with_reducible apply as_app | with_reducible apply as_take | with_reducible apply as_drop | with_reducible apply as_cut | with_reducible apply as_bef | with_reducible apply as_beh | with_reducible apply as_low | with_reducible apply as_mul)); done)); (focus ((repeat (first | assumption | with_reducible exact tl_nil | with_reducible apply tl_cons | with_reducible apply tl_app | with_reducible apply tl_take | with_reducible apply tl_drop | with_reducible apply tl_cut | with_reducible apply tl_bef | with_reducible apply tl_beh | with_reducible apply tl_map)); done))) | with_reducible apply rp_tup | with_reducible apply rp_lst | with_reducible exact rpl_nil | with_reducible apply rpl_cons)); done))))); done))) | ((with_reducible apply r_eqRp); (focus ((repeat (first | assumption | with_reducible exact rp_non | with_reducible exact rp_bl | ((with_reducible apply rp_int); omega) | ((with_reducible apply rp_str); (focus ((repeat (first | assumption | with_reducible exact as_nil | ((with_reducible apply as_cons); decide) | with_reducible apply as_app | with_reducible apply as_take | with_reducible apply as_drop | with_reducible apply as_cut | with_reducible apply as_bef | with_reducible apply as_beh | with_reducible apply as_low | with_reducible apply as_mul)); done)); (focus ((repeat (first | assumption | with_reducible exact tl_nil | with_reducible apply tl_cons | with_reducible apply tl_app | with_reducible apply tl_take | with_reducible apply tl_drop | with_reducible apply tl_cut | with_reducible apply tl_bef | with_reducible apply tl_beh | with_reducible apply tl_map)); done))) | with_reducible apply rp_tup | with_reducible apply rp_lst | with_reducible exact rpl_nil | with_reducible apply rpl_cons)); done))) | ((with_reducible apply r_neRp); (focus ((repeat (first | assumption | with_reducible exact rp_non | with_reducible exact rp_bl | ((with_reducible apply rp_int); omega) | ((with_reducible apply rp_str); (focus ((repeat (first | assumption | with_reducible exact as_nil | ((with_reducible apply as_cons); decide) | with_reducible apply as_app | with_reducible apply as_take | with_reducible apply as_drop | with_reducible apply as_cut | with_reducible apply as_bef | with_reducible apply as_beh | with_reducible apply as_low | with_reducible apply as_mul)); done)); (focus ((repeat (first | assumption | with_reducible exact tl_nil | with_reducible apply tl_cons | with_reducible apply tl_app | with_reducible apply tl_take | with_reducible apply tl_drop | with_reducible apply tl_cut | with_reducible apply tl_bef | with_reducible apply tl_beh | with_reducible apply tl_map)); done))) | with_reducible apply rp_tup | with_reducible apply rp_lst | with_reducible exact rpl_nil | with_reducible apply rpl_cons)); done))) | ((with_reducible apply r_tupK); rfl; rfl; (focus (repeat (first | with_reducible exact fr_nil | (with_reducible apply fr_cons) | with_reducible exact fz_int | with_reducible exact fz_bl | with_reducible exact fz_non | with_reducible exact fz_str | with_reducible exact fz_tup | with_reducible exact fz_lst | with_reducible exact fz_dic | with_reducible exact fz_ty | with_reducible exact fz_atm | (with_reducible apply fz_id; assumption; assumption) | rfl)))) | ((with_reducible apply r_lstK); rfl; rfl; (focus (repeat (first | with_reducible exact fr_nil | (with_reducible apply fr_cons) | with_reducible exact fz_int | with_reducible exact fz_bl | with_reducible exact fz_non | with_reducible exact fz_str | with_reducible exact fz_tup | with_reducible exact fz_lst | with_reducible exact fz_dic | with_reducible exact fz_ty | with_reducible exact fz_atm | (with_reducible apply fz_id; assumption; assumption) | rfl)))) | ((with_reducible apply r_lmK); rfl; (focus (repeat (first | with_reducible exact fr_nil | (with_reducible apply fr_cons) | with_reducible exact fz_int | with_reducible exact fz_bl | with_reducible exact fz_non | with_reducible exact fz_str | with_reducible exact fz_tup | with_reducible exact fz_lst | with_reducible exact fz_dic | with_reducible exact fz_ty | with_reducible exact fz_atm | (with_reducible apply fz_id; assumption; assumption) | rfl)))) | ((with_reducible apply r_lendT); rfl; (try dsimp only [List.set_cons_zero, List.set_cons_succ])) | ((with_reducible apply r_lendFL); rfl; (try dsimp only [List.set_cons_zero, List.set_cons_succ])) | ((with_reducible apply r_lendFD); rfl; (try dsimp only [List.set_cons_zero, List.set_cons_succ])) | ((with_reducible apply r_own); (focus (repeat (first | with_reducible exact own_nil | (apply own_consN; rfl) | (apply own_consV; rfl; (first | rfl | assumption)))))) | ((with_reducible apply r_lcK); rfl; (focus (first | with_reducible exact fz_int | with_reducible exact fz_bl | with_reducible exact fz_non | with_reducible exact fz_str | with_reducible exact fz_tup | (with_reducible apply fz_id; assumption; assumption))); (focus (repeat (first | with_reducible exact cat_nil | (with_reducible apply cat_cons)))); (try dsimp only [wb, wipeE, List.set_cons_zero, List.set_cons_succ])) | ((with_reducible apply r_anyK); rfl) | ((with_reducible apply r_fld); (first | decide | simp); rfl; rfl) | ((with_reducible apply r_isC); rfl) | ((with_reducible apply r_ek); (try dsimp only [wb, wipeE, unwipe, List.set_cons_zero, List.set_cons_succ, List.getD_cons_zero, List.getD_cons_succ])) | (dsimp only [wb, wipeE, unwipe, List.set_cons_zero, List.set_cons_succ, List.getD_cons_zero, List.getD_cons_succ])))); (try (focus assumption))))
/-! ### drawing -/
theorem x__law_begin {ns : List Int} {Qe : Exc → Qv.Env → Prop} {Qr : Val → Qv.Env → Prop} (hl : ns.length ≤ 63) (k : ∀ v, Dr 0 v → Qr v [none]) : fsp__law_begin [.lst false (ns.map .int)] Qe Qr := by
  apply e__law_begin
  unfold p__law_begin
  get_elem_tactic_extensible
  apply r_addL
  · rw [List.length_map, sizeLine_eq]
    show ns.length + 1 ≤ _
    omega
  get_elem_tactic_extensible
  refine r_dispK (ks' := dk) (xs' := [.lst false ((ns ++ [0]).map .int), .int 0, .int 0, .int 0]) rfl rfl rfl ?_ ?_
  · show dispL [] [] dk _ = _
    rw [dr_disp]
    simp [freeze, freezeL]
  · focus (first | ((with_reducible refine Sx.h ?_)) | ((with_reducible apply r_iteT); rfl) | ((with_reducible apply r_iteF); rfl) | ((with_reducible apply r_var); rfl; assumption) | ((with_reducible apply r_varO); rfl; assumption) | ((with_reducible apply r_modI); omega) | ((with_reducible apply r_fdivI); (apply cdiv <;> omega)) | ((with_reducible apply r_mulI); (apply cmul <;> omega)) | ((with_reducible apply r_powI); exact ⟨by decide, by decide, by decide⟩) | ((with_reducible apply r_ixL); rfl) | ((with_reducible apply r_ixT); rfl) | ((with_reducible apply r_sdA); rfl; rfl; (try dsimp only [List.set_cons_zero, List.set_cons_succ])) | ((with_reducible apply r_sdL); rfl; rfl; (try dsimp only [List.set_cons_zero, List.set_cons_succ])) | ((with_reducible apply r_sdU); rfl; rfl; (try dsimp only [List.set_cons_zero, List.set_cons_succ])) | ((with_reducible apply r_isi); rfl; exact isT_int _) | ((with_reducible apply r_isi); rfl; exact isT_bool _) | ((with_reducible apply r_isi); rfl; exact isT_str _) | ((with_reducible apply r_isi); rfl; exact isT_tuple _) | ((with_reducible apply r_isi); rfl; exact isT_list _) | ((with_reducible apply r_escL); rfl; (try dsimp only [List.set_cons_zero, List.set_cons_succ])) | ((with_reducible apply r_escD); rfl; (try dsimp only [List.set_cons_zero, List.set_cons_succ])) | ((with_reducible apply r_tu); rfl; rfl; trivial) | ((with_reducible apply r_addX); (focus ((repeat (first | assumption | with_reducible exact tl_nil | with_reducible apply tl_cons | with_reducible apply tl_app | with_reducible apply tl_take | with_reducible apply tl_drop | with_reducible apply tl_cut | with_reducible apply tl_bef | with_reducible apply tl_beh | with_reducible apply tl_map)); done)); (focus ((repeat (first | assumption | with_reducible exact tl_nil | with_reducible apply tl_cons | with_reducible apply tl_app | with_reducible apply tl_take | with_reducible apply tl_drop | with_reducible apply tl_cut | with_reducible apply tl_bef | with_reducible apply tl_beh | with_reducible apply tl_map)); done)); rfl) | ((with_reducible apply r_lenX); (focus ((repeat (first | assumption | with_reducible exact tl_nil | with_reducible apply tl_cons | with_reducible apply tl_app | with_reducible apply tl_take | with_reducible apply tl_drop | with_reducible apply tl_cut | with_reducible apply tl_bef | with_reducible apply tl_beh | with_reducible apply tl_map)); done)); rfl) | ((with_reducible apply r_slXt); rfl; (focus ((repeat (first | assumption | with_reducible exact tl_nil | with_reducible apply tl_cons | with_reducible apply tl_app | with_reducible apply tl_take | with_reducible apply tl_drop | with_reducible apply tl_cut | with_reducible apply tl_bef | with_reducible apply tl_beh | with_reducible apply tl_map)); done)); rfl) | ((with_reducible apply r_slXd); rfl; (focus ((repeat (first | assumption | with_reducible exact tl_nil | with_reducible apply tl_cons | with_reducible apply tl_app | with_reducible apply tl_take | with_reducible apply tl_drop | with_reducible apply tl_cut | with_reducible apply tl_bef | with_reducible apply tl_beh | with_reducible apply tl_map)); done)); rfl) | ((with_reducible apply r_slX); rfl; (focus ((repeat (first | assumption | with_reducible exact tl_nil | with_reducible apply tl_cons | with_reducible apply tl_app | with_reducible apply tl_take | with_reducible apply tl_drop | with_reducible apply tl_cut | with_reducible apply tl_bef | with_reducible apply tl_beh | with_reducible apply tl_map)); done)); rfl) | ((with_reducible apply r_eqX); (focus ((repeat (first | assumption | with_reducible exact as_nil | ((with_reducible apply as_cons); decide) | with_reducible apply as_app | with_reducible apply as_take | with_reducible apply as_drop | with_reducible apply as_cut | with_reducible apply as_bef | with_reducible apply as_beh | with_reducible apply as_low | with_reducible apply as_mul)); done)); (focus ((repeat (first | assumption | with_reducible exact as_nil | ((with_reducible apply as_cons); decide) | with_reducible apply as_app | with_reducible apply as_take | with_reducible apply as_drop | with_reducible apply as_cut | with_reducible apply as_bef | with_reducible apply as_beh | with_reducible apply as_low | with_reducible apply as_mul)); done))) | ((with_reducible apply r_neX); (focus ((repeat (first | assumption | with_reducible exact as_nil | ((with_reducible apply as_cons); decide) | with_reducible apply as_app | with_reducible apply as_take | with_reducible apply as_drop | with_reducible apply as_cut | with_reducible apply as_bef | with_reducible apply as_beh | with_reducible apply as_low | with_reducible apply as_mul)); done)); (focus ((repeat (first | assumption | with_reducible exact as_nil | ((with_reducible apply as_cons); decide) | with_reducible apply as_app | with_reducible apply as_take | with_reducible apply as_drop | with_reducible apply as_cut | with_reducible apply as_bef | with_reducible apply as_beh | with_reducible apply as_low | with_reducible apply as_mul)); done))) | ((with_reducible apply r_slT); rfl; (focus (apply cutN; rfl; rfl; (focus ((repeat (first | exact dr_zero | exact dr_nil | apply dr_succ)); done)); (focus ((repeat (first | exact tk_zero | exact tk_nil | apply tk_succ)); done))))) | ((with_reducible apply r_slL); rfl; (focus (apply cutN; rfl; rfl; (focus ((repeat (first | exact dr_zero | exact dr_nil | apply dr_succ)); done)); (focus ((repeat (first | exact tk_zero | exact tk_nil | apply tk_succ)); done))))) | ((with_reducible apply r_slLt); rfl) | ((with_reducible apply r_slLd); rfl) | ((with_reducible apply r_slT); rfl; rfl) | ((with_reducible apply r_slL); rfl; rfl) | ((with_reducible apply r_split); (focus ((repeat (first | assumption | with_reducible exact tl_nil | with_reducible apply tl_cons | with_reducible apply tl_app | with_reducible apply tl_take | with_reducible apply tl_drop | with_reducible apply tl_cut | with_reducible apply tl_bef | with_reducible apply tl_beh | with_reducible apply tl_map)); done)); rfl; rfl) | ((with_reducible apply r_part); (focus ((repeat (first | assumption | with_reducible exact tl_nil | with_reducible apply tl_cons | with_reducible apply tl_app | with_reducible apply tl_take | with_reducible apply tl_drop | with_reducible apply tl_cut | with_reducible apply tl_bef | with_reducible apply tl_beh | with_reducible apply tl_map)); done)); rfl) | ((with_reducible apply r_reprX); (focus ((repeat (first | assumption | with_reducible exact as_nil | ((with_reducible apply as_cons); decide) | with_reducible apply as_app | with_reducible apply as_take | with_reducible apply as_drop | with_reducible apply as_cut | with_reducible apply as_bef | with_reducible apply as_beh | with_reducible apply as_low | with_reducible apply as_mul)); done)); (focus ((repeat (first | assumption | with_reducible exact tl_nil | with_reducible apply tl_cons | with_reducible apply tl_app | with_reducible apply tl_take | with_reducible apply tl_drop | with_reducible apply tl_cut | with_reducible apply tl_bef | with_reducible apply tl_beh | with_reducible apply tl_map)); done)); rfl) | ((with_reducible apply r_reprV); (focus ((repeat (first | assumption | with_reducible exact rp_non | with_reducible exact rp_bl | ((with_reducible apply rp_int); omega) | ((with_reducible apply rp_str); (focus ((repeat (first | assumption | with_reducible exact as_nil | ((with_reducible apply as_cons); decide) | with_reducible apply as_app | with_reducible apply as_take | with_reducible apply as_drop | with_reducible apply as_cut | with_reducible apply as_bef | with_reducible apply as_beh | with_reducible apply as_low | with_reducible apply as_mul)); done)); (focus ((repeat (first | assumption | with_reducible exact tl_nil | with_reducible apply tl_cons | with_reducible apply tl_app | with_reducible apply tl_take | with_reducible apply tl_drop | with_reducible apply tl_cut | with_reducible apply tl_bef | with_reducible apply tl_beh | with_reducible apply tl_map)); done))) | with_reducible apply rp_tup | with_reducible apply rp_lst | with_reducible exact rpl_nil | with_reducible apply rpl_cons)); done)); rfl; rfl) | ((with_reducible apply r_reprV); assumption; assumption; assumption) | ((with_reducible apply r_reprD); (focus ((repeat (first | assumption | with_reducible exact rx_dic | with_reducible exact rxs_nil | with_reducible apply rxs_cons | with_reducible apply rx_tup | with_reducible apply rx_lst | ((with_reducible apply RPv.x); (focus ((repeat (first | assumption | with_reducible exact rp_non | with_reducible exact rp_bl | ((with_reducible apply rp_int); omega) | ((with_reducible apply rp_str); (focus ((repeat (first | assumption | with_reducible exact as_nil | ((with_reducible apply as_cons); decide) | with_reducible apply as_app | with_reducible apply as_take | with_reducible apply as_drop | with_reducible apply as_cut | with_reducible apply as_bef | with_reducible apply as_beh | with_reducible apply as_low | with_reducible apply as_mul)); done)); (focus ((repeat (first | assumption | with_reducible exact tl_nil | with_reducible apply tl_cons | with_reducible apply tl_app | with_reducible apply tl_take | with_reducible apply tl_drop | with_reducible apply tl_cut | with_reducible apply tl_bef | with_reducible apply tl_beh | with_reducible apply tl_map)); done))) | with_reducible apply rp_tup | with_reducible apply rp_lst | with_reducible exact rpl_nil | with_reducible apply rpl_cons)); done))))); done)); rfl; rfl) | ((with_reducible apply r_eqRx); (focus ((repeat (first | assumption | with_reducible exact rx_dic | with_reducible exact rxs_nil | with_reducible apply rxs_cons | with_reducible apply rx_tup | with_reducible apply rx_lst | ((with_reducible apply RPv.x); (focus ((repeat (first | assumption | with_reducible exact rp_non | with_reducible exact rp_bl | ((with_reducible apply rp_int); omega) | ((with_reducible apply rp_str); (focus ((repeat (first | assumption | with_reducible exact as_nil | ((with_reducible apply as_cons); decide) | with_reducible apply as_app | with_reducible apply as_take | with_reducible apply as_drop | with_reducible apply as_cut | with_reducible apply as_bef | with_reducible apply as_beh | with_reducible apply as_low | with_reducible apply as_mul)); done)); (focus ((repeat (first | assumption | with_reducible exact tl_nil | with_reducible apply tl_cons | with_reducible apply tl_app | with_reducible apply tl_take | with_reducible apply tl_drop | with_reducible apply tl_cut | with_reducible apply tl_bef | with_reducible apply tl_beh | with_reducible apply tl_map)); done))) | with_reducible apply rp_tup | with_reducible apply rp_lst | with_reducible exact rpl_nil | with_reducible apply rpl_cons)); done))))); done))) | ((with_reducible apply r_neRx); (focus ((repeat (first | assumption | with_reducible exact rx_dic | with_reducible exact rxs_nil | with_reducible apply rxs_cons | with_reducible apply rx_tup | with_reducible apply rx_lst | ((with_reducible apply RPv.x); (focus ((repeat (first | assumption | with_reducible exact rp_non | with_reducible exact rp_bl | ((with_reducible apply rp_int); omega) | ((with_reducible apply rp_str); (focus ((repeat (first | assumption | with_reducible exact as_nil | ((with_reducible apply as_cons); decide) | with_reducible apply as_app | with_reducible apply as_take | with_reducible apply as_drop | with_reducible apply as_cut | with_reducible apply as_bef | with_reducible apply as_beh | with_reducible apply as_low | with_reducible apply as_mul)); done)); (focus ((repeat (first | assumption | with_reducible exact tl_nil | with_reducible apply tl_cons | with_reducible apply tl_app | with_reducible apply tl_take | with_reducible apply tl_drop | with_reducible apply tl_cut | with_reducible apply tl_bef | with_reducible apply tl_beh | with_reducible apply tl_map)); done))) | with_reducible apply rp_tup | with_reducible apply rp_lst | with_reducible exact rpl_nil | with_reducible apply rpl_cons)); done))))); done))) | ((with_reducible apply r_eqRp); (focus ((repeat (first | assumption | with_reducible exact rp_non | with_reducible exact rp_bl | ((with_reducible apply rp_int); omega) | ((with_reducible apply rp_str); (focus ((repeat (first | assumption | with_reducible exact as_nil | ((with_reducible apply as_cons); decide) | with_reducible apply as_app | with_reducible apply as_take | with_reducible apply as_drop | with_reducible apply as_cut | with_reducible apply as_bef | with_reducible apply as_beh | with_reducible apply as_low | with_reducible apply as_mul)); done)); (focus ((repeat (first | assumption | with_reducible exact tl_nil | with_reducible apply tl_cons | with_reducible apply tl_app | with_reducible apply tl_take | with_reducible apply tl_drop | with_reducible apply tl_cut | with_reducible apply tl_bef | with_reducible apply tl_beh | with_reducible apply tl_map)); done))) | with_reducible apply rp_tup | with_reducible apply rp_lst | with_reducible exact rpl_nil | with_reducible apply rpl_cons)); done))) | ((with_reducible apply r_neRp); (focus ((repeat (first | assumption | with_reducible exact rp_non | with_reducible exact rp_bl | ((with_reducible apply rp_int); omega) | ((with_reducible apply rp_str); (focus ((repeat (first | assumption | with_reducible exact as_nil | ((with_reducible apply as_cons); decide) | with_reducible apply as_app | with_reducible apply as_take | with_reducible apply as_drop | with_reducible apply as_cut | with_reducible apply as_bef | with_reducible apply as_beh | with_reducible apply as_low | with_reducible apply as_mul)); done)); (focus ((repeat (first | assumption | with_reducible exact tl_nil | with_reducible apply tl_cons | with_reducible apply tl_app | with_reducible apply tl_take | with_reducible apply tl_drop | with_reducible apply tl_cut | with_reducible apply tl_bef | with_reducible apply tl_beh | with_reducible apply tl_map)); done))) | with_reducible apply rp_tup | with_reducible apply rp_lst | with_reducible exact rpl_nil | with_reducible apply rpl_cons)); done))) | ((with_reducible apply r_tupK); rfl; rfl; (focus (repeat (first | with_reducible exact fr_nil | (with_reducible apply fr_cons) | with_reducible exact fz_int | with_reducible exact fz_bl | with_reducible exact fz_non | with_reducible exact fz_str | with_reducible exact fz_tup | with_reducible exact fz_lst | with_reducible exact fz_dic | with_reducible exact fz_ty | with_reducible exact fz_atm | (with_reducible apply fz_id; assumption; assumption) | rfl)))) | ((with_reducible apply r_lstK); rfl; rfl; (focus (repeat (first | with_reducible exact fr_nil | (with_reducible apply fr_cons) | with_reducible exact fz_int | with_reducible exact fz_bl | with_reducible exact fz_non | with_reducible exact fz_str | with_reducible exact fz_tup | with_reducible exact fz_lst | with_reducible exact fz_dic | with_reducible exact fz_ty | with_reducible exact fz_atm | (with_reducible apply fz_id; assumption; assumption) | rfl)))) | ((with_reducible apply r_lmK); rfl; (focus (repeat (first | with_reducible exact fr_nil | (with_reducible apply fr_cons) | with_reducible exact fz_int | with_reducible exact fz_bl | with_reducible exact fz_non | with_reducible exact fz_str | with_reducible exact fz_tup | with_reducible exact fz_lst | with_reducible exact fz_dic | with_reducible exact fz_ty | with_reducible exact fz_atm | (with_reducible apply fz_id; assumption; assumption) | rfl)))) | ((with_reducible apply r_lendT); rfl; (try dsimp only [List.set_cons_zero, List.set_cons_succ])) | ((with_reducible apply r_lendFL); rfl; (try dsimp only [List.set_cons_zero, List.set_cons_succ])) | ((with_reducible apply r_lendFD); rfl; (try dsimp only [List.set_cons_zero, List.set_cons_succ])) | ((with_reducible apply r_own); (focus (repeat (first | with_reducible exact own_nil | (apply own_consN; rfl) | (apply own_consV; rfl; (first | rfl | assumption)))))) | ((with_reducible apply r_lcK); rfl; (focus (first | with_reducible exact fz_int | with_reducible exact fz_bl | with_reducible exact fz_non | with_reducible exact fz_str | with_reducible exact fz_tup | (with_reducible apply fz_id; assumption; assumption))); (focus (repeat (first | with_reducible exact cat_nil | (with_reducible apply cat_cons)))); (try dsimp only [wb, wipeE, List.set_cons_zero, List.set_cons_succ])) | ((with_reducible apply r_anyK); rfl) | ((with_reducible apply r_fld); (first | decide | simp); rfl; rfl) | ((with_reducible apply r_isC); rfl) | ((with_reducible apply r_ek); (try dsimp only [wb, wipeE, unwipe, List.set_cons_zero, List.set_cons_succ, List.getD_cons_zero, List.getD_cons_succ])) | (dsimp only [wb, wipeE, unwipe, List.set_cons_zero, List.set_cons_succ, List.getD_cons_zero, List.getD_cons_succ]))
    exact k _ ⟨ns ++ [0], 0, 0, 0, rfl, by simp, by omega, by omega, by omega, by omega, by omega⟩
theorem x__law_mixed {c n : Int} {Qe : Exc → Qv.Env → Prop} {Qr : Val → Qv.Env → Prop} (h0 : 0 ≤ n) (h1 : n ≤ 1000000000000) (k : ∀ r : Int, Qr (.int r) [none, none]) : fsp__law_mixed [.int c, .int n] Qe Qr := by
  apply e__law_mixed
  unfold p__law_mixed
  get_elem_tactic_extensible
  exact k _
theorem x__law_next {m : Nat} {d : Val} {b : Int} {Qe : Exc → Qv.Env → Prop} {Qr : Val → Qv.Env → Prop} (hd : Dr m d) (hm : m < 100000000000) (hb : 0 < b) (hb2 : b ≤ 1267650600228229401496703205376)
    (k : ∀ (r : Int) (d' : Val), 0 ≤ r → r < b → Dr (m + 1) d' → Qr (.int r) [some d', none]) : fsp__law_next [d, .int b] Qe Qr := by
  obtain ⟨cells, a, l, u, rfl, hc, h1, h2, h3, h4, h5⟩ := hd
  have hlen : 0 < cells.length := List.length_pos_iff.mpr hc
  apply e__law_next
  unfold p__law_next
  get_elem_tactic_extensible
  refine r_ite (fun c => ?_) (fun c => ?_)
  · get_elem_tactic_extensible
    exact k _ _ (Int.emod_nonneg _ (by omega)) (Int.emod_lt_of_pos _ hb) ⟨cells, a, l / b, u, rfl, hc, h1, by omega, Int.ediv_nonneg h3 (by omega), h4, by omega⟩
  · get_elem_tactic_extensible
    refine r_modI (by rw [List.length_map]; omega) ?_
    get_elem_tactic_extensible
    obtain ⟨z, hz, hat⟩ := at_map (ns := cells) (z := a % cells.length) (Int.emod_nonneg _ (by omega)) (Int.emod_lt_of_pos _ (by omega))
    rw [List.length_map]
    refine r_ixL hat ?_
    get_elem_tactic_extensible
    refine r_ite (fun c1 => ?_) (fun c1 => ?_)
    · get_elem_tactic_extensible
      refine r_ite (fun c2 => ?_) (fun c2 => ?_)
      · get_elem_tactic_extensible
        refine k _ _ (Int.emod_nonneg _ (by omega)) (Int.emod_lt_of_pos _ hb) ⟨cells, a + 1, z / b, u, rfl, hc, by omega, by omega, Int.ediv_nonneg ?_ (by omega), h4, by omega⟩
        have c3 := of_decide_eq_true c1
        have e : (10 : Int) ^ (18 : Int).toNat = 1000000000000000000 := by decide
        rw [e] at c3
        omega
      · get_elem_tactic_extensible
        apply x__law_mixed (by omega) (by omega)
        intro r1
        get_elem_tactic_extensible
        apply x__law_mixed (by omega) (by omega)
        intro r2
        get_elem_tactic_extensible
        exact k _ _ (Int.emod_nonneg _ (by omega)) (Int.emod_lt_of_pos _ hb) ⟨cells, a + 1, l, u + 1, rfl, hc, by omega, by omega, h3, by omega, by omega⟩
    · get_elem_tactic_extensible
      apply x__law_mixed (by omega) (by omega)
      intro r1
      get_elem_tactic_extensible
      apply x__law_mixed (by omega) (by omega)
      intro r2
      get_elem_tactic_extensible
      exact k _ _ (Int.emod_nonneg _ (by omega)) (Int.emod_lt_of_pos _ hb) ⟨cells, a + 1, l, u + 1, rfl, hc, by omega, by omega, h3, by omega, by omega⟩

end Gw
set_option Elab.async false
set_option linter.all false
set_option maxRecDepth 100000
set_option maxHeartbeats 4000000
set_option synthInstance.maxHeartbeats 4000000
set_option synthInstance.maxSize 100000
namespace Gw
open PySem PySem.Spec L2 Qv
local macro_rules | `(tactic| get_elem_tactic_extensible) => `(tactic| ((repeat (focus (first | ((with_reducible refine Sx.h ?_)) | ((with_reducible apply r_iteT); rfl) | ((with_reducible apply r_iteF); rfl) | ((with_reducible apply r_var); rfl; assumption) | ((with_reducible apply r_varO); rfl; assumption) | ((with_reducible apply r_modI); omega) | ((with_reducible apply r_fdivI); (apply cdiv <;> omega)) | ((with_reducible apply r_mulI); (apply cmul <;> omega)) | ((with_reducible apply r_powI); exact ⟨by decide, by decide, by decide⟩) | ((with_reducible apply r_ixL); rfl) | ((with_reducible apply r_ixT); rfl) | ((with_reducible apply r_sdA); rfl; rfl; (try dsimp only [List.set_cons_zero, List.set_cons_succ])) | ((with_reducible apply r_sdL); rfl; rfl; (try dsimp only [List.set_cons_zero, List.set_cons_succ])) | ((with_reducible apply r_sdU); rfl; rfl; (try dsimp only [List.set_cons_zero, List.set_cons_succ])) | ((with_reducible apply r_isi); rfl; exact isT_int _) | ((with_reducible apply r_isi); rfl; exact isT_bool _) | ((with_reducible apply r_isi); rfl; exact isT_str _) | ((with_reducible apply r_isi); rfl; exact isT_tuple _) | ((with_reducible apply r_isi); rfl; exact isT_list _) | ((with_reducible apply r_escL); rfl; (try dsimp only [List.set_cons_zero, List.set_cons_succ])) | ((with_reducible apply r_escD); rfl; (try dsimp only [List.set_cons_zero, List.set_cons_succ])) | ((with_reducible apply r_tu); rfl; rfl; trivial) | ((with_reducible apply r_addX); (focus ((repeat (first | assumption | with_reducible exact tl_nil | with_reducible apply tl_cons | with_reducible apply tl_app | with_reducible apply tl_take | with_reducible apply tl_drop | with_reducible apply tl_cut | with_reducible apply tl_bef | with_reducible apply tl_beh | with_reducible apply tl_map)); done)); (focus ((repeat (first | assumption | with_reducible exact tl_nil | with_reducible apply tl_cons | with_reducible apply tl_app | with_reducible apply tl_take | with_reducible apply tl_drop | with_reducible apply tl_cut | with_reducible apply tl_bef | with_reducible apply tl_beh | with_reducible apply tl_map)); done)); rfl) | ((with_reducible apply r_lenX); (focus ((repeat (first | assumption | with_reducible exact tl_nil | with_reducible apply tl_cons | with_reducible apply tl_app | with_reducible apply tl_take | with_reducible apply tl_drop | with_reducible apply tl_cut | with_reducible apply tl_bef | with_reducible apply tl_beh | with_reducible apply tl_map)); done)); rfl) | ((with_reducible apply r_slXt); rfl; (focus ((repeat (first | assumption | with_reducible exact tl_nil | with_reducible apply tl_cons | with_reducible apply tl_app | with_reducible apply tl_take | with_reducible apply tl_drop | with_reducible apply tl_cut | with_reducible apply tl_bef | with_reducible apply tl_beh | with_reducible apply tl_map)); done)); rfl) | ((with_reducible apply r_slXd); rfl; (focus ((repeat (first | assumption | with_reducible exact tl_nil | with_reducible apply tl_cons | with_reducible apply tl_app | with_reducible apply tl_take | with_reducible apply tl_drop | with_reducible apply tl_cut | with_reducible apply tl_bef | with_reducible apply tl_beh | with_reducible apply tl_map)); done)); rfl) | ((with_reducible apply r_slX); rfl; (focus ((repeat (first | assumption | with_reducible exact tl_nil | with_reducible apply tl_cons | with_reducible apply tl_app | with_reducible apply tl_take | with_reducible apply tl_drop | with_reducible apply tl_cut | with_reducible apply tl_bef | with_reducible apply tl_beh | with_reducible apply tl_map)); done)); rfl) | ((with_reducible apply r_eqX); (focus ((repeat (first | assumption | with_reducible exact as_nil | ((with_reducible apply as_cons); decide) | with_reducible apply as_app | with_reducible apply as_take | with_reducible apply as_drop | with_reducible apply as_cut | with_reducible apply as_bef | with_reducible apply as_beh | with_reducible apply as_low | with_reducible apply as_mul)); done)); (focus ((repeat (first | assumption | with_reducible exact as_nil | ((with_reducible apply as_cons); decide) | with_reducible apply as_app | with_reducible apply as_take | with_reducible apply as_drop | with_reducible apply as_cut | with_reducible apply as_bef | with_reducible apply as_beh | with_reducible apply as_low | with_reducible apply as_mul)); done))) | ((with_reducible apply r_neX); (focus ((repeat (first | assumption | with_reducible exact as_nil | ((with_reducible apply as_cons); decide) | with_reducible apply as_app | with_reducible apply as_take | with_reducible apply as_drop | with_reducible apply as_cut | with_reducible apply as_bef | with_reducible apply as_beh | with_reducible apply as_low | with_reducible apply as_mul)); done)); (focus ((repeat (first | assumption | with_reducible exact as_nil | ((with_reducible apply as_cons); decide) | with_reducible apply as_app | with_reducible apply as_take | with_reducible apply as_drop | with_reducible apply as_cut | with_reducible apply as_bef | with_reducible apply as_beh | with_reducible apply as_low | with_reducible apply as_mul)); done))) | ((with_reducible apply r_slT); rfl; (focus (apply cutN; rfl; rfl; (focus ((repeat (first | exact dr_zero | exact dr_nil | apply dr_succ)); done)); (focus ((repeat (first | exact tk_zero | exact tk_nil | apply tk_succ)); done))))) | ((with_reducible apply r_slL); rfl; (focus (apply cutN; rfl; rfl; (focus ((repeat (first | exact dr_zero | exact dr_nil | apply dr_succ)); done)); (focus ((repeat (first | exact tk_zero | exact tk_nil | apply tk_succ)); done))))) | ((with_reducible apply r_slLt); rfl) | ((with_reducible apply r_slLd); rfl) | ((with_reducible apply r_slT); rfl; rfl) | ((with_reducible apply r_slL); rfl; rfl) | ((with_reducible apply r_split); (focus ((repeat (first | assumption | with_reducible exact tl_nil | with_reducible apply tl_cons | with_reducible apply tl_app | with_reducible apply tl_take | with_reducible apply tl_drop | with_reducible apply tl_cut | with_reducible apply tl_bef | with_reducible apply tl_beh | with_reducible apply tl_map)); done)); rfl; rfl) | ((with_reducible apply r_part); (focus ((repeat (first | assumption | with_reducible exact tl_nil | with_reducible apply tl_cons | with_reducible apply tl_app | with_reducible apply tl_take | with_reducible apply tl_drop | with_reducible apply tl_cut | with_reducible apply tl_bef | with_reducible apply tl_beh | with_reducible apply tl_map)); done)); rfl) | ((with_reducible apply r_reprX); (focus ((repeat (first | assumption | with_reducible exact as_nil | ((with_reducible apply as_cons); decide) | with_reducible apply as_app | with_reducible apply as_take | with_reducible apply as_drop | with_reducible apply as_cut | with_reducible apply as_bef | with_reducible apply as_beh | with_reducible apply as_low | with_reducible apply as_mul)); done)); (focus ((repeat (first | assumption | with_reducible exact tl_nil | with_reducible apply tl_cons | with_reducible apply tl_app | with_reducible apply tl_take | with_reducible apply tl_drop | with_reducible apply tl_cut | with_reducible apply tl_bef | with_reducible apply tl_beh | with_reducible apply tl_map)); done)); rfl) | ((with_reducible apply r_reprV); (focus ((repeat (first | assumption | with_reducible exact rp_non | with_reducible exact rp_bl | ((with_reducible apply rp_int); omega) | ((with_reducible apply rp_str); (focus ((repeat (first | assumption | with_reducible exact as_nil | ((with_reducible apply as_cons); decide) | with_reducible apply as_app | with_reducible apply as_take | with_reducible apply as_drop | with_reducible apply as_cut | with_reducible apply as_bef | with_reducible apply as_beh | with_reducible apply as_low | with_reducible apply as_mul)); done)); (focus ((repeat (first | assumption | with_reducible exact tl_nil | with_reducible apply tl_cons | with_reducible apply tl_app | with_reducible apply tl_take | with_reducible apply tl_drop | with_reducible apply tl_cut | with_reducible apply tl_bef | with_reducible apply tl_beh | with_reducible apply tl_map)); done))) | with_reducible apply rp_tup | with_reducible apply rp_lst | with_reducible exact rpl_nil | with_reducible apply rpl_cons)); done)); rfl; rfl) | ((with_reducible apply r_reprV); assumption; assumption; assumption) | ((with_reducible apply r_reprD); (focus ((repeat (first | assumption | with_reducible exact rx_dic | with_reducible exact rxs_nil | with_reducible apply rxs_cons | with_reducible apply rx_tup | with_reducible apply rx_lst | ((with_reducible apply RPv.x); (focus ((repeat (first | assumption | with_reducible exact rp_non | with_reducible exact rp_bl | ((with_reducible apply rp_int); omega) | ((with_reducible apply rp_str); (focus ((repeat (first | assumption | with_reducible exact as_nil | ((with_reducible apply as_cons); decide) | with_reducible apply as_app | with_reducible apply as_take | with_reducible apply as_drop | with_reducible apply as_cut | with_reducible apply as_bef | with_reducible apply as_beh | with_reducible apply as_low | with_reducible apply as_mul)); done)); (focus ((repeat (first | assumption | with_reducible exact tl_nil | with_reducible apply tl_cons | with_reducible apply tl_app | with_reducible apply tl_take | with_reducible apply tl_drop | with_reducible apply tl_cut | with_reducible apply tl_bef | with_reducible apply tl_beh | with_reducible apply tl_map)); done))) | with_reducible apply rp_tup | with_reducible apply rp_lst | with_reducible exact rpl_nil | with_reducible apply rpl_cons)); done))))); done)); rfl; rfl) | ((with_reducible apply r_eqRx); (focus ((repeat (first | assumption | with_reducible exact rx_dic | with_reducible exact rxs_nil | with_reducible apply rxs_cons | with_reducible apply rx_tup | with_reducible apply rx_lst | ((with_reducible apply RPv.x); (focus ((repeat (first | assumption | with_reducible exact rp_non | with_reducible exact rp_bl | ((with_reducible apply rp_int); omega) | ((with_reducible apply rp_str); (focus ((repeat (first | assumption | with_reducible exact as_nil | ((with_reducible apply as_cons); decide) | with_reducible apply as_app | with_reducible apply as_take | with_reducible apply as_drop | with_reducible apply as_cut | with_reducible apply as_bef | with_reducible apply as_beh | with_reducible apply as_low | with_reducible apply as_mul)); done)); (focus ((repeat (first | assumption | with_reducible exact tl_nil | with_reducible apply tl_cons | with_reducible apply tl_app | with_reducible apply tl_take | with_reducible apply tl_drop | with_reducible apply tl_cut | with_reducible apply tl_bef | with_reducible apply tl_beh | with_reducible apply tl_map)); done))) | with_reducible apply rp_tup | with_reducible apply rp_lst | with_reducible exact rpl_nil | with_reducible apply rpl_cons)); done))))); done))) | ((with_reducible apply r_neRx); (focus ((repeat (first | assumption | with_reducible exact rx_dic | with_reducible exact rxs_nil | with_reducible apply rxs_cons | with_reducible apply rx_tup | with_reducible apply rx_lst | ((with_reducible apply RPv.x); (focus ((repeat (first | assumption | with_reducible exact rp_non | with_reducible exact rp_bl | ((with_reducible apply rp_int); omega) | ((with_reducible apply rp_str); (focus ((repeat (first | assumption | with_reducible exact as_nil | ((with_reducible apply as_cons); decide) | with_reducible apply as_app | with_reducible apply as_take | with_reducible apply as_drop | with_reducible apply as_cut | with_reducible apply as_bef | with_reducible apply as_beh | with_reducible apply as_low | with_reducible apply as_mul)); done)); (focus ((repeat (first | assumption | with_reducible exact tl_nil | with_reducible apply tl_cons | with_reducible apply tl_app | with_reducible apply tl_take | with_reducible apply tl_drop | with_reducible apply tl_cut | with_reducible apply tl_bef | with_reducible apply tl_beh | with_reducible apply tl_map)); done))) | with_reducible apply rp_tup | with_reducible apply rp_lst | with_reducible exact rpl_nil | with_reducible apply rpl_cons)); done))))); done))) | ((with_reducible apply r_eqRp); (focus ((repeat (first | assumption | with_reducible exact rp_non | with_reducible exact rp_bl | ((with_reducible apply rp_int); omega) | ((with_reducible apply rp_str); (focus ((repeat (first | assumption | with_reducible exact as_nil | ((with_reducible apply as_cons); decide) | with_reducible apply as_app | with_reducible apply as_take | with_reducible apply as_drop | with_reducible apply as_cut | with_reducible apply as_bef | with_reducible apply as_beh | with_reducible apply as_low | with_reducible apply as_mul)); done)); (focus ((repeat (first | assumption | with_reducible exact tl_nil | with_reducible apply tl_cons | with_reducible apply tl_app | with_reducible apply tl_take | with_reducible apply tl_drop | with_reducible apply tl_cut | with_reducible apply tl_bef | with_reducible apply tl_beh | with_reducible apply tl_map)); done))) | with_reducible apply rp_tup | with_reducible apply rp_lst | with_reducible exact rpl_nil | with_reducible apply rpl_cons)); done))) | ((with_reducible apply r_neRp); (focus ((repeat (first | assumption | with_reducible exact rp_non | with_reducible exact rp_bl | ((with_reducible apply rp_int); omega) | ((with_reducible apply rp_str); (focus ((repeat (first | assumption | with_reducible exact as_nil | ((with_reducible apply as_cons); decide) | with_reducible apply as_app | with_reducible apply as_take | with_reducible apply as_drop | with_reducible apply as_cut | with_reducible apply as_bef | with_reducible apply as_beh | with_reducible apply as_low | with_reducible apply as_mul)); done)); (focus ((repeat (first | assumption | with_reducible exact tl_nil | with_reducible apply tl_cons | with_reducible apply tl_app | with_reducible apply tl_take | with_reducible apply tl_drop | with_reducible apply tl_cut | with_reducible apply tl_bef | with_reducible apply tl_beh | with_reducible apply tl_map)); done))) | with_reducible apply rp_tup | with_reducible apply rp_lst | with_reducible exact rpl_nil | with_reducible apply rpl_cons)); done))) | ((with_reducible apply r_tupK); rfl; rfl; (focus (repeat (first | with_reducible exact fr_nil | (with_reducible apply fr_cons) | with_reducible exact fz_int | with_reducible exact fz_bl | with_reducible exact fz_non | with_reducible exact fz_str | with_reducible exact fz_tup | with_reducible exact fz_lst | with_reducible exact fz_dic | with_reducible exact fz_ty | with_reducible exact fz_atm | (with_reducible apply fz_id; assumption; assumption) | rfl)))) | ((with_reducible apply r_lstK); rfl; rfl; (focus (repeat (first | with_reducible exact fr_nil | (with_reducible apply fr_cons) | with_reducible exact fz_int | with_reducible exact fz_bl | with_reducible exact fz_non | with_reducible exact fz_str | with_reducible exact fz_tup | with_reducible exact fz_lst | with_reducible exact fz_dic | with_reducible exact fz_ty | with_reducible exact fz_atm | (with_reducible apply fz_id; assumption; assumption) | rfl)))) | ((with_reducible apply r_lmK); rfl; (focus (repeat (first | with_reducible exact fr_nil | (with_reducible apply fr_cons) | with_reducible exact fz_int | with_reducible exact fz_bl | with_reducible exact fz_non | with_reducible exact fz_str | with_reducible exact fz_tup | with_reducible exact fz_lst | with_reducible exact fz_dic | with_reducible exact fz_ty | with_reducible exact fz_atm | (with_reducible apply fz_id; assumption; assumption) | rfl)))) | ((with_reducible apply r_lendT); rfl; (try dsimp only [List.set_cons_zero, List.set_cons_succ])) | ((with_reducible apply r_lendFL); rfl; (try dsimp only [List.set_cons_zero, List.set_cons_succ])) | ((with_reducible apply r_lendFD); rfl; (try dsimp only [List.set_cons_zero, List.set_cons_succ])) | ((with_reducible apply r_own); (focus (repeat (first | with_reducible exact own_nil | (apply own_consN; rfl) | (apply own_consV; rfl; (first | rfl | assumption)))))) | ((with_reducible apply r_lcK); rfl; (focus (first | with_reducible exact fz_int | with_reducible exact fz_bl | with_reducible exact fz_non | with_reducible exact fz_str | with_reducible exact fz_tup | (with_reducible apply fz_id; assumption; assumption))); (focus (repeat (first | with_reducible exact cat_nil | (with_reducible apply cat_cons)))); (try dsimp only [wb, wipeE, List.set_cons_zero, List.set_cons_succ])) | ((with_reducible apply r_anyK); rfl) | ((with_reducible apply r_fld); (first | decide | simp); rfl; rfl) | ((with_reducible apply r_isC); rfl) | ((with_reducible apply r_ek); (try dsimp only [wb, wipeE, unwipe, List.set_cons_zero, List.set_cons_succ, List.getD_cons_zero, List.getD_cons_succ])) | (dsimp only [wb, wipeE, unwipe, List.set_cons_zero, List.set_cons_succ, List.getD_cons_zero, List.getD_cons_succ])))); (try (focus assumption))))
/-! ### the classes -/
def nmL : List Str := ["BadMoment", "BadZone", "BadDate", "BadAddress", "BadThing", "BadDevice", "NoEntry", "Taken", "NoItem", "BadFolder", "BadVector", "BadEntry", "BadNumber", "BadWorld", "BadTrouble", "BadShelf", "NoSighting", "BadLibrary", "BadWindow", "BadOffer", "BadLog", "NoAnswer", "BadBundle", "TooMany", "Torn", "NoNote", "BadQuery", "Gap", "BadPage", "BadText"]
def nm (i : Nat) : Str := nmL.getD i "BadMoment"
theorem find_one {α : Type} {l : List α} {p : α → Bool} {a : α} (ha : a ∈ l) (hp : p a = true) (h : ∀ x ∈ l, p x = true → x = a) : l.find? p = some a := by
  cases q : l.find? p with
  | none => exact absurd hp (by simpa using List.find?_eq_none.mp q a ha)
  | some x => rw [h x (List.mem_of_find?_eq_some q) (List.find?_some q)]
theorem nm_in0 : ∀ i < 30, nm i ∈ istN := by decide +kernel
theorem nm_in (i : Nat) (h : i < 30) : nm i ∈ istN ∧ nm i ∈ ("FeedError" : Str) :: istN := ⟨nm_in0 i h, List.mem_cons_of_mem _ (nm_in0 i h)⟩
theorem fe_in0 : ∀ i < 30, nm i ≠ "FeedError" := by decide +kernel
theorem fe_in : ("FeedError" : Str) ∈ (("FeedError" : Str) :: istN) ∧ ∀ i < 30, nm i ≠ "FeedError" := ⟨List.mem_cons_self, fe_in0⟩
theorem nm_inj : ∀ i < 30, ∀ j < 30, decide (nm i = nm j) = decide (j = i) := by decide +kernel
theorem ist_o {a b : Str} (ha : a ∈ istN) (hb : b ∈ ("FeedError" : Str) :: istN) : istab.o a b = some (decide (a = b) || decide (b = ("FeedError" : Str))) := by
  show ((istN.flatMap fun a => (("FeedError" : Str) :: istN).map fun (b : Str) => (a, b, decide (a = b) || decide (b = ("FeedError" : Str)))).find? fun t => decide (t.1 = a) && decide (t.2.1 = b)).map _ = _
  rw [find_one (a := (a, b, decide (a = b) || decide (b = ("FeedError" : Str))))]
  · rfl
  · exact List.mem_flatMap.mpr ⟨a, ha, List.mem_map.mpr ⟨b, hb, rfl⟩⟩
  · simp
  · intro x hx hp
    obtain ⟨a', _, hx⟩ := List.mem_flatMap.mp hx
    obtain ⟨b', _, rfl⟩ := List.mem_map.mp hx
    simp only [Bool.and_eq_true, decide_eq_true_eq] at hp
    rw [hp.1, hp.2]
theorem ist_u {a : Str} {n : String} {r : Bool} (ha : a ∈ istN) (hr : (n, r) ∈ [("LookupError", false), ("RuntimeError", false), ("ValueError", true)]) : istab.u a n = some r := by
  show ((istN.flatMap fun a => [("LookupError", false), ("RuntimeError", false), ("ValueError", true)].map fun t => (a, t.1, t.2)).find? fun t => decide (t.1 = a) && decide (t.2.1 = n)).map _ = _
  rw [find_one (a := (a, n, r))]
  · rfl
  · refine List.mem_flatMap.mpr ⟨a, ha, ?_⟩
    simp only [List.mem_cons, List.not_mem_nil, or_false, Prod.mk.injEq] at hr
    rcases hr with ⟨rfl, rfl⟩ | ⟨rfl, rfl⟩ | ⟨rfl, rfl⟩ <;> simp
  · simp
  · intro x hx hp
    obtain ⟨a', _, hx⟩ := List.mem_flatMap.mp hx
    simp only [List.map_cons, List.map_nil, List.mem_cons, List.not_mem_nil, or_false] at hx
    simp only [List.mem_cons, List.not_mem_nil, or_false, Prod.mk.injEq] at hr
    simp only [Bool.and_eq_true, decide_eq_true_eq] at hp
    obtain ⟨h1, h2⟩ := hp
    rcases hx with rfl | rfl | rfl <;> rcases hr with ⟨e, rfl⟩ | ⟨e, rfl⟩ | ⟨e, rfl⟩ <;> simp_all
theorem isc_glo {i j : Nat} {ns : List Str} {xs : List Val} (hi : i < 30) (hj : j < 30) : isC istab (.exc (nm i) ns xs) (.glo (nm j)) = some (decide (j = i)) := by
  show (if nm i ∈ istab.exc then istab.o (nm i) (nm j) else none) = _
  rw [if_pos (show nm i ∈ istab.exc from (nm_in i hi).1), ist_o (nm_in i hi).1 (nm_in j hj).2, nm_inj i hi j hj, decide_eq_false (fe_in.2 j hj), Bool.or_false]
theorem isc_fe {i : Nat} {ns : List Str} {xs : List Val} (hi : i < 30) : isC istab (.exc (nm i) ns xs) (.glo "FeedError") = some true := by
  show (if nm i ∈ istab.exc then istab.o (nm i) "FeedError" else none) = _
  rw [if_pos (show nm i ∈ istab.exc from (nm_in i hi).1), ist_o (nm_in i hi).1 fe_in.1]
  simp
theorem isc_ty {i : Nat} {n : String} {r : Bool} {ns : List Str} {xs : List Val} (hi : i < 30) (hr : (n, r) ∈ [("LookupError", false), ("RuntimeError", false), ("ValueError", true)]) : isC istab (.exc (nm i) ns xs) (.ty n) = some r := by
  show (if nm i ∈ istab.exc then istab.u (nm i) n else none) = _
  rw [if_pos (show nm i ∈ istab.exc from (nm_in i hi).1)]
  exact ist_u (nm_in i hi).1 hr
theorem x__law_kinds {i : Nat} {ns : List Str} {xs : List Val} {Qe : Exc → Qv.Env → Prop} {Qr : Val → Qv.Env → Prop} (hi : i < 30) (k : Qr (.lst true ((List.range 30).map fun j => .bl (decide (j = i)))) [none]) : fsp__law_kinds [.exc (nm i) ns xs] Qe Qr := by
  have c0 : ISC istab (.exc (nm i) ns xs) (.glo "BadMoment") (decide (0 = i)) := ⟨isc_glo (j := 0) hi (by decide)⟩
  have c1 : ISC istab (.exc (nm i) ns xs) (.glo "BadZone") (decide (1 = i)) := ⟨isc_glo (j := 1) hi (by decide)⟩
  have c2 : ISC istab (.exc (nm i) ns xs) (.glo "BadDate") (decide (2 = i)) := ⟨isc_glo (j := 2) hi (by decide)⟩
  have c3 : ISC istab (.exc (nm i) ns xs) (.glo "BadAddress") (decide (3 = i)) := ⟨isc_glo (j := 3) hi (by decide)⟩
  have c4 : ISC istab (.exc (nm i) ns xs) (.glo "BadThing") (decide (4 = i)) := ⟨isc_glo (j := 4) hi (by decide)⟩
  have c5 : ISC istab (.exc (nm i) ns xs) (.glo "BadDevice") (decide (5 = i)) := ⟨isc_glo (j := 5) hi (by decide)⟩
  have c6 : ISC istab (.exc (nm i) ns xs) (.glo "NoEntry") (decide (6 = i)) := ⟨isc_glo (j := 6) hi (by decide)⟩
  have c7 : ISC istab (.exc (nm i) ns xs) (.glo "Taken") (decide (7 = i)) := ⟨isc_glo (j := 7) hi (by decide)⟩
  have c8 : ISC istab (.exc (nm i) ns xs) (.glo "NoItem") (decide (8 = i)) := ⟨isc_glo (j := 8) hi (by decide)⟩
  have c9 : ISC istab (.exc (nm i) ns xs) (.glo "BadFolder") (decide (9 = i)) := ⟨isc_glo (j := 9) hi (by decide)⟩
  have c10 : ISC istab (.exc (nm i) ns xs) (.glo "BadVector") (decide (10 = i)) := ⟨isc_glo (j := 10) hi (by decide)⟩
  have c11 : ISC istab (.exc (nm i) ns xs) (.glo "BadEntry") (decide (11 = i)) := ⟨isc_glo (j := 11) hi (by decide)⟩
  have c12 : ISC istab (.exc (nm i) ns xs) (.glo "BadNumber") (decide (12 = i)) := ⟨isc_glo (j := 12) hi (by decide)⟩
  have c13 : ISC istab (.exc (nm i) ns xs) (.glo "BadWorld") (decide (13 = i)) := ⟨isc_glo (j := 13) hi (by decide)⟩
  have c14 : ISC istab (.exc (nm i) ns xs) (.glo "BadTrouble") (decide (14 = i)) := ⟨isc_glo (j := 14) hi (by decide)⟩
  have c15 : ISC istab (.exc (nm i) ns xs) (.glo "BadShelf") (decide (15 = i)) := ⟨isc_glo (j := 15) hi (by decide)⟩
  have c16 : ISC istab (.exc (nm i) ns xs) (.glo "NoSighting") (decide (16 = i)) := ⟨isc_glo (j := 16) hi (by decide)⟩
  have c17 : ISC istab (.exc (nm i) ns xs) (.glo "BadLibrary") (decide (17 = i)) := ⟨isc_glo (j := 17) hi (by decide)⟩
  have c18 : ISC istab (.exc (nm i) ns xs) (.glo "BadWindow") (decide (18 = i)) := ⟨isc_glo (j := 18) hi (by decide)⟩
  have c19 : ISC istab (.exc (nm i) ns xs) (.glo "BadOffer") (decide (19 = i)) := ⟨isc_glo (j := 19) hi (by decide)⟩
  have c20 : ISC istab (.exc (nm i) ns xs) (.glo "BadLog") (decide (20 = i)) := ⟨isc_glo (j := 20) hi (by decide)⟩
  have c21 : ISC istab (.exc (nm i) ns xs) (.glo "NoAnswer") (decide (21 = i)) := ⟨isc_glo (j := 21) hi (by decide)⟩
  have c22 : ISC istab (.exc (nm i) ns xs) (.glo "BadBundle") (decide (22 = i)) := ⟨isc_glo (j := 22) hi (by decide)⟩
  have c23 : ISC istab (.exc (nm i) ns xs) (.glo "TooMany") (decide (23 = i)) := ⟨isc_glo (j := 23) hi (by decide)⟩
  have c24 : ISC istab (.exc (nm i) ns xs) (.glo "Torn") (decide (24 = i)) := ⟨isc_glo (j := 24) hi (by decide)⟩
  have c25 : ISC istab (.exc (nm i) ns xs) (.glo "NoNote") (decide (25 = i)) := ⟨isc_glo (j := 25) hi (by decide)⟩
  have c26 : ISC istab (.exc (nm i) ns xs) (.glo "BadQuery") (decide (26 = i)) := ⟨isc_glo (j := 26) hi (by decide)⟩
  have c27 : ISC istab (.exc (nm i) ns xs) (.glo "Gap") (decide (27 = i)) := ⟨isc_glo (j := 27) hi (by decide)⟩
  have c28 : ISC istab (.exc (nm i) ns xs) (.glo "BadPage") (decide (28 = i)) := ⟨isc_glo (j := 28) hi (by decide)⟩
  have c29 : ISC istab (.exc (nm i) ns xs) (.glo "BadText") (decide (29 = i)) := ⟨isc_glo (j := 29) hi (by decide)⟩
  apply e__law_kinds
  unfold p__law_kinds
  get_elem_tactic_extensible
  first | done | exact k

end Gw
set_option Elab.async false
set_option linter.all false
set_option maxRecDepth 100000
set_option maxHeartbeats 4000000
set_option synthInstance.maxHeartbeats 4000000
set_option synthInstance.maxSize 100000
namespace Gw
open PySem PySem.Spec L2 Qv
local macro_rules | `(tactic| get_elem_tactic_extensible) => `(tactic| ((repeat (focus (first | ((with_reducible refine Sx.h ?_)) | ((with_reducible apply r_iteT); rfl) | ((with_reducible apply r_iteF); rfl) | ((with_reducible apply r_var); rfl; assumption) | ((with_reducible apply r_varO); rfl; assumption) | ((with_reducible apply r_modI); omega) | ((with_reducible apply r_fdivI); (apply cdiv <;> omega)) | ((with_reducible apply r_mulI); (apply cmul <;> omega)) | ((with_reducible apply r_powI); exact ⟨by decide, by decide, by decide⟩) | ((with_reducible apply r_ixL); rfl) | ((with_reducible apply r_ixT); rfl) | ((with_reducible apply r_sdA); rfl; rfl; (try dsimp only [List.set_cons_zero, List.set_cons_succ])) | ((with_reducible apply r_sdL); rfl; rfl; (try dsimp only [List.set_cons_zero, List.set_cons_succ])) | ((with_reducible apply r_sdU); rfl; rfl; (try dsimp only [List.set_cons_zero, List.set_cons_succ])) | ((with_reducible apply r_isi); rfl; exact isT_int _) | ((with_reducible apply r_isi); rfl; exact isT_bool _) | ((with_reducible apply r_isi); rfl; exact isT_str _) | ((with_reducible apply r_isi); rfl; exact isT_tuple _) | ((with_reducible apply r_isi); rfl; exact isT_list _) | ((with_reducible apply r_escL); rfl; (try dsimp only [List.set_cons_zero, List.set_cons_succ])) | ((with_reducible apply r_escD); rfl; (try dsimp only [List.set_cons_zero, List.set_cons_succ])) | ((with_reducible apply r_tu); rfl; rfl; trivial) | ((with_reducible apply r_addX); (focus ((repeat (first | assumption | with_reducible exact tl_nil | with_reducible apply tl_cons | with_reducible apply tl_app | with_reducible apply tl_take | with_reducible apply tl_drop | with_reducible apply tl_cut | with_reducible apply tl_bef | with_reducible apply tl_beh | with_reducible apply tl_map)); done)); (focus ((repeat (first | assumption | with_reducible exact tl_nil | with_reducible apply tl_cons | with_reducible apply tl_app | with_reducible apply tl_take | with_reducible apply tl_drop | with_reducible apply tl_cut | with_reducible apply tl_bef | with_reducible apply tl_beh | with_reducible apply tl_map)); done)); rfl) | ((with_reducible apply r_lenX); (focus ((repeat (first | assumption | with_reducible exact tl_nil | with_reducible apply tl_cons | with_reducible apply tl_app | with_reducible apply tl_take | with_reducible apply tl_drop | with_reducible apply tl_cut | with_reducible apply tl_bef | with_reducible apply tl_beh | with_reducible apply tl_map)); done)); rfl) | ((with_reducible apply r_slXt); rfl; (focus ((repeat (first | assumption | with_reducible exact tl_nil | with_reducible apply tl_cons | with_reducible apply tl_app | with_reducible apply tl_take | with_reducible apply tl_drop | with_reducible apply tl_cut | with_reducible apply tl_bef | with_reducible apply tl_beh | with_reducible apply tl_map)); done)); rfl) | ((with_reducible apply r_slXd); rfl; (focus ((repeat (first | assumption | with_reducible exact tl_nil | with_reducible apply tl_cons | with_reducible apply tl_app | with_reducible apply tl_take | with_reducible apply tl_drop | with_reducible apply tl_cut | with_reducible apply tl_bef | with_reducible apply tl_beh | with_reducible apply tl_map)); done)); rfl) | ((with_reducible apply r_slX); rfl; (focus ((repeat (first | assumption | with_reducible exact tl_nil | with_reducible apply tl_cons | with_reducible apply tl_app | with_reducible apply tl_take | with_reducible apply tl_drop | with_reducible apply tl_cut | with_reducible apply tl_bef | with_reducible apply tl_beh | with_reducible apply tl_map)); done)); rfl) | ((with_reducible apply r_eqX); (focus ((repeat (first | assumption | with_reducible exact as_nil | ((with_reducible apply as_cons); decide) | with_reducible apply as_app | with_reducible apply as_take | with_reducible apply as_drop | with_reducible apply as_cut | with_reducible apply as_bef | with_reducible apply as_beh | with_reducible apply as_low | with_reducible apply as_mul)); done)); (focus ((repeat (first | assumption | with_reducible exact as_nil | ((with_reducible apply as_cons); decide) | with_reducible apply as_app | with_reducible apply as_take | with_reducible apply as_drop | with_reducible apply as_cut | with_reducible apply as_bef | with_reducible apply as_beh | with_reducible apply as_low | with_reducible apply as_mul)); done))) | ((with_reducible apply r_neX); (focus ((repeat (first | assumption | with_reducible exact as_nil | ((with_reducible apply as_cons); decide) | with_reducible apply as_app | with_reducible apply as_take | with_reducible apply as_drop | with_reducible apply as_cut | with_reducible apply as_bef | with_reducible apply as_beh | with_reducible apply as_low | with_reducible apply as_mul)); done)); (focus ((repeat (first | assumption | with_reducible exact as_nil | ((with_reducible apply as_cons); decide) | with_reducible apply as_app | with_reducible apply as_take | with_reducible apply as_drop | with_reducible apply as_cut | with_reducible apply as_bef | with_reducible apply as_beh | with_reducible apply as_low | with_reducible apply as_mul)); done))) | ((with_reducible apply r_slT); rfl; (focus (apply cutN; rfl; rfl; (focus ((repeat (first | exact dr_zero | exact dr_nil | apply dr_succ)); done)); (focus ((repeat (first | exact tk_zero | exact tk_nil | apply tk_succ)); done))))) | ((with_reducible apply r_slL); rfl; (focus (apply cutN; rfl; rfl; (focus ((repeat (first | exact dr_zero | exact dr_nil | apply dr_succ)); done)); (focus ((repeat (first | exact tk_zero | exact tk_nil | apply tk_succ)); done))))) | ((with_reducible apply r_slLt); rfl) | ((with_reducible apply r_slLd); rfl) | ((with_reducible apply r_slT); rfl; rfl) | ((with_reducible apply r_slL); rfl; rfl) | ((with_reducible apply r_split); (focus ((repeat (first | assumption | with_reducible exact tl_nil | with_reducible apply tl_cons | with_reducible apply tl_app | with_reducible apply tl_take | with_reducible apply tl_drop | with_reducible apply tl_cut | with_reducible apply tl_bef | with_reducible apply tl_beh | with_reducible apply tl_map)); done)); rfl; rfl) | ((with_reducible apply r_part); (focus ((repeat (first | assumption | with_reducible exact tl_nil | with_reducible apply tl_cons | with_reducible apply tl_app | with_reducible apply tl_take | with_reducible apply tl_drop | with_reducible apply tl_cut | with_reducible apply tl_bef | with_reducible apply tl_beh | with_reducible apply tl_map)); done)); rfl) | ((with_reducible apply r_reprX); (focus ((repeat (first | assumption | with_reducible exact as_nil | ((with_reducible apply as_cons); decide) | with_reducible apply as_app | with_reducible apply as_take | with_reducible apply as_drop | with_reducible apply as_cut | with_reducible apply as_bef | with_reducible apply as_beh | with_reducible apply as_low | with_reducible apply as_mul)); done)); (focus ((repeat (first | assumption | with_reducible exact tl_nil | with_reducible apply tl_cons | with_reducible apply tl_app | with_reducible apply tl_take | with_reducible apply tl_drop | with_reducible apply tl_cut | with_reducible apply tl_bef | with_reducible apply tl_beh | with_reducible apply tl_map)); done)); rfl) | ((with_reducible apply r_reprV); (focus ((repeat (first | assumption | with_reducible exact rp_non | with_reducible exact rp_bl | ((with_reducible apply rp_int); omega) | ((with_reducible apply rp_str); (focus ((repeat (first | assumption | with_reducible exact as_nil | ((with_reducible apply as_cons); decide) | with_reducible apply as_app | with_reducible apply as_take | with_reducible apply as_drop | with_reducible apply as_cut | with_reducible apply as_bef | with_reducible apply as_beh | with_reducible apply as_low | with_reducible apply as_mul)); done)); (focus ((repeat (first | assumption | with_reducible exact tl_nil | with_reducible apply tl_cons | with_reducible apply tl_app | with_reducible apply tl_take | with_reducible apply tl_drop | with_reducible apply tl_cut | with_reducible apply tl_bef | with_reducible apply tl_beh | with_reducible apply tl_map)); done))) | with_reducible apply rp_tup | with_reducible apply rp_lst | with_reducible exact rpl_nil | with_reducible apply rpl_cons)); done)); rfl; rfl) | ((with_reducible apply r_reprV); assumption; assumption; assumption) | ((with_reducible apply r_reprD); (focus ((repeat (first | assumption | with_reducible exact rx_dic | with_reducible exact rxs_nil | with_reducible apply rxs_cons | with_reducible apply rx_tup | with_reducible apply rx_lst | ((with_reducible apply RPv.x); (focus ((repeat (first | assumption | with_reducible exact rp_non | with_reducible exact rp_bl | ((with_reducible apply rp_int); omega) | ((with_reducible apply rp_str); (focus ((repeat (first | assumption | with_reducible exact as_nil | ((with_reducible apply as_cons); decide) | with_reducible apply as_app | with_reducible apply as_take | with_reducible apply as_drop | with_reducible apply as_cut | with_reducible apply as_bef | with_reducible apply as_beh | with_reducible apply as_low | with_reducible apply as_mul)); done)); (focus ((repeat (first | assumption | with_reducible exact tl_nil | with_reducible apply tl_cons | with_reducible apply tl_app | with_reducible apply tl_take | with_reducible apply tl_drop | with_reducible apply tl_cut | with_reducible apply tl_bef | with_reducible apply tl_beh | with_reducible apply tl_map)); done))) | with_reducible apply rp_tup | with_reducible apply rp_lst | with_reducible exact rpl_nil | with_reducible apply rpl_cons)); done))))); done)); rfl; rfl) | ((with_reducible apply r_eqRx); (focus ((repeat (first | assumption | with_reducible exact rx_dic | with_reducible exact rxs_nil | with_reducible apply rxs_cons | with_reducible apply rx_tup | with_reducible apply rx_lst | ((with_reducible apply RPv.x); (focus ((repeat (first | assumption | with_reducible exact rp_non | with_reducible exact rp_bl | ((with_reducible apply rp_int); omega) | ((with_reducible apply rp_str); (focus ((repeat (first | assumption | with_reducible exact as_nil | ((with_reducible apply as_cons); decide) | with_reducible apply as_app | with_reducible apply as_take | with_reducible apply as_drop | with_reducible apply as_cut | with_reducible apply as_bef | with_reducible apply as_beh | with_reducible apply as_low | with_reducible apply as_mul)); done)); (focus ((repeat (first | assumption | with_reducible exact tl_nil | with_reducible apply tl_cons | with_reducible apply tl_app | with_reducible apply tl_take | with_reducible apply tl_drop | with_reducible apply tl_cut | with_reducible apply tl_bef | with_reducible apply tl_beh | with_reducible apply tl_map)); done))) | with_reducible apply rp_tup | with_reducible apply rp_lst | with_reducible exact rpl_nil | with_reducible apply rpl_cons)); done))))); done))) | ((with_reducible apply r_neRx); (focus ((repeat (first | assumption | with_reducible exact rx_dic | with_reducible exact rxs_nil | with_reducible apply rxs_cons | with_reducible apply rx_tup | with_reducible apply rx_lst | ((with_reducible apply RPv.x); (focus ((repeat (first | assumption | with_reducible exact rp_non | with_reducible exact rp_bl | ((with_reducible apply rp_int); omega) | ((with_reducible apply rp_str); (focus ((repeat (first | assumption | with_reducible exact as_nil | ((with_reducible apply as_cons); decide) | with_reducible apply as_app | with_reducible apply as_take | with_reducible apply as_drop | with_reducible apply as_cut | with_reducible apply as_bef | with_reducible apply as_beh | with_reducible apply as_low | with_reducible apply as_mul)); done)); (focus ((repeat (first | assumption | with_reducible exact tl_nil | with_reducible apply tl_cons | with_reducible apply tl_app | with_reducible apply tl_take | with_reducible apply tl_drop | with_reducible apply tl_cut | with_reducible apply tl_bef | with_reducible apply tl_beh | with_reducible apply tl_map)); done))) | with_reducible apply rp_tup | with_reducible apply rp_lst | with_reducible exact rpl_nil | with_reducible apply rpl_cons)); done))))); done))) | ((with_reducible apply r_eqRp); (focus ((repeat (first | assumption | with_reducible exact rp_non | with_reducible exact rp_bl | ((with_reducible apply rp_int); omega) | ((with_reducible apply rp_str); (focus ((repeat (first | assumption | with_reducible exact as_nil | ((with_reducible apply as_cons); decide) | with_reducible apply as_app | with_reducible apply as_take | with_reducible apply as_drop | with_reducible apply as_cut | with_reducible apply as_bef | with_reducible apply as_beh | with_reducible apply as_low | with_reducible apply as_mul)); done)); (focus ((repeat (first | assumption | with_reducible exact tl_nil | with_reducible apply tl_cons | with_reducible apply tl_app | with_reducible apply tl_take | with_reducible apply tl_drop | with_reducible apply tl_cut | with_reducible apply tl_bef | with_reducible apply tl_beh | with_reducible apply tl_map)); done))) | with_reducible apply rp_tup | with_reducible apply rp_lst | with_reducible exact rpl_nil | with_reducible apply rpl_cons)); done))) | ((with_reducible apply r_neRp); (focus ((repeat (first | assumption | with_reducible exact rp_non | with_reducible exact rp_bl | ((with_reducible apply rp_int); omega) | ((with_reducible apply rp_str); (focus ((repeat (first | assumption | with_reducible exact as_nil | ((with_reducible apply as_cons); decide) | with_reducible apply as_app | with_reducible apply as_take | with_reducible apply as_drop | with_reducible apply as_cut | with_reducible apply as_bef | with_reducible apply as_beh | with_reducible apply as_low | with_reducible apply as_mul)); done)); (focus ((repeat (first | assumption | with_reducible exact tl_nil | with_reducible apply tl_cons | with_reducible apply tl_app | with_reducible apply tl_take | with_reducible apply tl_drop | with_reducible apply tl_cut | with_reducible apply tl_bef | with_reducible apply tl_beh | with_reducible apply tl_map)); done))) | with_reducible apply rp_tup | with_reducible apply rp_lst | with_reducible exact rpl_nil | with_reducible apply rpl_cons)); done))) | ((with_reducible apply r_tupK); rfl; rfl; (focus (repeat (first | with_reducible exact fr_nil | (with_reducible apply fr_cons) | with_reducible exact fz_int | with_reducible exact fz_bl | with_reducible exact fz_non | with_reducible exact fz_str | with_reducible exact fz_tup | with_reducible exact fz_lst | with_reducible exact fz_dic | with_reducible exact fz_ty | with_reducible exact fz_atm | (with_reducible apply fz_id; assumption; assumption) | rfl)))) | ((with_reducible apply r_lstK); rfl; rfl; (focus (repeat (first | with_reducible exact fr_nil | (with_reducible apply fr_cons) | with_reducible exact fz_int | with_reducible exact fz_bl | with_reducible exact fz_non | with_reducible exact fz_str | with_reducible exact fz_tup | with_reducible exact fz_lst | with_reducible exact fz_dic | with_reducible exact fz_ty | with_reducible exact fz_atm | (with_reducible apply fz_id; assumption; assumption) | rfl)))) | ((with_reducible apply r_lmK); rfl; (focus (repeat (first | with_reducible exact fr_nil | (with_reducible apply fr_cons) | with_reducible exact fz_int | with_reducible exact fz_bl | with_reducible exact fz_non | with_reducible exact fz_str | with_reducible exact fz_tup | with_reducible exact fz_lst | with_reducible exact fz_dic | with_reducible exact fz_ty | with_reducible exact fz_atm | (with_reducible apply fz_id; assumption; assumption) | rfl)))) | ((with_reducible apply r_lendT); rfl; (try dsimp only [List.set_cons_zero, List.set_cons_succ])) | ((with_reducible apply r_lendFL); rfl; (try dsimp only [List.set_cons_zero, List.set_cons_succ])) | ((with_reducible apply r_lendFD); rfl; (try dsimp only [List.set_cons_zero, List.set_cons_succ])) | ((with_reducible apply r_own); (focus (repeat (first | with_reducible exact own_nil | (apply own_consN; rfl) | (apply own_consV; rfl; (first | rfl | assumption)))))) | ((with_reducible apply r_lcK); rfl; (focus (first | with_reducible exact fz_int | with_reducible exact fz_bl | with_reducible exact fz_non | with_reducible exact fz_str | with_reducible exact fz_tup | (with_reducible apply fz_id; assumption; assumption))); (focus (repeat (first | with_reducible exact cat_nil | (with_reducible apply cat_cons)))); (try dsimp only [wb, wipeE, List.set_cons_zero, List.set_cons_succ])) | ((with_reducible apply r_anyK); rfl) | ((with_reducible apply r_fld); (first | decide | simp); rfl; rfl) | ((with_reducible apply r_isC); rfl) | ((with_reducible apply r_ek); (try dsimp only [wb, wipeE, unwipe, List.set_cons_zero, List.set_cons_succ, List.getD_cons_zero, List.getD_cons_succ])) | (dsimp only [wb, wipeE, unwipe, List.set_cons_zero, List.set_cons_succ, List.getD_cons_zero, List.getD_cons_succ])))); (try (focus assumption))))
/-! ### what the law does with them -/
theorem nod_bls : ∀ bs : List Bool, nodL (bs.map Val.bl) = true
  | [] => rfl
  | b :: bs => nod_bls bs
theorem cl_bls : ∀ bs : List Bool, PyData.canLayAll0 (datL (bs.map Val.bl)) = true
  | [] => rfl
  | b :: bs => by
    have z := cl_bls bs
    simp only [List.map_cons, datL, Val.dat, PyData.canLayAll0, PyData.canLay0, z, Bool.and_self]
theorem dp_bls : ∀ bs : List Bool, PyData.depthAll (datL (bs.map Val.bl)) ≤ 0
  | [] => Nat.le_refl _
  | b :: bs => by
    have z := dp_bls bs
    simp only [List.map_cons, datL, Val.dat, PyData.depthAll, PyData.depth]
    omega
theorem ea_bls : ∀ bs : List Bool, PyData.eqvAll (datL (bs.map Val.bl)) (datL (bs.map Val.bl)) = true
  | [] => rfl
  | b :: bs => by
    have z := ea_bls bs
    cases b <;> simp only [List.map_cons, datL, Val.dat, PyData.eqvAll, z] <;> rfl
theorem r_neBls {o o' : Bool} {bs : List Bool} {R : Val → Prop} (k : R (.bl false)) : gNe (.lst o (bs.map Val.bl)) (.lst o' (bs.map Val.bl)) R := by
  have sh : ∀ o, SeqAt.shaped (Val.lst o (bs.map Val.bl)).dat = true := fun o => by
    have z := dp_bls bs
    simp only [Val.dat, SeqAt.shaped, PyData.canLay0, PyData.depth, cl_bls, Bool.and_eq_true, decide_eq_true_eq, true_and]
    try omega
  refine r_nev (c := true) (nod_bls bs) (nod_bls bs) (sh o) (sh o') ?_ k
  simp only [Val.dat, PyData.eqv]
  exact ea_bls bs
theorem r_isCT2 {T : Ist} {v c d : Val} {b : Bool} {R : Val → Prop} (h1 : isC T v c = some false) (h2 : isC T v d = some b) (k : R (.bl b)) : gIsC T [v, .tup [c, d]] R := by
  unfold gIsC
  have e : isCs T v [c, d] = some b := by
    unfold isCs
    rw [h1]
    dsimp only
    unfold isCs
    rw [h2]
    cases b <;> rfl
  simp only [List.isEmpty_cons, Bool.not_false, List.all_cons, h1, h2, Option.isSome_some, List.all_nil, Bool.and_self, e]
  exact k
theorem x__law_families_right {ms : List Val} {o : Bool} {Qe : Exc → Qv.Env → Prop} {Qr : Val → Qv.Env → Prop} (hl : ms.length = 30) (hm : ∀ (i : Nat) v, ms[i]? = some v → ∃ ns xs, v = .exc (nm i) ns xs) (k : Qr (.bl true) [none]) : fsp__law_families_right [.lst o ms] Qe Qr := by
  apply e__law_families_right
  unfold p__law_families_right
  cases o
  all_goals
    get_elem_tactic_extensible
    refine for_inv (fun i e => ∃ o1 o2, e = [some (.lst false ms), o1, o2, none]) ⟨_, _, rfl⟩ ?_ ?_
    · rintro i x e Nx hx ⟨o1, o2, rfl⟩ hN
      obtain ⟨v, hv, rfl⟩ := nums_get hx
      obtain ⟨ns, xs, rfl⟩ := hm i v hv
      have hi : i < 30 := by rw [← hl]; exact (List.getElem?_eq_some_iff.mp hv).1
      have c1 : ISC istab (.exc (nm i) ns xs) (.glo "FeedError") true := ⟨isc_fe hi⟩
      have c2 : ISC istab (.exc (nm i) ns xs) (.ty "ValueError") true := ⟨isc_ty hi (by simp)⟩
      get_elem_tactic_extensible
      apply x__law_kinds hi
      get_elem_tactic_extensible
      refine r_rg1 rfl (by decide) (by decide) ?_
      rw [show rangeV 0 1 (30 : Int).toNat = (List.range 30).map fun (j : Nat) => Val.int (j : Int) by
        unfold rangeV
        exact List.map_congr_left fun j _ => by simp]
      get_elem_tactic_extensible
      refine lc_map1 (n := 30) (fun j => .bl (decide (j = i))) (Nat.le_of_eq List.length_range) rfl (fun j acc Nx hj ha hN => ?_) ?_
      · have ed : decide ((j : Int) = 0 + (i : Int)) = decide (j = i) := decide_eq_decide.mpr (by omega)
        get_elem_tactic_extensible
        rw [ed]
        get_elem_tactic_extensible
        exact ⟨ha, hN⟩
      rw [show ((List.range 30).map fun j => Val.bl (decide (j = i))) = ((List.range 30).map fun j => decide (j = i)).map Val.bl by rw [List.map_map]; rfl]
      get_elem_tactic_extensible
      refine r_neBls ?_
      get_elem_tactic_extensible
      refine r_isCT2 (isc_ty (r := false) hi (by simp)) (isc_ty (r := false) hi (by simp)) ?_
      get_elem_tactic_extensible
      exact hN _ ⟨_, _, rfl⟩
    · rintro e ⟨o1, o2, rfl⟩
      get_elem_tactic_extensible
      rw [hl]
      get_elem_tactic_extensible
      first | done | exact k

end Gw
set_option Elab.async false
set_option linter.all false
set_option maxRecDepth 100000
set_option maxHeartbeats 4000000
set_option synthInstance.maxHeartbeats 4000000
set_option synthInstance.maxSize 100000
namespace Gw
open PySem PySem.Spec L2 Qv
local macro_rules | `(tactic| get_elem_tactic_extensible) => `(tactic| ((repeat (focus (first | ((with_reducible refine Sx.h ?_)) | ((with_reducible apply r_iteT); rfl) | ((with_reducible apply r_iteF); rfl) | ((with_reducible apply r_var); rfl; assumption) | ((with_reducible apply r_varO); rfl; assumption) | ((with_reducible apply r_modI); omega) | ((with_reducible apply r_fdivI); (apply cdiv <;> omega)) | ((with_reducible apply r_mulI); (apply cmul <;> omega)) | ((with_reducible apply r_powI); exact ⟨by decide, by decide, by decide⟩) | ((with_reducible apply r_ixL); rfl) | ((with_reducible apply r_ixT); rfl) | ((with_reducible apply r_sdA); rfl; rfl; (try dsimp only [List.set_cons_zero, List.set_cons_succ])) | ((with_reducible apply r_sdL); rfl; rfl; (try dsimp only [List.set_cons_zero, List.set_cons_succ])) | ((with_reducible apply r_sdU); rfl; rfl; (try dsimp only [List.set_cons_zero, List.set_cons_succ])) | ((with_reducible apply r_isi); rfl; exact isT_int _) | ((with_reducible apply r_isi); rfl; exact isT_bool _) | ((with_reducible apply r_isi); rfl; exact isT_str _) | ((with_reducible apply r_isi); rfl; exact isT_tuple _) | ((with_reducible apply r_isi); rfl; exact isT_list _) | ((with_reducible apply r_escL); rfl; (try dsimp only [List.set_cons_zero, List.set_cons_succ])) | ((with_reducible apply r_escD); rfl; (try dsimp only [List.set_cons_zero, List.set_cons_succ])) | ((with_reducible apply r_tu); rfl; rfl; trivial) | ((with_reducible apply r_addX); (focus ((repeat (first | assumption | with_reducible exact tl_nil | with_reducible apply tl_cons | with_reducible apply tl_app | with_reducible apply tl_take | with_reducible apply tl_drop | with_reducible apply tl_cut | with_reducible apply tl_bef | with_reducible apply tl_beh | with_reducible apply tl_map)); done)); (focus ((repeat (first | assumption | with_reducible exact tl_nil | with_reducible apply tl_cons | with_reducible apply tl_app | with_reducible apply tl_take | with_reducible apply tl_drop | with_reducible apply tl_cut | with_reducible apply tl_bef | with_reducible apply tl_beh | with_reducible apply tl_map)); done)); rfl) | ((with_reducible apply r_lenX); (focus ((repeat (first | assumption | with_reducible exact tl_nil | with_reducible apply tl_cons | with_reducible apply tl_app | with_reducible apply tl_take | with_reducible apply tl_drop | with_reducible apply tl_cut | with_reducible apply tl_bef | with_reducible apply tl_beh | with_reducible apply tl_map)); done)); rfl) | ((with_reducible apply r_slXt); rfl; (focus ((repeat (first | assumption | with_reducible exact tl_nil | with_reducible apply tl_cons | with_reducible apply tl_app | with_reducible apply tl_take | with_reducible apply tl_drop | with_reducible apply tl_cut | with_reducible apply tl_bef | with_reducible apply tl_beh | with_reducible apply tl_map)); done)); rfl) | ((with_reducible apply r_slXd); rfl; (focus ((repeat (first | assumption | with_reducible exact tl_nil | with_reducible apply tl_cons | with_reducible apply tl_app | with_reducible apply tl_take | with_reducible apply tl_drop | with_reducible apply tl_cut | with_reducible apply tl_bef | with_reducible apply tl_beh | with_reducible apply tl_map)); done)); rfl) | ((with_reducible apply r_slX); rfl; (focus ((repeat (first | assumption | with_reducible exact tl_nil | with_reducible apply tl_cons | with_reducible apply tl_app | with_reducible apply tl_take | with_reducible apply tl_drop | with_reducible apply tl_cut | with_reducible apply tl_bef | with_reducible apply tl_beh | with_reducible apply tl_map)); done)); rfl) | ((with_reducible apply r_eqX); (focus ((repeat (first | assumption | with_reducible exact as_nil | ((with_reducible apply as_cons); decide) | with_reducible apply as_app | with_reducible apply as_take | with_reducible apply as_drop | with_reducible apply as_cut | with_reducible apply as_bef | with_reducible apply as_beh | with_reducible apply as_low | with_reducible apply as_mul)); done)); (focus ((repeat (first | assumption | with_reducible exact as_nil | ((with_reducible apply as_cons); decide) | with_reducible apply as_app | with_reducible apply as_take | with_reducible apply as_drop | with_reducible apply as_cut | with_reducible apply as_bef | with_reducible apply as_beh | with_reducible apply as_low | with_reducible apply as_mul)); done))) | ((with_reducible apply r_neX); (focus ((repeat (first | assumption | with_reducible exact as_nil | ((with_reducible apply as_cons); decide) | with_reducible apply as_app | with_reducible apply as_take | with_reducible apply as_drop | with_reducible apply as_cut | with_reducible apply as_bef | with_reducible apply as_beh | with_reducible apply as_low | with_reducible apply as_mul)); done)); (focus ((repeat (first | assumption | with_reducible exact as_nil | ((with_reducible apply as_cons); decide) | with_reducible apply as_app | with_reducible apply as_take | with_reducible apply as_drop | with_reducible apply as_cut | with_reducible apply as_bef | with_reducible apply as_beh | with_reducible apply as_low | with_reducible apply as_mul)); done))) | ((with_reducible apply r_slT); rfl; (focus (apply cutN; rfl; rfl; (focus ((repeat (first | exact dr_zero | exact dr_nil | apply dr_succ)); done)); (focus ((repeat (first | exact tk_zero | exact tk_nil | apply tk_succ)); done))))) | ((with_reducible apply r_slL); rfl; (focus (apply cutN; rfl; rfl; (focus ((repeat (first | exact dr_zero | exact dr_nil | apply dr_succ)); done)); (focus ((repeat (first | exact tk_zero | exact tk_nil | apply tk_succ)); done))))) | ((with_reducible apply r_slLt); rfl) | ((with_reducible apply r_slLd); rfl) | ((with_reducible apply r_slT); rfl; rfl) | ((with_reducible apply r_slL); rfl; rfl) | ((with_reducible apply r_split); (focus ((repeat (first | assumption | with_reducible exact tl_nil | with_reducible apply tl_cons | with_reducible apply tl_app | with_reducible apply tl_take | with_reducible apply tl_drop | with_reducible apply tl_cut | with_reducible apply tl_bef | with_reducible apply tl_beh | with_reducible apply tl_map)); done)); rfl; rfl) | ((with_reducible apply r_part); (focus ((repeat (first | assumption | with_reducible exact tl_nil | with_reducible apply tl_cons | with_reducible apply tl_app | with_reducible apply tl_take | with_reducible apply tl_drop | with_reducible apply tl_cut | with_reducible apply tl_bef | with_reducible apply tl_beh | with_reducible apply tl_map)); done)); rfl) | ((with_reducible apply r_reprX); (focus ((repeat (first | assumption | with_reducible exact as_nil | ((with_reducible apply as_cons); decide) | with_reducible apply as_app | with_reducible apply as_take | with_reducible apply as_drop | with_reducible apply as_cut | with_reducible apply as_bef | with_reducible apply as_beh | with_reducible apply as_low | with_reducible apply as_mul)); done)); (focus ((repeat (first | assumption | with_reducible exact tl_nil | with_reducible apply tl_cons | with_reducible apply tl_app | with_reducible apply tl_take | with_reducible apply tl_drop | with_reducible apply tl_cut | with_reducible apply tl_bef | with_reducible apply tl_beh | with_reducible apply tl_map)); done)); rfl) | ((with_reducible apply r_reprV); (focus ((repeat (first | assumption | with_reducible exact rp_non | with_reducible exact rp_bl | ((with_reducible apply rp_int); omega) | ((with_reducible apply rp_str); (focus ((repeat (first | assumption | with_reducible exact as_nil | ((with_reducible apply as_cons); decide) | with_reducible apply as_app | with_reducible apply as_take | with_reducible apply as_drop | with_reducible apply as_cut | with_reducible apply as_bef | with_reducible apply as_beh | with_reducible apply as_low | with_reducible apply as_mul)); done)); (focus ((repeat (first | assumption | with_reducible exact tl_nil | with_reducible apply tl_cons | with_reducible apply tl_app | with_reducible apply tl_take | with_reducible apply tl_drop | with_reducible apply tl_cut | with_reducible apply tl_bef | with_reducible apply tl_beh | with_reducible apply tl_map)); done))) | with_reducible apply rp_tup | with_reducible apply rp_lst | with_reducible exact rpl_nil | with_reducible apply rpl_cons)); done)); rfl; rfl) | ((with_reducible apply r_reprV); assumption; assumption; assumption) | ((with_reducible apply r_reprD); (focus ((repeat (first | assumption | with_reducible exact rx_dic | with_reducible exact rxs_nil | with_reducible apply rxs_cons | with_reducible apply rx_tup | with_reducible apply rx_lst | ((with_reducible apply RPv.x); (focus ((repeat (first | assumption | with_reducible exact rp_non | with_reducible exact rp_bl | ((with_reducible apply rp_int); omega) | ((with_reducible apply rp_str); (focus ((repeat (first | assumption | with_reducible exact as_nil | ((with_reducible apply as_cons); decide) | with_reducible apply as_app | with_reducible apply as_take | with_reducible apply as_drop | with_reducible apply as_cut | with_reducible apply as_bef | with_reducible apply as_beh | with_reducible apply as_low | with_reducible apply as_mul)); done)); (focus ((repeat (first | assumption | with_reducible exact tl_nil | with_reducible apply tl_cons | with_reducible apply tl_app | with_reducible apply tl_take | with_reducible apply tl_drop | with_reducible apply tl_cut | with_reducible apply tl_bef | with_reducible apply tl_beh | with_reducible apply tl_map)); done))) | with_reducible apply rp_tup | with_reducible apply rp_lst | with_reducible exact rpl_nil | with_reducible apply rpl_cons)); done))))); done)); rfl; rfl) | ((with_reducible apply r_eqRx); (focus ((repeat (first | assumption | with_reducible exact rx_dic | with_reducible exact rxs_nil | with_reducible apply rxs_cons | with_reducible apply rx_tup | with_reducible apply rx_lst | ((with_reducible apply RPv.x); (focus ((repeat (first | assumption | with_reducible exact rp_non | with_reducible exact rp_bl | ((with_reducible apply rp_int); omega) | ((with_reducible apply rp_str); (focus ((repeat (first | assumption | with_reducible exact as_nil | ((with_reducible apply as_cons); decide) | with_reducible apply as_app | with_reducible apply as_take | with_reducible apply as_drop | with_reducible apply as_cut | with_reducible apply as_bef | with_reducible apply as_beh | with_reducible apply as_low | with_reducible apply as_mul)); done)); (focus ((repeat (first | assumption | with_reducible exact tl_nil | with_reducible apply tl_cons | with_reducible apply tl_app | with_reducible apply tl_take | with_reducible apply tl_drop | with_reducible apply tl_cut | with_reducible apply tl_bef | with_reducible apply tl_beh | with_reducible apply tl_map)); done))) | with_reducible apply rp_tup | with_reducible apply rp_lst | with_reducible exact rpl_nil | with_reducible apply rpl_cons)); done))))); done))) | ((with_reducible apply r_neRx); (focus ((repeat (first | assumption | with_reducible exact rx_dic | with_reducible exact rxs_nil | with_reducible apply rxs_cons | with_reducible apply rx_tup | with_reducible apply rx_lst | ((with_reducible apply RPv.x); (focus ((repeat (first | assumption | with_reducible exact rp_non | with_reducible exact rp_bl | ((with_reducible apply rp_int); omega) | ((with_reducible apply rp_str); (focus ((repeat (first | assumption | with_reducible exact as_nil | ((with_reducible apply as_cons); decide) | with_reducible apply as_app | with_reducible apply as_take | with_reducible apply as_drop | with_reducible apply as_cut | with_reducible apply as_bef | with_reducible apply as_beh | with_reducible apply as_low | with_reducible apply as_mul)); done)); (focus ((repeat (first | assumption | with_reducible exact tl_nil | with_reducible apply tl_cons | with_reducible apply tl_app | with_reducible apply tl_take | with_reducible apply tl_drop | with_reducible apply tl_cut | with_reducible apply tl_bef | with_reducible apply tl_beh | with_reducible apply tl_map)); done))) | with_reducible apply rp_tup | with_reducible apply rp_lst | with_reducible exact rpl_nil | with_reducible apply rpl_cons)); done))))); done))) | ((with_reducible apply r_eqRp); (focus ((repeat (first | assumption | with_reducible exact rp_non | with_reducible exact rp_bl | ((with_reducible apply rp_int); omega) | ((with_reducible apply rp_str); (focus ((repeat (first | assumption | with_reducible exact as_nil | ((with_reducible apply as_cons); decide) | with_reducible apply as_app | with_reducible apply as_take | with_reducible apply as_drop | with_reducible apply as_cut | with_reducible apply as_bef | with_reducible apply as_beh | with_reducible apply as_low | with_reducible apply as_mul)); done)); (focus ((repeat (first | assumption | with_reducible exact tl_nil | with_reducible apply tl_cons | with_reducible apply tl_app | with_reducible apply tl_take | with_reducible apply tl_drop | with_reducible apply tl_cut | with_reducible apply tl_bef | with_reducible apply tl_beh | with_reducible apply tl_map)); done))) | with_reducible apply rp_tup | with_reducible apply rp_lst | with_reducible exact rpl_nil | with_reducible apply rpl_cons)); done))) | ((with_reducible apply r_neRp); (focus ((repeat (first | assumption | with_reducible exact rp_non | with_reducible exact rp_bl | ((with_reducible apply rp_int); omega) | ((with_reducible apply rp_str); (focus ((repeat (first | assumption | with_reducible exact as_nil | ((with_reducible apply as_cons); decide) | with_reducible apply as_app | with_reducible apply as_take | with_reducible apply as_drop | with_reducible apply as_cut | with_reducible apply as_bef | with_reducible apply as_beh | with_reducible apply as_low | with_reducible apply as_mul)); done)); (focus ((repeat (first | assumption | with_reducible exact tl_nil | with_reducible apply tl_cons | with_reducible apply tl_app | with_reducible apply tl_take | with_reducible apply tl_drop | with_reducible apply tl_cut | with_reducible apply tl_bef | with_reducible apply tl_beh | with_reducible apply tl_map)); done))) | with_reducible apply rp_tup | with_reducible apply rp_lst | with_reducible exact rpl_nil | with_reducible apply rpl_cons)); done))) | ((with_reducible apply r_tupK); rfl; rfl; (focus (repeat (first | with_reducible exact fr_nil | (with_reducible apply fr_cons) | with_reducible exact fz_int | with_reducible exact fz_bl | with_reducible exact fz_non | with_reducible exact fz_str | with_reducible exact fz_tup | with_reducible exact fz_lst | with_reducible exact fz_dic | with_reducible exact fz_ty | with_reducible exact fz_atm | (with_reducible apply fz_id; assumption; assumption) | rfl)))) | ((with_reducible apply r_lstK); rfl; rfl; (focus (repeat (first | with_reducible exact fr_nil | (with_reducible apply fr_cons) | with_reducible exact fz_int | with_reducible exact fz_bl | with_reducible exact fz_non | with_reducible exact fz_str | with_reducible exact fz_tup | with_reducible exact fz_lst | with_reducible exact fz_dic | with_reducible exact fz_ty | with_reducible exact fz_atm | (with_reducible apply fz_id; assumption; assumption) | rfl)))) | ((with_reducible apply r_lmK); rfl; (focus (repeat (first | with_reducible exact fr_nil | (with_reducible apply fr_cons) | with_reducible exact fz_int | with_reducible exact fz_bl | with_reducible exact fz_non | with_reducible exact fz_str | with_reducible exact fz_tup | with_reducible exact fz_lst | with_reducible exact fz_dic | with_reducible exact fz_ty | with_reducible exact fz_atm | (with_reducible apply fz_id; assumption; assumption) | rfl)))) | ((with_reducible apply r_lendT); rfl; (try dsimp only [List.set_cons_zero, List.set_cons_succ])) | ((with_reducible apply r_lendFL); rfl; (try dsimp only [List.set_cons_zero, List.set_cons_succ])) | ((with_reducible apply r_lendFD); rfl; (try dsimp only [List.set_cons_zero, List.set_cons_succ])) | ((with_reducible apply r_own); (focus (repeat (first | with_reducible exact own_nil | (apply own_consN; rfl) | (apply own_consV; rfl; (first | rfl | assumption)))))) | ((with_reducible apply r_lcK); rfl; (focus (first | with_reducible exact fz_int | with_reducible exact fz_bl | with_reducible exact fz_non | with_reducible exact fz_str | with_reducible exact fz_tup | (with_reducible apply fz_id; assumption; assumption))); (focus (repeat (first | with_reducible exact cat_nil | (with_reducible apply cat_cons)))); (try dsimp only [wb, wipeE, List.set_cons_zero, List.set_cons_succ])) | ((with_reducible apply r_anyK); rfl) | ((with_reducible apply r_fld); (first | decide | simp); rfl; rfl) | ((with_reducible apply r_isC); rfl) | ((with_reducible apply r_ek); (try dsimp only [wb, wipeE, unwipe, List.set_cons_zero, List.set_cons_succ, List.getD_cons_zero, List.getD_cons_succ])) | (dsimp only [wb, wipeE, unwipe, List.set_cons_zero, List.set_cons_succ, List.getD_cons_zero, List.getD_cons_succ])))); (try (focus assumption))))
/-! ### made, asked, told -/
def mkL (w m : Val) : List Val := [.exc "BadMoment" ["given"] [w], .exc "BadZone" ["given"] [w], .exc "BadDate" ["given"] [w], .exc "BadAddress" ["given"] [w], .exc "BadThing" ["given"] [w], .exc "BadDevice" ["given"] [w], .exc "NoEntry" ["given"] [w], .exc "Taken" ["given"] [w], .exc "NoItem" ["given"] [w], .exc "BadFolder" ["given"] [w], .exc "BadVector" ["given"] [w], .exc "BadEntry" ["field"] [w], .exc "BadNumber" ["field"] [w], .exc "BadWorld" ["number"] [w], .exc "BadTrouble" ["number"] [w], .exc "BadShelf" ["number"] [w], .exc "NoSighting" ["number"] [w], .exc "BadLibrary" ["number"] [w], .exc "BadWindow" ["number"] [w], .exc "BadOffer" ["number"] [w], .exc "BadLog" ["number"] [w], .exc "NoAnswer" ["number"] [w], .exc "BadBundle" ["number"] [w], .exc "TooMany" ["what"] [w], .exc "Torn" ["stamp"] [w], .exc "NoNote" ["stamp"] [w], .exc "BadQuery" ["path"] [w], .exc "Gap" ["device"] [w], .exc "BadPage" ["number", "field"] [m, w], .exc "BadText" ["column", "line"] [m, w]]
theorem x__law_made {w m : Val} {Qe : Exc → Qv.Env → Prop} {Qr : Val → Qv.Env → Prop} (hw : CV w) (hm : CV m) (k : Qr (.lst true (mkL w m)) [none, none]) : fsp__law_made [w, m] Qe Qr := by
  unfold mkL at k
  apply e__law_made
  unfold p__law_made
  get_elem_tactic_extensible
  first | done | exact k
theorem x__law_named {w m : Val} {Qe : Exc → Qv.Env → Prop} {Qr : Val → Qv.Env → Prop} (hw : CV w) (hm : CV m) (k : Qr (.lst true (mkL w m)) [none, none]) : fsp__law_named [w, m] Qe Qr := by
  unfold mkL at k
  apply e__law_named
  unfold p__law_named
  get_elem_tactic_extensible
  first | done | exact k
theorem mk_at (w m : Val) (i : Nat) (v : Val) (hv : (mkL w m)[i]? = some v) : ∃ ns xs, v = .exc (nm i) ns xs := match i, hv with
  | 0, hv => ⟨_, _, (Option.some.inj hv).symm⟩
  | 1, hv => ⟨_, _, (Option.some.inj hv).symm⟩
  | 2, hv => ⟨_, _, (Option.some.inj hv).symm⟩
  | 3, hv => ⟨_, _, (Option.some.inj hv).symm⟩
  | 4, hv => ⟨_, _, (Option.some.inj hv).symm⟩
  | 5, hv => ⟨_, _, (Option.some.inj hv).symm⟩
  | 6, hv => ⟨_, _, (Option.some.inj hv).symm⟩
  | 7, hv => ⟨_, _, (Option.some.inj hv).symm⟩
  | 8, hv => ⟨_, _, (Option.some.inj hv).symm⟩
  | 9, hv => ⟨_, _, (Option.some.inj hv).symm⟩
  | 10, hv => ⟨_, _, (Option.some.inj hv).symm⟩
  | 11, hv => ⟨_, _, (Option.some.inj hv).symm⟩
  | 12, hv => ⟨_, _, (Option.some.inj hv).symm⟩
  | 13, hv => ⟨_, _, (Option.some.inj hv).symm⟩
  | 14, hv => ⟨_, _, (Option.some.inj hv).symm⟩
  | 15, hv => ⟨_, _, (Option.some.inj hv).symm⟩
  | 16, hv => ⟨_, _, (Option.some.inj hv).symm⟩
  | 17, hv => ⟨_, _, (Option.some.inj hv).symm⟩
  | 18, hv => ⟨_, _, (Option.some.inj hv).symm⟩
  | 19, hv => ⟨_, _, (Option.some.inj hv).symm⟩
  | 20, hv => ⟨_, _, (Option.some.inj hv).symm⟩
  | 21, hv => ⟨_, _, (Option.some.inj hv).symm⟩
  | 22, hv => ⟨_, _, (Option.some.inj hv).symm⟩
  | 23, hv => ⟨_, _, (Option.some.inj hv).symm⟩
  | 24, hv => ⟨_, _, (Option.some.inj hv).symm⟩
  | 25, hv => ⟨_, _, (Option.some.inj hv).symm⟩
  | 26, hv => ⟨_, _, (Option.some.inj hv).symm⟩
  | 27, hv => ⟨_, _, (Option.some.inj hv).symm⟩
  | 28, hv => ⟨_, _, (Option.some.inj hv).symm⟩
  | 29, hv => ⟨_, _, (Option.some.inj hv).symm⟩
  | n + 30, hv => by cases hv
theorem x__law_fields {w m : Val} {Qe : Exc → Qv.Env → Prop} {Qr : Val → Qv.Env → Prop} (hw : CV w) (hm : CV m) (k : Qr (.lst true [w, w, w, w, w, w, w, w, w, w, w, w, w, w, w, w, w, w, w, w, w, w, w, w, w, w, w, w, w, m, w, m]) [none]) : fsp__law_fields [.lst false (mkL w m)] Qe Qr := by
  unfold mkL
  apply e__law_fields
  unfold p__law_fields
  get_elem_tactic_extensible
  first | done | exact k

end Gw
set_option Elab.async false
set_option linter.all false
set_option maxRecDepth 100000
set_option maxHeartbeats 4000000
set_option synthInstance.maxHeartbeats 4000000
set_option synthInstance.maxSize 100000
namespace Gw
open PySem PySem.Spec L2 Qv
local macro_rules | `(tactic| get_elem_tactic_extensible) => `(tactic| ((repeat (focus (first | ((with_reducible refine Sx.h ?_)) | ((with_reducible apply r_iteT); rfl) | ((with_reducible apply r_iteF); rfl) | ((with_reducible apply r_var); rfl; assumption) | ((with_reducible apply r_varO); rfl; assumption) | ((with_reducible apply r_modI); omega) | ((with_reducible apply r_fdivI); (apply cdiv <;> omega)) | ((with_reducible apply r_mulI); (apply cmul <;> omega)) | ((with_reducible apply r_powI); exact ⟨by decide, by decide, by decide⟩) | ((with_reducible apply r_ixL); rfl) | ((with_reducible apply r_ixT); rfl) | ((with_reducible apply r_sdA); rfl; rfl; (try dsimp only [List.set_cons_zero, List.set_cons_succ])) | ((with_reducible apply r_sdL); rfl; rfl; (try dsimp only [List.set_cons_zero, List.set_cons_succ])) | ((with_reducible apply r_sdU); rfl; rfl; (try dsimp only [List.set_cons_zero, List.set_cons_succ])) | ((with_reducible apply r_isi); rfl; exact isT_int _) | ((with_reducible apply r_isi); rfl; exact isT_bool _) | ((with_reducible apply r_isi); rfl; exact isT_str _) | ((with_reducible apply r_isi); rfl; exact isT_tuple _) | ((with_reducible apply r_isi); rfl; exact isT_list _) | ((with_reducible apply r_escL); rfl; (try dsimp only [List.set_cons_zero, List.set_cons_succ])) | ((with_reducible apply r_escD); rfl; (try dsimp only [List.set_cons_zero, List.set_cons_succ])) | ((with_reducible apply r_tu); rfl; rfl; trivial) | ((with_reducible apply r_addX); (focus ((repeat (first | assumption | with_reducible exact tl_nil | with_reducible apply tl_cons | with_reducible apply tl_app | with_reducible apply tl_take | with_reducible apply tl_drop | with_reducible apply tl_cut | with_reducible apply tl_bef | with_reducible apply tl_beh | with_reducible apply tl_map)); done)); (focus ((repeat (first | assumption | with_reducible exact tl_nil | with_reducible apply tl_cons | with_reducible apply tl_app | with_reducible apply tl_take | with_reducible apply tl_drop | with_reducible apply tl_cut | with_reducible apply tl_bef | with_reducible apply tl_beh | with_reducible apply tl_map)); done)); rfl) | ((with_reducible apply r_lenX); (focus ((repeat (first | assumption | with_reducible exact tl_nil | with_reducible apply tl_cons | with_reducible apply tl_app | with_reducible apply tl_take | with_reducible apply tl_drop | with_reducible apply tl_cut | with_reducible apply tl_bef | with_reducible apply tl_beh | with_reducible apply tl_map)); done)); rfl) | ((with_reducible apply r_slXt); rfl; (focus ((repeat (first | assumption | with_reducible exact tl_nil | with_reducible apply tl_cons | with_reducible apply tl_app | with_reducible apply tl_take | with_reducible apply tl_drop | with_reducible apply tl_cut | with_reducible apply tl_bef | with_reducible apply tl_beh | with_reducible apply tl_map)); done)); rfl) | ((with_reducible apply r_slXd); rfl; (focus ((repeat (first | assumption | with_reducible exact tl_nil | with_reducible apply tl_cons | with_reducible apply tl_app | with_reducible apply tl_take | with_reducible apply tl_drop | with_reducible apply tl_cut | with_reducible apply tl_bef | with_reducible apply tl_beh | with_reducible apply tl_map)); done)); rfl) | ((with_reducible apply r_slX); rfl; (focus ((repeat (first | assumption | with_reducible exact tl_nil | with_reducible apply tl_cons | with_reducible apply tl_app | with_reducible apply tl_take | with_reducible apply tl_drop | with_reducible apply tl_cut | with_reducible apply tl_bef | with_reducible apply tl_beh | with_reducible apply tl_map)); done)); rfl) | ((with_reducible apply r_eqX); (focus ((repeat (first | assumption | with_reducible exact as_nil | ((with_reducible apply as_cons); decide) | with_reducible apply as_app | with_reducible apply as_take | with_reducible apply as_drop | with_reducible apply as_cut | with_reducible apply as_bef | with_reducible apply as_beh | with_reducible apply as_low | with_reducible apply as_mul)); done)); (focus ((repeat (first | assumption | with_reducible exact as_nil | ((with_reducible apply as_cons); decide) | with_reducible apply as_app | with_reducible apply as_take | with_reducible apply as_drop | with_reducible apply as_cut | with_reducible apply as_bef | with_reducible apply as_beh | with_reducible apply as_low | with_reducible apply as_mul)); done))) | ((with_reducible apply r_neX); (focus ((repeat (first | assumption | with_reducible exact as_nil | ((with_reducible apply as_cons); decide) | with_reducible apply as_app | with_reducible apply as_take | with_reducible apply as_drop | with_reducible apply as_cut | with_reducible apply as_bef | with_reducible apply as_beh | with_reducible apply as_low | with_reducible apply as_mul)); done)); (focus ((repeat (first | assumption | with_reducible exact as_nil | ((with_reducible apply as_cons); decide) | with_reducible apply as_app | with_reducible apply as_take | with_reducible apply as_drop | with_reducible apply as_cut | with_reducible apply as_bef | with_reducible apply as_beh | with_reducible apply as_low | with_reducible apply as_mul)); done))) | ((with_reducible apply r_slT); rfl; (focus (apply cutN; rfl; rfl; (focus ((repeat (first | exact dr_zero | exact dr_nil | apply dr_succ)); done)); (focus ((repeat (first | exact tk_zero | exact tk_nil | apply tk_succ)); done))))) | ((with_reducible apply r_slL); rfl; (focus (apply cutN; rfl; rfl; (focus ((repeat (first | exact dr_zero | exact dr_nil | apply dr_succ)); done)); (focus ((repeat (first | exact tk_zero | exact tk_nil | apply tk_succ)); done))))) | ((with_reducible apply r_slLt); rfl) | ((with_reducible apply r_slLd); rfl) | ((with_reducible apply r_slT); rfl; rfl) | ((with_reducible apply r_slL); rfl; rfl) | ((with_reducible apply r_split); (focus ((repeat (first | assumption | with_reducible exact tl_nil | with_reducible apply tl_cons | with_reducible apply tl_app | with_reducible apply tl_take | with_reducible apply tl_drop | with_reducible apply tl_cut | with_reducible apply tl_bef | with_reducible apply tl_beh | with_reducible apply tl_map)); done)); rfl; rfl) | ((with_reducible apply r_part); (focus ((repeat (first | assumption | with_reducible exact tl_nil | with_reducible apply tl_cons | with_reducible apply tl_app | with_reducible apply tl_take | with_reducible apply tl_drop | with_reducible apply tl_cut | with_reducible apply tl_bef | with_reducible apply tl_beh | with_reducible apply tl_map)); done)); rfl) | ((with_reducible apply r_reprX); (focus ((repeat (first | assumption | with_reducible exact as_nil | ((with_reducible apply as_cons); decide) | with_reducible apply as_app | with_reducible apply as_take | with_reducible apply as_drop | with_reducible apply as_cut | with_reducible apply as_bef | with_reducible apply as_beh | with_reducible apply as_low | with_reducible apply as_mul)); done)); (focus ((repeat (first | assumption | with_reducible exact tl_nil | with_reducible apply tl_cons | with_reducible apply tl_app | with_reducible apply tl_take | with_reducible apply tl_drop | with_reducible apply tl_cut | with_reducible apply tl_bef | with_reducible apply tl_beh | with_reducible apply tl_map)); done)); rfl) | ((with_reducible apply r_reprV); (focus ((repeat (first | assumption | with_reducible exact rp_non | with_reducible exact rp_bl | ((with_reducible apply rp_int); omega) | ((with_reducible apply rp_str); (focus ((repeat (first | assumption | with_reducible exact as_nil | ((with_reducible apply as_cons); decide) | with_reducible apply as_app | with_reducible apply as_take | with_reducible apply as_drop | with_reducible apply as_cut | with_reducible apply as_bef | with_reducible apply as_beh | with_reducible apply as_low | with_reducible apply as_mul)); done)); (focus ((repeat (first | assumption | with_reducible exact tl_nil | with_reducible apply tl_cons | with_reducible apply tl_app | with_reducible apply tl_take | with_reducible apply tl_drop | with_reducible apply tl_cut | with_reducible apply tl_bef | with_reducible apply tl_beh | with_reducible apply tl_map)); done))) | with_reducible apply rp_tup | with_reducible apply rp_lst | with_reducible exact rpl_nil | with_reducible apply rpl_cons)); done)); rfl; rfl) | ((with_reducible apply r_reprV); assumption; assumption; assumption) | ((with_reducible apply r_reprD); (focus ((repeat (first | assumption | with_reducible exact rx_dic | with_reducible exact rxs_nil | with_reducible apply rxs_cons | with_reducible apply rx_tup | with_reducible apply rx_lst | ((with_reducible apply RPv.x); (focus ((repeat (first | assumption | with_reducible exact rp_non | with_reducible exact rp_bl | ((with_reducible apply rp_int); omega) | ((with_reducible apply rp_str); (focus ((repeat (first | assumption | with_reducible exact as_nil | ((with_reducible apply as_cons); decide) | with_reducible apply as_app | with_reducible apply as_take | with_reducible apply as_drop | with_reducible apply as_cut | with_reducible apply as_bef | with_reducible apply as_beh | with_reducible apply as_low | with_reducible apply as_mul)); done)); (focus ((repeat (first | assumption | with_reducible exact tl_nil | with_reducible apply tl_cons | with_reducible apply tl_app | with_reducible apply tl_take | with_reducible apply tl_drop | with_reducible apply tl_cut | with_reducible apply tl_bef | with_reducible apply tl_beh | with_reducible apply tl_map)); done))) | with_reducible apply rp_tup | with_reducible apply rp_lst | with_reducible exact rpl_nil | with_reducible apply rpl_cons)); done))))); done)); rfl; rfl) | ((with_reducible apply r_eqRx); (focus ((repeat (first | assumption | with_reducible exact rx_dic | with_reducible exact rxs_nil | with_reducible apply rxs_cons | with_reducible apply rx_tup | with_reducible apply rx_lst | ((with_reducible apply RPv.x); (focus ((repeat (first | assumption | with_reducible exact rp_non | with_reducible exact rp_bl | ((with_reducible apply rp_int); omega) | ((with_reducible apply rp_str); (focus ((repeat (first | assumption | with_reducible exact as_nil | ((with_reducible apply as_cons); decide) | with_reducible apply as_app | with_reducible apply as_take | with_reducible apply as_drop | with_reducible apply as_cut | with_reducible apply as_bef | with_reducible apply as_beh | with_reducible apply as_low | with_reducible apply as_mul)); done)); (focus ((repeat (first | assumption | with_reducible exact tl_nil | with_reducible apply tl_cons | with_reducible apply tl_app | with_reducible apply tl_take | with_reducible apply tl_drop | with_reducible apply tl_cut | with_reducible apply tl_bef | with_reducible apply tl_beh | with_reducible apply tl_map)); done))) | with_reducible apply rp_tup | with_reducible apply rp_lst | with_reducible exact rpl_nil | with_reducible apply rpl_cons)); done))))); done))) | ((with_reducible apply r_neRx); (focus ((repeat (first | assumption | with_reducible exact rx_dic | with_reducible exact rxs_nil | with_reducible apply rxs_cons | with_reducible apply rx_tup | with_reducible apply rx_lst | ((with_reducible apply RPv.x); (focus ((repeat (first | assumption | with_reducible exact rp_non | with_reducible exact rp_bl | ((with_reducible apply rp_int); omega) | ((with_reducible apply rp_str); (focus ((repeat (first | assumption | with_reducible exact as_nil | ((with_reducible apply as_cons); decide) | with_reducible apply as_app | with_reducible apply as_take | with_reducible apply as_drop | with_reducible apply as_cut | with_reducible apply as_bef | with_reducible apply as_beh | with_reducible apply as_low | with_reducible apply as_mul)); done)); (focus ((repeat (first | assumption | with_reducible exact tl_nil | with_reducible apply tl_cons | with_reducible apply tl_app | with_reducible apply tl_take | with_reducible apply tl_drop | with_reducible apply tl_cut | with_reducible apply tl_bef | with_reducible apply tl_beh | with_reducible apply tl_map)); done))) | with_reducible apply rp_tup | with_reducible apply rp_lst | with_reducible exact rpl_nil | with_reducible apply rpl_cons)); done))))); done))) | ((with_reducible apply r_eqRp); (focus ((repeat (first | assumption | with_reducible exact rp_non | with_reducible exact rp_bl | ((with_reducible apply rp_int); omega) | ((with_reducible apply rp_str); (focus ((repeat (first | assumption | with_reducible exact as_nil | ((with_reducible apply as_cons); decide) | with_reducible apply as_app | with_reducible apply as_take | with_reducible apply as_drop | with_reducible apply as_cut | with_reducible apply as_bef | with_reducible apply as_beh | with_reducible apply as_low | with_reducible apply as_mul)); done)); (focus ((repeat (first | assumption | with_reducible exact tl_nil | with_reducible apply tl_cons | with_reducible apply tl_app | with_reducible apply tl_take | with_reducible apply tl_drop | with_reducible apply tl_cut | with_reducible apply tl_bef | with_reducible apply tl_beh | with_reducible apply tl_map)); done))) | with_reducible apply rp_tup | with_reducible apply rp_lst | with_reducible exact rpl_nil | with_reducible apply rpl_cons)); done))) | ((with_reducible apply r_neRp); (focus ((repeat (first | assumption | with_reducible exact rp_non | with_reducible exact rp_bl | ((with_reducible apply rp_int); omega) | ((with_reducible apply rp_str); (focus ((repeat (first | assumption | with_reducible exact as_nil | ((with_reducible apply as_cons); decide) | with_reducible apply as_app | with_reducible apply as_take | with_reducible apply as_drop | with_reducible apply as_cut | with_reducible apply as_bef | with_reducible apply as_beh | with_reducible apply as_low | with_reducible apply as_mul)); done)); (focus ((repeat (first | assumption | with_reducible exact tl_nil | with_reducible apply tl_cons | with_reducible apply tl_app | with_reducible apply tl_take | with_reducible apply tl_drop | with_reducible apply tl_cut | with_reducible apply tl_bef | with_reducible apply tl_beh | with_reducible apply tl_map)); done))) | with_reducible apply rp_tup | with_reducible apply rp_lst | with_reducible exact rpl_nil | with_reducible apply rpl_cons)); done))) | ((with_reducible apply r_tupK); rfl; rfl; (focus (repeat (first | with_reducible exact fr_nil | (with_reducible apply fr_cons) | with_reducible exact fz_int | with_reducible exact fz_bl | with_reducible exact fz_non | with_reducible exact fz_str | with_reducible exact fz_tup | with_reducible exact fz_lst | with_reducible exact fz_dic | with_reducible exact fz_ty | with_reducible exact fz_atm | (with_reducible apply fz_id; assumption; assumption) | rfl)))) | ((with_reducible apply r_lstK); rfl; rfl; (focus (repeat (first | with_reducible exact fr_nil | (with_reducible apply fr_cons) | with_reducible exact fz_int | with_reducible exact fz_bl | with_reducible exact fz_non | with_reducible exact fz_str | with_reducible exact fz_tup | with_reducible exact fz_lst | with_reducible exact fz_dic | with_reducible exact fz_ty | with_reducible exact fz_atm | (with_reducible apply fz_id; assumption; assumption) | rfl)))) | ((with_reducible apply r_lmK); rfl; (focus (repeat (first | with_reducible exact fr_nil | (with_reducible apply fr_cons) | with_reducible exact fz_int | with_reducible exact fz_bl | with_reducible exact fz_non | with_reducible exact fz_str | with_reducible exact fz_tup | with_reducible exact fz_lst | with_reducible exact fz_dic | with_reducible exact fz_ty | with_reducible exact fz_atm | (with_reducible apply fz_id; assumption; assumption) | rfl)))) | ((with_reducible apply r_lendT); rfl; (try dsimp only [List.set_cons_zero, List.set_cons_succ])) | ((with_reducible apply r_lendFL); rfl; (try dsimp only [List.set_cons_zero, List.set_cons_succ])) | ((with_reducible apply r_lendFD); rfl; (try dsimp only [List.set_cons_zero, List.set_cons_succ])) | ((with_reducible apply r_own); (focus (repeat (first | with_reducible exact own_nil | (apply own_consN; rfl) | (apply own_consV; rfl; (first | rfl | assumption)))))) | ((with_reducible apply r_lcK); rfl; (focus (first | with_reducible exact fz_int | with_reducible exact fz_bl | with_reducible exact fz_non | with_reducible exact fz_str | with_reducible exact fz_tup | (with_reducible apply fz_id; assumption; assumption))); (focus (repeat (first | with_reducible exact cat_nil | (with_reducible apply cat_cons)))); (try dsimp only [wb, wipeE, List.set_cons_zero, List.set_cons_succ])) | ((with_reducible apply r_anyK); rfl) | ((with_reducible apply r_fld); (first | decide | simp); rfl; rfl) | ((with_reducible apply r_isC); rfl) | ((with_reducible apply r_ek); (try dsimp only [wb, wipeE, unwipe, List.set_cons_zero, List.set_cons_succ, List.getD_cons_zero, List.getD_cons_succ])) | (dsimp only [wb, wipeE, unwipe, List.set_cons_zero, List.set_cons_succ, List.getD_cons_zero, List.getD_cons_succ])))); (try (focus assumption))))
theorem RPx.mono {v : Val} {n d n' d' : Nat} (a : RPx v n d) (h : n ≤ n') (h2 : d ≤ d') : RPx v n' d' := ⟨a.pl, a.sh, Nat.le_trans a.dp h2, a.g.mono h⟩
theorem rxs_all {n d : Nat} : ∀ {vs : List Val}, (∀ v ∈ vs, RPx v n d) → RPxs vs ((n + 2) * vs.length) d
  | [], _ => ⟨rfl, rfl, Nat.zero_le _, .nil⟩
  | v :: vs, h => by
    have z := rxs_cons (h v List.mem_cons_self) (rxs_all fun u hu => h u (List.mem_cons_of_mem _ hu))
    rw [Nat.max_self] at z
    rw [List.length_cons, Nat.mul_succ, Nat.add_comm]
    exact z
structure Wo (v : Val) : Prop where
  c : CV v
  r : ∃ n d, RPx v n d ∧ n ≤ 100 ∧ d ≤ 5
def LW (w m : Val) : List Val := [w, w, w, w, w, w, w, w, w, w, w, w, w, w, w, w, w, w, w, w, w, w, w, w, w, w, w, w, w, m, w, m]
theorem due_list (w m : Val) : (List.replicate (28 : Int).toNat [w]).flatten ++ [w, m, w, m] = LW w m := rfl
theorem law_holds (ns : List Int) (hl : ns.length ≤ 63) (_ : ∀ z ∈ ns, Builtin.Int.intBits z ≤ 1048576) : fsp_law [.lst false (ns.map Val.int)] (fun _ _ => False) fun v _ => v = .bl true := by
  apply e_law
  unfold p_law
  get_elem_tactic_extensible
  apply x__law_begin hl
  intro d0 hd0
  have od0 := hd0.owned
  get_elem_tactic_extensible
  refine r_rg1 rfl ?_ ?_ ?_
  · rw [List.length_map]
    split <;> omega
  · rw [List.length_map]
    split <;> omega
  refine for_inv (fun i e => ∃ d o2 o3 o4 o5 o6 o7 o8, e = [some (.lst false (ns.map Val.int)), some d, o2, o3, o4, o5, o6, o7, o8] ∧ Dr (100 * i) d) ⟨d0, _, _, _, _, _, _, _, rfl, hd0⟩ ?_ ?_
  · rintro i x e Nx hx ⟨d, o2, o3, o4, o5, o6, o7, o8, rfl, hd⟩ hN
    obtain ⟨i1, rfl⟩ := rangeV_get hx
    have hi : i < 1000 := by
      rw [List.length_map] at i1
      have z2 : (if 3 + (ns.length : Int) < 12 then 3 + (ns.length : Int) else 12) ≤ 12 := by split <;> omega
      omega
    have od := hd.owned
    get_elem_tactic_extensible
    apply x__law_next hd (by omega) (by omega) (by omega)
    intro r1 d1 a1 b1 hd1
    have od1 := hd1.owned
    get_elem_tactic_extensible
    apply x__law_next hd1 (by omega) (by omega) (by omega)
    intro r2 d2 a2 b2 hd2
    have od2 := hd2.owned
    have all : ∀ v ∈ ([.non, .int (r1 - 1000), .str (tx [116, 111, 108, 100]), .tup [.int (r1 - 1000), .int 7], .lst false [.int (r1 - 1000)], .tup [.str (tx [97]), .tup []], .dic false [] [], .bl true] : List Val), Wo v := by
      have rn : RPv .non 4 0 := rp_non
      have ri : RPv (.int (r1 - 1000)) 21 0 := rp_int (by omega)
      have r7 : RPv (.int 7) 21 0 := rp_int (by omega)
      have rs : RPv (.str (tx [116, 111, 108, 100])) (4 * 4 + 2) 0 := rp_str (by unfold As; decide) (by decide)
      have ra : RPv (.str (tx [97])) (4 * 1 + 2) 0 := rp_str (by unfold As; decide) (by decide)
      intro v hv
      simp only [List.mem_cons, List.not_mem_nil, or_false] at hv
      rcases hv with rfl | rfl | rfl | rfl | rfl | rfl | rfl | rfl
      · exact ⟨inferInstance, _, _, rn.x, by decide, by decide⟩
      · exact ⟨inferInstance, _, _, ri.x, by decide, by decide⟩
      · exact ⟨inferInstance, _, _, rs.x, by decide, by decide⟩
      · exact ⟨inferInstance, _, _, rx_tup (rxs_cons ri.x (rxs_cons r7.x rxs_nil)), by decide, by decide⟩
      · exact ⟨inferInstance, _, _, rx_lst (rxs_cons ri.x rxs_nil), by decide, by decide⟩
      · exact ⟨inferInstance, _, _, rx_tup (rxs_cons ra.x (rxs_cons (rx_tup rxs_nil) rxs_nil)), by decide, by decide⟩
      · exact ⟨inferInstance, _, _, rx_dic, by decide, by decide⟩
      · exact ⟨inferInstance, _, _, rp_bl.x, by decide, by decide⟩
    get_elem_tactic_extensible
    refine r_pick Wo all a2 b2 fun w hw => ?_
    have cw := hw.c
    get_elem_tactic_extensible
    apply x__law_next hd2 (by omega) (by omega) (by omega)
    intro r3 d3 a3 b3 hd3
    have od3 := hd3.owned
    get_elem_tactic_extensible
    refine r_pick Wo all a3 b3 fun m hm => ?_
    have cm := hm.c
    get_elem_tactic_extensible
    refine r_mulL (by omega) (by omega) (by simp) ?_
    get_elem_tactic_extensible
    refine r_addL (by rw [sizeLine_eq]; simp) ?_
    rw [due_list]
    get_elem_tactic_extensible
    apply x__law_made cw cm
    get_elem_tactic_extensible
    apply x__law_named cw cm
    get_elem_tactic_extensible
    obtain ⟨nw, dw, pw, lw, kw⟩ := hw.r
    obtain ⟨nq, dq, pm, lm, km⟩ := hm.r
    have rL : ∀ o, RPx (.lst o (LW w m)) (102 * 32 + 2) (5 + 1) := fun o => rx_lst (rxs_all fun v hv => by
      have e : v = w ∨ v = m := by
        rcases List.mem_append.mp (show v ∈ List.replicate 29 w ++ [m, w, m] from hv) with h | h
        · exact .inl (List.eq_of_mem_replicate h)
        · simp only [List.mem_cons, List.not_mem_nil, or_false] at h
          rcases h with h | h | h
          · exact .inr h
          · exact .inl h
          · exact .inr h
      rcases e with rfl | rfl
      · exact Gw.RPx.mono pw lw kw
      · exact Gw.RPx.mono pm lm km)
    have r1 := rL true
    have r2 := rL false
    get_elem_tactic_extensible
    apply x__law_families_right (by rfl) (mk_at w m)
    get_elem_tactic_extensible
    apply x__law_fields cw cm
    rw [show [w, w, w, w, w, w, w, w, w, w, w, w, w, w, w, w, w, w, w, w, w, w, w, w, w, w, w, w, w, m, w, m] = LW w m from rfl]
    get_elem_tactic_extensible
    apply x__law_families_right (by rfl) (mk_at w m)
    get_elem_tactic_extensible
    apply x__law_fields cw cm
    rw [show [w, w, w, w, w, w, w, w, w, w, w, w, w, w, w, w, w, w, w, w, w, w, w, w, w, w, w, w, w, m, w, m] = LW w m from rfl]
    get_elem_tactic_extensible
    exact hN _ ⟨d3, _, _, _, _, _, _, _, rfl, hd3.mono (by omega)⟩
  · rintro e ⟨d, o2, o3, o4, o5, o6, o7, o8, rfl, hd⟩
    get_elem_tactic_extensible

end Gw
set_option Elab.async false
set_option linter.all false
set_option maxRecDepth 100000
set_option maxHeartbeats 0
open PySem PySem.W PySem.Calls PyProof.Rows
theorem PySem.Challenge.cw_feedreader_k01_error_classes_holds : PySem.Challenge.rw_feedreader_k01_error_classes.Holds := by
  w_on; o_law
  refine HandSHeadRun.head_any (r := OpenLaw.row PySem.Challenge.rw_feedreader_k01_error_classes) (q := view (OpenLaw.row PySem.Challenge.rw_feedreader_k01_error_classes).prog [41]) (H := Gw.hk) (ob := Gw.ob) (M := 20000) (loose := Gw.loose) (d := HandSHeadRun.topDef (OpenLaw.row PySem.Challenge.rw_feedreader_k01_error_classes).prog 41) (kwd := []) Gw.ob_eq
    (by kernel_rfl) (fun s => by kernel_rfl) Gw.run (by kernel_rfl) (by kernel_rfl) (by kernel_rfl) (by rfl) (by first | assumption | decide +kernel) (by decide +kernel) ⟨rfl, rfl, rfl, rfl, rfl, by decide +kernel⟩ ?hw ?hc
  case hw => w_witness2
  case hc =>
    refine Qv.walk_G (l := PySem.Challenge.rw_feedreader_k01_error_classes) (n := 63) (k := 4) (x := "script") rfl (by decide) (by kernel_rfl) ⟨rfl, by decide, by decide⟩ ?F
    intro w mg fa h Y G hmg0
    obtain ⟨K, KX, c⟩ := Y
    have fx := Gw.fx_of KX G c
    have hmg : mg ("law" : PySem.Str) = some (.ref fa) := by
      have e : (HandSHeadRun.topDef (OpenLaw.row PySem.Challenge.rw_feedreader_k01_error_classes).prog 41).name = ("law" : PySem.Str) := by kernel_rfl
      rw [← e]
      exact hmg0
    have e := hmg.symm.trans fx.g_law
    cases e
    exact Qv.law_end fx.d_law (fun _ _ _ _ _ _ us hl => match us, hl with | [_], _ => rfl) KX (fun base _ _ => Gw.fn_law fx) Gw.law_holds
