import PyProof.Rows.All
import Wide.All
import OpenK.AllK
import Wide.FinOn
import HandS.ForMost
import HandS.Defaults
import HandS.Star
import HandS.DictComp
import HandS.Wide
import HandS.IsInst
import HandS.Strs
import HandS.SetFor
import HandS.SortInts
import HandS.HeadHook1
import HandS.HeadHook2
import HandS.Conv
import HandS.OwnEq
import KE.KOpsOwn
import PyProof.InstEq
import HandS.Head0
import HandS.Head1
import HandS.Head2
import HandS.HeadEnd
import HandS.Flow
import HandS.Codes
import KE.GoesEnum
import HandS.TryOnly
import HandS.FStr
import HandS.TupAny
import HandS.Zip
import HandS.Style
import HandS.MakeKwOnly
import HandS.Ends
import PySem.Challenge.RW_timesalone_k10_sayings_written
set_option Elab.async false
set_option linter.all false
set_option maxRecDepth 100000
set_option maxHeartbeats 4000000
/-! RL1: what a piece of the text does, told goal by goal (tE, tT, tS), and types of values that persist (Ty) -/
namespace RL
open PySem PySem.Spec PyProof.Rows L2

/-! no star among the elements -/
def notStar : Expr → Bool
  | .Starred _ _ => false
  | _ => true
theorem se_cons {a : Expr} {es : List Expr} {env : Env} (h : notStar a = true) : starEach (a :: es) env = (false, eval a env) :: starEach es env := by
  cases a <;> first | (simp [notStar] at h; done) | (rw [starEach]; done) | (simp only [starEach]; done) | rfl
theorem se_one {a : Expr} {env : Env} (h : notStar a = true) : starEach [a] env = [(false, eval a env)] := by
  rw [se_cons h, starEach]
theorem se_two {a b : Expr} {env : Env} (h : notStar a = true) (h' : notStar b = true) : starEach [a, b] env = [(false, eval a env), (false, eval b env)] := by
  rw [se_cons h, se_one h']
theorem se_any {pos : Pos} {es : List Expr} {env : Env} (h : es.all notStar = true) : (backTo pos (starEach es env)).any (·.1) = false := by
  unfold backTo
  rw [List.any_map]
  induction es with
  | nil => rw [starEach]; rfl
  | cons a es ih =>
    rw [List.all_cons, Bool.and_eq_true] at h
    rw [se_cons h.1, List.any_cons, ih h.2]
    rfl
/-! ### goals -/
structure TEs (X : Cx) (e : Expr) (σ : L2.St) (H : Hp) (Q : VK) : Prop where
  run : ∀ pins s, Inv X pins σ H s → wpAny (model X.prog X.w) X.A (eval e X.env) (EP X pins σ Q) X.xe s
structure TTst (X : Cx) (e : Expr) (σ : L2.St) (H : Hp) (Q : Bool → Hp → Prop) : Prop where
  run : ∀ pins s, Inv X pins σ H s → wpAny (model X.prog X.w) X.A (isTrue e X.env (eval e X.env)) (TP X pins σ Q) X.xe s
structure TAs (X : Cx) (es : List Expr) (σ : L2.St) (H : Hp) (Q : List V → Hp → Prop) : Prop where
  run : ∀ pos pins s, Inv X pins σ H s → wpAny (model X.prog X.w) X.A (spliced (backTo pos (starEach es X.env))) (AP X pins σ Q) X.xe s
structure TSs (X : Cx) (st : Stmt) (D : Ends) (σ : L2.St) (H : Hp) : Prop where
  run : ∀ pins s, Inv X pins σ H s → wpAny (model X.prog X.w) X.A (exec st X.env) (SP X pins D) X.xe s
structure TBs (X : Cx) (st : List Stmt) (D : Ends) (σ : L2.St) (H : Hp) : Prop where
  run : ∀ pins s, Inv X pins σ H s → wpAny (model X.prog X.w) X.A (execs st X.env) (SP X pins D) X.xe s
structure TTss (X : Cx) (ifs : List Expr) (σ : L2.St) (H : Hp) (Q : Bool → Hp → Prop) : Prop where
  run : ∀ pins s, Inv X pins σ H s → wpAny (model X.prog X.w) X.A (forIn ifs true fun c r => if r = true then do let ok ← isTrue c X.env (eval c X.env); pure (ForInStep.yield ok) else pure (ForInStep.yield r)) (TP X pins σ Q) X.xe s
abbrev tE (X : Cx) (e : Expr) : TE := fun σ H Q => TEs X e σ H Q
abbrev tT (X : Cx) (e : Expr) : TT := fun σ H Q => TTst X e σ H Q
abbrev tA (X : Cx) (es : List Expr) : TA := fun σ H Q => TAs X es σ H Q
abbrev tS (X : Cx) (st : Stmt) : TS := fun D σ H => TSs X st D σ H
abbrev tB (X : Cx) (st : List Stmt) : TS := fun D σ H => TBs X st D σ H
abbrev tTs (X : Cx) (ifs : List Expr) : TT := fun σ H Q => TTss X ifs σ H Q
section
variable {X : Cx}
theorem pe (e : Expr) : PE X e (tE X e) := ⟨fun pins s _ _ _ I h => h.run pins s I⟩
theorem pt (e : Expr) : PT X e (tT X e) := ⟨fun pins s _ _ _ I h => h.run pins s I⟩
theorem pa (es : List Expr) : PA X es (tA X es) := ⟨fun pos pins s _ _ _ I h => h.run pos pins s I⟩
theorem ps (st : Stmt) : PS X st (tS X st) := ⟨fun pins s _ _ _ I h => h.run pins s I⟩
theorem pb (st : List Stmt) : PSs X st (tB X st) := ⟨fun pins s _ _ _ I h => h.run pins s I⟩
theorem pts (ifs : List Expr) : PTs X ifs (tTs X ifs) := ⟨fun pins s _ _ _ I h => h.run pins s I⟩
theorem toE {e : Expr} {t : TE} (p : PE X e t) {σ : L2.St} {H : Hp} {Q : VK} (h : t σ H Q) : tE X e σ H Q := ⟨fun pins s I => p.run pins s σ H Q I h⟩
theorem toT {e : Expr} {t : TT} (p : PT X e t) {σ : L2.St} {H : Hp} {Q : Bool → Hp → Prop} (h : t σ H Q) : tT X e σ H Q := ⟨fun pins s I => p.run pins s σ H Q I h⟩
theorem toA {es : List Expr} {t : TA} (p : PA X es t) {σ : L2.St} {H : Hp} {Q : List V → Hp → Prop} (h : t σ H Q) : tA X es σ H Q := ⟨fun pos pins s I => p.run pos pins s σ H Q I h⟩
theorem toS {st : Stmt} {t : TS} (p : PS X st t) {σ : L2.St} {H : Hp} {D : Ends} (h : t D σ H) : tS X st D σ H := ⟨fun pins s I => p.run pins s σ H D I h⟩
theorem toB {st : List Stmt} {t : TS} (p : PSs X st t) {σ : L2.St} {H : Hp} {D : Ends} (h : t D σ H) : tB X st D σ H := ⟨fun pins s I => p.run pins s σ H D I h⟩
theorem toTs {ifs : List Expr} {t : TT} (p : PTs X ifs t) {σ : L2.St} {H : Hp} {Q : Bool → Hp → Prop} (h : t σ H Q) : tTs X ifs σ H Q := ⟨fun pins s I => p.run pins s σ H Q I h⟩
theorem tE_mono {e : Expr} {σ : L2.St} {H : Hp} {Q Q' : VK} (h : tE X e σ H Q) (k : ∀ v H', Q v H' → Q' v H') : tE X e σ H Q' := ⟨fun pins s I =>
  thn (h.run pins s I) fun _ _ ⟨v, H', I', r, q⟩ => ⟨v, H', I', r, k v H' q⟩⟩
theorem tA_mono {es : List Expr} {σ : L2.St} {H : Hp} {Q Q' : List V → Hp → Prop} (h : tA X es σ H Q) (k : ∀ v H', Q v H' → Q' v H') : tA X es σ H Q' := ⟨fun pos pins s I =>
  thn (h.run pos pins s I) fun _ _ ⟨v, H', I', r, q⟩ => ⟨v, H', I', r, k v H' q⟩⟩
theorem tT_mono {e : Expr} {σ : L2.St} {H : Hp} {Q Q' : Bool → Hp → Prop} (h : tT X e σ H Q) (k : ∀ v H', Q v H' → Q' v H') : tT X e σ H Q' := ⟨fun pins s I =>
  thn (h.run pins s I) fun _ _ ⟨H', I', q⟩ => ⟨H', I', k _ H' q⟩⟩
/-- what is tracked at d is frozen as it stands -/
theorem freeze_ok {pins : List (Addr × Obj)} {σ : L2.St} {H : Hp} {s : Shared} {d : Addr} {u : HO} (I : Inv X pins σ H s) (h : H d = some u) (mu : Mut (some u)) : ∃ od, Inv X pins σ (upd H d (.frz od u)) s := I.lock h mu
theorem tE_frz {e : Expr} {σ : L2.St} {H : Hp} {Q : VK} (h : tE X e σ H fun v H' => ∃ d u, H' d = some u ∧ Mut (some u) ∧ ∀ od, Q v (upd H' d (.frz od u))) : tE X e σ H Q := ⟨fun pins s I =>
  thn (h.run pins s I) fun _ _ ⟨v, H', I', r, d, u, hd, mu, q⟩ => by
    obtain ⟨od, J⟩ := I'.lock hd mu
    exact ⟨v, _, J, r, q od⟩⟩
theorem tB_frz {st : List Stmt} {σ : L2.St} {H : Hp} {D : Ends} {d : Addr} {u : HO} (hd : H d = some u) (mu : Mut (some u)) (h : ∀ od, tB X st D σ (upd H d (.frz od u))) : tB X st D σ H := ⟨fun pins s I => by
  obtain ⟨od, J⟩ := I.lock hd mu
  exact (h od).run pins s J⟩
theorem tE_frz0 {e : Expr} {σ : L2.St} {H : Hp} {Q : VK} {d : Addr} {u : HO} (hd : H d = some u) (mu : Mut (some u)) (h : ∀ od, tE X e σ (upd H d (.frz od u)) Q) : tE X e σ H Q := ⟨fun pins s I => by
  obtain ⟨od, J⟩ := I.lock hd mu
  exact (h od).run pins s J⟩
end

/-! ### orders of heaps -/
/-- all that was tracked is as it was -/
def Ex (H H' : Hp) : Prop := ∀ a o, H a = some o → H' a = some o
/-- what may change while it is tracked -/
def Unf : HO → Prop
  | .lst _ => True
  | .dK _ => True
  | .set _ _ => True
  | _ => False
/-- all but lists, dicts, sets that are not frozen -/
def Le (H H' : Hp) : Prop := ∀ a o, ¬ Unf o → H a = some o → H' a = some o
theorem Ex.refl (H : Hp) : Ex H H := fun _ _ h => h
theorem Ex.trans {H H1 H2 : Hp} (a : Ex H H1) (b : Ex H1 H2) : Ex H H2 := fun x o h => b x o (a x o h)
theorem Ex.new {H : Hp} {p : Addr} {o : HO} (h : H p = none) : Ex H (upd H p o) := fun a u e => by
  rw [upd_ne (ne_of_none e h)]; exact e
/-- what the base does not know may change -/
theorem Ex.mut {H H' : Hp} {p : Addr} {o : HO} (e : Ex H H') (h : H p = none) : Ex H (upd H' p o) := fun a u ha => by
  rw [upd_ne (ne_of_none ha h)]; exact e a u ha
theorem Ex.free {H H' : Hp} {p : Addr} (e : Ex H H') (h : H' p = none) : H p = none := by
  cases h1 : H p with
  | none => rfl
  | some o => rw [e p o h1] at h; cases h
theorem Ex.le {H H' : Hp} (e : Ex H H') : Le H H' := fun a o _ h => e a o h
theorem Le.refl (H : Hp) : Le H H := fun _ _ _ h => h
theorem Le.trans {H H1 H2 : Hp} (a : Le H H1) (b : Le H1 H2) : Le H H2 := fun x o u h => b x o u (a x o u h)
theorem Le.mut {H : Hp} {p : Addr} {o u : HO} (h : H p = some u) (hu : Unf u) : Le H (upd H p o) := fun a v nv e => by
  by_cases c : a = p
  · subst c; rw [h] at e; cases e; exact absurd hu nv
  · rw [upd_ne c]; exact e
theorem Le.new {H : Hp} {p : Addr} {o : HO} (h : H p = none) : Le H (upd H p o) := (Ex.new h).le

/-! ### types of values -/
structure Ty where
  is : V → Hp → Prop
  up : ∀ {v H H'}, Ex H H' → is v H → is v H'
instance : CoeFun Ty (fun _ => V → Hp → Prop) := ⟨Ty.is⟩
def anyT : Ty := ⟨fun _ _ => True, fun _ h => h⟩
/-- this very value -/
def valT (w : V) : Ty := ⟨fun v _ => v = w, fun _ h => h⟩
abbrev intT (i : Int) : Ty := valT (.int i)
abbrev strT (x : Str) : Ty := valT (.str x)
abbrev blT (b : Bool) : Ty := valT (.bl b)
abbrev nonT : Ty := valT .non
/-- some of a family -/
def exT {α : Sort u} (T : α → Ty) : Ty := ⟨fun v H => ∃ a, T a v H, fun e ⟨a, h⟩ => ⟨a, (T a).up e h⟩⟩
/-- and a fact -/
def andT (p : Prop) (T : Ty) : Ty := ⟨fun v H => p ∧ T v H, fun e ⟨a, h⟩ => ⟨a, T.up e h⟩⟩
/-- values of types, one by one -/
def All2 : List Ty → List V → Hp → Prop
  | [], [], _ => True
  | T :: Ts, v :: vs, H => T v H ∧ All2 Ts vs H
  | _, _, _ => False
theorem All2.up {H H' : Hp} (e : Ex H H') : ∀ {Ts : List Ty} {vs : List V}, All2 Ts vs H → All2 Ts vs H'
  | [], [], _ => trivial
  | T :: _, _ :: _, ⟨a, b⟩ => ⟨T.up e a, All2.up e b⟩
  | [], _ :: _, h => h.elim
  | _ :: _, [], h => h.elim
theorem All2.len {H : Hp} : ∀ {Ts : List Ty} {vs : List V}, All2 Ts vs H → Ts.length = vs.length
  | [], [], _ => rfl
  | _ :: _, _ :: _, ⟨_, b⟩ => congrArg (· + 1) (All2.len b)
  | [], _ :: _, h => h.elim
  | _ :: _, [], h => h.elim
theorem All2.get {H : Hp} : ∀ {Ts : List Ty} {vs : List V} {i : Nat} {T : Ty}, All2 Ts vs H → Ts[i]? = some T → ∃ v, vs[i]? = some v ∧ T v H
  | T :: _, v :: _, 0, _, ⟨a, _⟩, e => by simp at e; subst e; exact ⟨v, rfl, a⟩
  | _ :: _, _ :: _, i + 1, _, ⟨_, b⟩, e => by simpa using All2.get (i := i) b (by simpa using e)
  | [], _, _, _, _, e => by simp at e
  | _ :: _, [], _, _, h, _ => h.elim
theorem All2.append {H : Hp} : ∀ {Ts Us : List Ty} {vs ws : List V}, All2 Ts vs H → All2 Us ws H → All2 (Ts ++ Us) (vs ++ ws) H
  | [], _, [], _, _, h => h
  | _ :: _, _, _ :: _, _, ⟨a, b⟩, h => ⟨a, All2.append b h⟩
  | [], _, _ :: _, _, h, _ => h.elim
  | _ :: _, _, [], _, h, _ => h.elim
theorem All2.vals {H : Hp} : ∀ {ws vs : List V}, All2 (ws.map valT) vs H → vs = ws
  | [], [], _ => rfl
  | w :: ws, v :: vs, ⟨a, b⟩ => by have a' : v = w := a; rw [a', All2.vals b]
  | [], _ :: _, h => h.elim
  | _ :: _, [], h => h.elim
theorem All2.of_vals {H : Hp} : ∀ {ws : List V}, All2 (ws.map valT) ws H
  | [] => trivial
  | w :: ws => ⟨rfl, All2.of_vals⟩

/-- a frozen list -/
def FrzL (H : Hp) (a : Addr) (vs : List V) : Prop := ∃ o, H a = some (.frz o (.lst vs))
theorem FrzL.sq {K : PySem.W.Frag} {H : Hp} {a : Addr} {vs : List V} (h : FrzL H a vs) : SqL K H a vs := let ⟨o, h⟩ := h; .inl (.inr ⟨o, h⟩)
theorem FrzL.le {H H' : Hp} {a : Addr} {vs : List V} (e : Le H H') (h : FrzL H a vs) : FrzL H' a vs := let ⟨o, h⟩ := h; ⟨o, e a _ (fun z => z) h⟩
theorem FrzL.up {H H' : Hp} {a : Addr} {vs : List V} (e : Ex H H') (h : FrzL H a vs) : FrzL H' a vs := h.le e.le
/-- a frozen list of such items -/
def lstT (Ts : List Ty) : Ty := ⟨fun v H => ∃ a vs, v = .ref a ∧ FrzL H a vs ∧ All2 Ts vs H, fun {v H H'} e ⟨a, vs, h1, h2, h3⟩ => ⟨a, vs, h1, h2.up e, h3.up e⟩⟩
/-- a tuple of such items -/
def PerT (K : PySem.W.Frag) (H : Hp) (a : Addr) (vs : List V) : Prop := H a = some (.tup vs) ∨ (∃ o, H a = some (.frz o (.tup vs))) ∨ ∀ H' : Hp, SqT K H' a vs
theorem PerT.sq {K : PySem.W.Frag} {H : Hp} {a : Addr} {vs : List V} (h : PerT K H a vs) : SqT K H a vs := by
  rcases h with h | ⟨o, h⟩ | h
  · exact .inl (.inl h)
  · exact .inl (.inr ⟨o, h⟩)
  · exact h H
theorem PerT.le {K : PySem.W.Frag} {H H' : Hp} {a : Addr} {vs : List V} (e : Le H H') (h : PerT K H a vs) : PerT K H' a vs := by
  rcases h with h | ⟨o, h⟩ | h
  · exact .inl (e a _ (fun z => z) h)
  · exact .inr (.inl ⟨o, e a _ (fun z => z) h⟩)
  · exact .inr (.inr h)
theorem PerT.up {K : PySem.W.Frag} {H H' : Hp} {a : Addr} {vs : List V} (e : Ex H H') (h : PerT K H a vs) : PerT K H' a vs := h.le e.le
def tupT (K : PySem.W.Frag) (Ts : List Ty) : Ty := ⟨fun v H => ∃ a vs, v = .ref a ∧ PerT K H a vs ∧ All2 Ts vs H, fun {v H H'} e ⟨a, vs, h1, h2, h3⟩ => ⟨a, vs, h1, h2.up e, h3.up e⟩⟩

/-! what stays though something is mutated -/
class Stb (T : Ty) : Prop where
  le : ∀ {v H H'}, Le H H' → T v H → T v H'
class Stbs (Ts : List Ty) : Prop where
  le : ∀ {vs H H'}, Le H H' → All2 Ts vs H → All2 Ts vs H'
instance : Stb anyT := ⟨fun _ h => h⟩
instance (w : V) : Stb (valT w) := ⟨fun _ h => h⟩
instance {α : Sort u} (T : α → Ty) [h : ∀ a, Stb (T a)] : Stb (exT T) := ⟨fun e ⟨a, k⟩ => ⟨a, (h a).le e k⟩⟩
instance (p : Prop) (T : Ty) [h : Stb T] : Stb (andT p T) := ⟨fun e ⟨a, k⟩ => ⟨a, h.le e k⟩⟩
instance : Stbs [] := ⟨fun {vs H H'} _ h => by cases vs; exact h; exact h⟩
instance (T : Ty) (Ts : List Ty) [h : Stb T] [k : Stbs Ts] : Stbs (T :: Ts) := ⟨fun {vs H H'} e z => match vs, z with | _ :: _, ⟨a, b⟩ => ⟨h.le e a, k.le e b⟩⟩
theorem stbs_of {Ts : List Ty} (h : ∀ T ∈ Ts, Stb T) : Stbs Ts := by
  induction Ts with
  | nil => infer_instance
  | cons T Ts ih =>
    have := h T List.mem_cons_self
    have := ih fun U hU => h U (List.mem_cons_of_mem _ hU)
    infer_instance
instance {α : Type u} (f : α → Ty) (l : List α) [h : ∀ a, Stb (f a)] : Stbs (l.map f) := stbs_of fun T hT => by
  obtain ⟨a, _, rfl⟩ := List.mem_map.mp hT
  exact h a
instance (Ts : List Ty) [h : Stbs Ts] : Stb (lstT Ts) := ⟨fun e ⟨a, vs, h1, h2, h3⟩ => ⟨a, vs, h1, h2.le e, h.le e h3⟩⟩
instance (K : PySem.W.Frag) (Ts : List Ty) [h : Stbs Ts] : Stb (tupT K Ts) := ⟨fun e ⟨a, vs, h1, h2, h3⟩ => ⟨a, vs, h1, h2.le e, h.le e h3⟩⟩

/-! ### contexts: what the slots hold -/
abbrev Ctx := List (Option Ty)
def Typed (σ : L2.St) (Γ : Ctx) (H : Hp) : Prop := σ.length = Γ.length ∧ ∀ (i : Nat) (T : Ty), Γ[i]? = some (some T) → ∃ v, σ[i]? = some (some v) ∧ T v H
theorem Typed.up {σ : L2.St} {Γ : Ctx} {H H' : Hp} (e : Ex H H') (h : Typed σ Γ H) : Typed σ Γ H' := ⟨h.1, fun i T g => let ⟨v, a, b⟩ := h.2 i T g; ⟨v, a, T.up e b⟩⟩
theorem Typed.set {σ : L2.St} {Γ : Ctx} {H : Hp} {T : Ty} {v : V} (i : Nat) (h : Typed σ Γ H) (t : T v H) : Typed (σ.set i (some v)) (Γ.set i (some T)) H := by
  refine ⟨by simp [h.1], fun j U g => ?_⟩
  by_cases c : j = i
  · subst c
    have hl : j < Γ.length := by
      rw [List.getElem?_set_self'] at g
      cases q : Γ[j]? with
      | none => rw [q] at g; cases g
      | some _ => exact (List.getElem?_eq_some_iff.mp q).1
    rw [List.getElem?_set_self hl] at g
    cases g
    exact ⟨v, List.getElem?_set_self (by rw [h.1]; exact hl), t⟩
  · rw [List.getElem?_set_ne (Ne.symm c)] at g ⊢
    exact h.2 j U g
theorem Typed.get {σ : L2.St} {Γ : Ctx} {H : Hp} {T : Ty} (i : Nat) (h : Typed σ Γ H) (g : Γ[i]? = some (some T)) : ∃ v, σ[i]? = some (some v) ∧ T v H := h.2 i T g
/-- fewer words about the slots -/
theorem Typed.weak {σ : L2.St} {Γ Δ : Ctx} {H : Hp} (h : Typed σ Γ H) (hl : Γ.length = Δ.length) (w : ∀ (i : Nat) (T : Ty), Δ[i]? = some (some T) → ∃ U : Ty, Γ[i]? = some (some U) ∧ ∀ v, U v H → T v H) : Typed σ Δ H :=
  ⟨h.1.trans hl, fun i T g => let ⟨U, g', k⟩ := w i T g; let ⟨v, a, b⟩ := h.2 i U g'; ⟨v, a, k v b⟩⟩
theorem Typed.wipe1 {σ : L2.St} {Γ : Ctx} {H : Hp} (i : Nat) (h : Typed σ Γ H) : Typed (σ.set i none) (Γ.set i none) H := by
  refine ⟨by simp [h.1], fun j U g => ?_⟩
  by_cases c : j = i
  · subst c
    rw [List.getElem?_set_self'] at g
    cases q : Γ[j]? with
    | none => rw [q] at g; cases g
    | some _ => rw [q] at g; cases g
  · rw [List.getElem?_set_ne (Ne.symm c)] at g ⊢
    exact h.2 j U g
theorem Typed.wipe {Γ : Ctx} {H : Hp} : ∀ {σ : L2.St} (vs : List Nat), Typed σ Γ H → Typed (L2.wipe σ vs) (vs.foldr (fun v G => G.set v none) Γ) H
  | _, [], h => h
  | _, v :: vs, h => Typed.wipe1 v (Typed.wipe vs h)

/-! ### expressions -/
/-- e gives a value of T, all that was tracked stays -/
def Ev (X : Cx) (σ : L2.St) (H : Hp) (e : Expr) (T : Ty) : Prop := ∀ Q : VK, (∀ v H', Ex H H' → T v H' → Q v H') → tE X e σ H Q
def EvT (X : Cx) (σ : L2.St) (H : Hp) (e : Expr) (b : Bool) : Prop := ∀ Q : Bool → Hp → Prop, (∀ H', Ex H H' → Q b H') → tT X e σ H Q
def EvA (X : Cx) (σ : L2.St) (H : Hp) (es : List Expr) (Ts : List Ty) : Prop := ∀ Q : List V → Hp → Prop, (∀ vs H', Ex H H' → All2 Ts vs H' → Q vs H') → tA X es σ H Q
def G (X : Cx) (Γ : Ctx) (e : Expr) (T : Ty) : Prop := ∀ σ H, Typed σ Γ H → Ev X σ H e T
def GT (X : Cx) (Γ : Ctx) (e : Expr) (b : Bool) : Prop := ∀ σ H, Typed σ Γ H → EvT X σ H e b
def GA (X : Cx) (Γ : Ctx) (es : List Expr) (Ts : List Ty) : Prop := ∀ σ H, Typed σ Γ H → EvA X σ H es Ts
section
variable {X : Cx} {Γ : Ctx} {e a b c : Expr} {es : List Expr} {T U : Ty} {Ts : List Ty} {pos p : Pos} {x : Str}
theorem G.imp (h : G X Γ e T) (k : ∀ v H, T v H → U v H) : G X Γ e U := fun σ H t Q q => h σ H t Q fun v H' ex hv => q v H' ex (k v H' hv)
theorem G.is (h : G X Γ e T) (k : T = U) : G X Γ e U := k ▸ h
theorem GT.is {b b' : Bool} (h : GT X Γ e b) (k : b = b') : GT X Γ e b' := k ▸ h
theorem g_var (i : Nat) (hT : Γ[i]? = some (some T) := by rfl) (hN : X.N[i]? = some x := by rfl) (hv : Vis X.env.scope x := by first | exact Or.inl rfl | exact Or.inr (Or.inl rfl) | exact Or.inr (Or.inr rfl)) (hd : (x == ("__debug__" : Str)) = false := by decide)
    (hcd : (x == ("__classdict__" : Str)) = false := by decide) : G X Γ (.Name x pos) T := fun σ H t Q q => by
  obtain ⟨v, h1, h2⟩ := t.get i hT
  exact toE (pe_var (i := i) hN hv hd hcd) ⟨v, h1, q v H (Ex.refl H) h2⟩
theorem g_int {i : Int} {j : Nat} : G X Γ (.Constant (.int i) j pos) (intT i) := fun σ H t Q q => toE pe_int (q _ H (Ex.refl H) rfl)
theorem g_bl {i : Bool} {j : Nat} : G X Γ (.Constant (.bool i) j pos) (blT i) := fun σ H t Q q => toE pe_bl (q _ H (Ex.refl H) rfl)
theorem g_str {i : Str} {j : Nat} : G X Γ (.Constant (.str i) j pos) (strT i) := fun σ H t Q q => toE pe_str (q _ H (Ex.refl H) rfl)
theorem g_non {j : Nat} : G X Γ (.Constant .none j pos) nonT := fun σ H t Q q => toE pe_non (q _ H (Ex.refl H) rfl)
/-- a module's constant -/
theorem g_glob {v : V} {u : Value} (hm : X.mg x = some u) (r : RelV v u) (hg : Gl X x := by rfl) (hd : (x == ("__debug__" : Str)) = false := by decide) : G X Γ (.Name x pos) (valT v) := fun σ H t Q q => toE (pe_glob hg hm r hd) (q _ H (Ex.refl H) rfl)
/-- a binary operation by its rule on values -/
theorem g_op {op : Operator} {r : R2} {T' : Ty} (ho : OpR X (binaryOp op) r) (ha : G X Γ a T) (hb : G X Γ b U) (hr : ∀ x y H, T x H → U y H → ∀ Q : VK, (∀ v H', Ex H H' → T' v H' → Q v H') → r x y H Q) : G X Γ (.BinOp a op b pos) T' := fun σ H t Q q =>
  toE (pe_op ho (pe a) (pe b)) (ha σ H t _ fun v H1 e1 h1 => hb σ H1 (t.up e1) _ fun u H2 e2 h2 => hr v u H2 (T.up e2 h1) h2 Q fun w H3 e3 h3 => q w H3 ((e1.trans e2).trans e3) h3)
theorem g_cmp {op : CmpOp} {r : R2} {T' : Ty} (ho : OpR X (compareOp op) r) (ha : G X Γ a T) (hb : G X Γ b U) (hr : ∀ x y H, T x H → U y H → ∀ Q : VK, (∀ v H', Ex H H' → T' v H' → Q v H') → r x y H Q) (hm : behindInMarks op b = false := by rfl) : G X Γ (.Compare a [op] [b] pos) T' := fun σ H t Q q =>
  toE (pe_cmpR ho (pe a) (pe b) hm) (ha σ H t _ fun v H1 e1 h1 => hb σ H1 (t.up e1) _ fun u H2 e2 h2 => hr v u H2 (T.up e2 h1) h2 Q fun w H3 e3 h3 => q w H3 ((e1.trans e2).trans e3) h3)
theorem gt_cmp {op : CmpOp} {r : R2} {k : Bool} (ho : OpR X (compareOp op) r) (ha : G X Γ a T) (hb : G X Γ b U) (hr : ∀ x y H, T x H → U y H → ∀ Q : VK, (∀ v H', Ex H H' → blT k v H' → Q v H') → r x y H Q) (hm : behindInMarks op b = false := by rfl) : GT X Γ (.Compare a [op] [b] pos) k := fun σ H t Q q =>
  toT (pt_cmpR ho (pe a) (pe b) hm) (ha σ H t _ fun v H1 e1 h1 => hb σ H1 (t.up e1) _ fun u H2 e2 h2 => hr v u H2 (T.up e2 h1) h2 _ fun w H3 e3 h3 => ⟨k, h3, q H3 ((e1.trans e2).trans e3)⟩)
theorem r_I0 {g : Int → Int → V} {i j : Int} : ∀ x y H, intT i x H → intT j y H → ∀ Q : VK, (∀ v H', Ex H H' → valT (g i j) v H' → Q v H') → rI0 g x y H Q := fun x y H hx hy Q q => ⟨i, j, hx, hy, q _ H (Ex.refl H) rfl⟩
theorem r_I {C : Int → Int → Prop} {g : Int → Int → V} {i j : Int} (hc : C i j) : ∀ x y H, intT i x H → intT j y H → ∀ Q : VK, (∀ v H', Ex H H' → valT (g i j) v H' → Q v H') → rI C g x y H Q := fun x y H hx hy Q q => ⟨i, j, hx, hy, hc, q _ H (Ex.refl H) rfl⟩
theorem r_Eq {v w : V} (h : scal v w = true) : ∀ x y H, valT v x H → valT w y H → ∀ Q : VK, (∀ u H', Ex H H' → blT (decide (v = w)) u H' → Q u H') → rEq x y H Q := fun x y H hx hy Q q => by
  have hx' : x = v := hx
  have hy' : y = w := hy
  subst hx'; subst hy'
  exact ⟨h, q _ H (Ex.refl H) rfl⟩
/-! argument lists -/
theorem ga_nil : GA X Γ [] [] := fun σ H t Q q => toA pa_nil (q [] H (Ex.refl H) trivial)
theorem ga_cons (ha : G X Γ a T) (hr : GA X Γ es Ts) (hs : starEach (a :: es) X.env = (false, eval a X.env) :: starEach es X.env := by first | exact se_cons rfl | exact se_one rfl | exact se_two rfl rfl | rfl) : GA X Γ (a :: es) (T :: Ts) := fun σ H t Q q =>
  toA (pa_cons (pe a) (pa es) hs) (ha σ H t _ fun v H1 e1 h1 => hr σ H1 (t.up e1) _ fun vs H2 e2 h2 => q _ H2 (e1.trans e2) ⟨T.up e2 h1, h2⟩)
/-- a written tuple -/
theorem g_tup {k : Nat} (h : GA X Γ es Ts) (hl : Ts.length ≤ sizeLine := by show _ ≤ _; decide) : G X Γ (.Tuple es k pos) (tupT X.K Ts) := fun σ H t Q q =>
  toE (pe_tup (pa es)) (h σ H t _ fun vs H1 e1 h1 => ⟨h1.len ▸ hl, fun p hp => q _ _ (e1.trans (Ex.new hp)) ⟨p, vs, rfl, .inl upd_same, h1.up (Ex.new hp)⟩⟩)
/-- a written list, frozen at once -/
theorem g_lst (h : GA X Γ es Ts) (hl : Ts.length ≤ sizeLine := by show _ ≤ _; decide) : G X Γ (.List es pos) (lstT Ts) := fun σ H t Q q =>
  tE_frz (toE (pe_lst (pa es)) (h σ H t _ fun vs H1 e1 h1 => ⟨h1.len ▸ hl, fun p hp => ⟨p, _, upd_same, trivial, fun od => by
    rw [upd_upd]
    exact q _ _ (e1.trans (Ex.new hp)) ⟨p, vs, rfl, ⟨od, upd_same⟩, h1.up (Ex.new hp)⟩⟩⟩))
/-! tests -/
theorem gt_bl {k : Bool} (h : G X Γ e (blT k)) (he : ∀ whole, isTrue e X.env whole = (do let v ← whole; standAt e.pos; holding [v] (truthy v)) := by intro _; rfl) : GT X Γ e k := fun σ H t Q q =>
  toT (pt_val (pe e) he) (h σ H t _ fun v H1 e1 h1 => ⟨k, h1, q H1 e1⟩)
theorem gt_not {k : Bool} (h : GT X Γ e k) : GT X Γ (.UnaryOp .Not e pos) (!k) := fun σ H t Q q => toT (pt_not (pt e)) (h σ H t _ fun H1 e1 => q H1 e1)
end
end RL

set_option Elab.async false
set_option linter.all false
set_option maxRecDepth 100000
set_option maxHeartbeats 4000000
/-! RL2: promises of defs, calls, fields, statements, loops -/
namespace RL
open PySem PySem.Spec PyProof.Rows L2

/-! ### promises -/
/-- of arguments of such types a value of such a type comes; all that was tracked stays -/
def spG {α : Type} (A : α → List Ty) (R : α → Ty) : Sp := fun vs H Q _ => ∃ a, All2 (A a) vs H ∧ ∀ v H', Ex H H' → R a v H' → Q v H'
/-- a def of the module that keeps a promise -/
structure FnG (P : Program) (w : World) (K : PySem.W.Frag) (mg : Str → Option Value) (base : Heap) (k : Nat) (x : Str) (ps : List Str) (sp : Sp) : Prop where
  ex : ∃ f fd, FnOk P w K mg base CX0 k f fd ps sp ∧ mg x = some (.ref f) ∧ PySem.W.keepIn K (.ref f) = true ∧ Binds K fd ps []
/-- what the classes in Cs have in common: the method m, its def keeps a promise -/
structure MtG (P : Program) (w : World) (K : PySem.W.Frag) (mg : Str → Option Value) (base : Heap) (k : Nat) (Cs : Addr → Prop) (m : Str) (ps : List Str) (sp : Sp) : Prop where
  ex : ∀ C, Cs C → ∃ f fd, FnOk P w K mg base CX0 k f fd ps sp ∧ Cls K C ∧ Meth K C m f ∧ Binds K fd ps []
section
variable {X : Cx} {Γ : Ctx} {e o a b c : Expr} {es : List Expr} {T U : Ty} {Ts : List Ty} {pos p apos : Pos} {x m : Str} {α : Type} {A : α → List Ty} {R : α → Ty} {k : Nat} {ps : List Str}
theorem g_call (F : FnG X.prog X.w X.K X.mg X.base k x ps (spG A R)) (hr : Room k X.A) (i : α) (ha : GA X Γ (e :: es) Ts) (hT : ∀ vs H, All2 Ts vs H → All2 (A i) vs H := by exact fun _ _ h => h)
    (hg : Gl X x := by rfl) (hdb : (x == ("__debug__" : Str)) = false := by decide) (he : starEach (e :: es) X.env = (false, eval e X.env) :: starEach es X.env := by first | exact se_cons rfl | exact se_one rfl | exact se_two rfl rfl | rfl) (hpl : (backTo pos (starEach es X.env)).any (·.1) = false := by first | exact se_any rfl | rfl) {T' : Ty} (hR : R i = T' := by rfl) :
    G X Γ (.Call (.Name x p) (e :: es) [] pos) T' := fun σ H t Q q => by
  subst hR
  obtain ⟨f, fd, F, hm, hk, hb⟩ := F.ex
  refine toE (pe_call F hr hg hm hk hb .nil pass0 (pa _) hdb he hpl) (ha σ H t _ fun vs H1 e1 h1 => ?_)
  rw [List.append_nil]
  exact ⟨i, hT _ _ h1, fun v H2 e2 h2 => q v H2 (e1.trans e2) h2⟩
theorem g_call0 (F : FnG X.prog X.w X.K X.mg X.base k x ps (spG A R)) (hr : Room k X.A) (i : α) (hT : ∀ H, All2 (A i) [] H := by exact fun _ => trivial)
    (hg : Gl X x := by rfl) (hdb : (x == ("__debug__" : Str)) = false := by decide) {T' : Ty} (hR : R i = T' := by rfl) : G X Γ (.Call (.Name x p) [] [] pos) T' := fun σ H t Q q => by
  subst hR
  obtain ⟨f, fd, F, hm, hk, hb⟩ := F.ex
  exact toE (pe_call0 F hr hg hm hk hb .nil pass0 hdb) ⟨i, hT _, fun v H2 e2 h2 => q v H2 e2 h2⟩
/-- an instance of one of the classes in Cs, without the attribute m of its own -/
def InsOf (Cs : Addr → Prop) (m : Str) (v : V) (H : Hp) : Prop := ∃ a C dx fs, v = .ref a ∧ H a = some (.ins C dx fs) ∧ Cs C ∧ fs.lookup m = none
theorem e_meth {pl : Sem Bool} {sp : Sp} {σ : L2.St} {H : Hp} {Q : VK} {Cs : Addr → Prop} (F : MtG X.prog X.w X.K X.mg X.base k Cs m ps sp) (hr : Room k X.A)
    (ht : eval (.Call (.Attribute o m apos) (e :: es) [] pos) X.env = (do
      let ov ← eval o X.env
      standAt apos.atName
      let (f, first) ← holding [ov] (getMethod ov m pl)
      callWith pos f first (backTo pos (starEach (e :: es) X.env)) (backToKw pos (keywordEach [] X.env))))
    (hst : starEach (e :: es) X.env = (false, eval e X.env) :: starEach es X.env) (hpl : (backTo pos (starEach es X.env)).any (·.1) = false)
    (h : tE X o σ H fun v H1 => InsOf Cs m v H1 ∧ tA X (e :: es) σ H1 fun vs H2 => sp (v :: vs) H2 Q E0) : tE X (.Call (.Attribute o m apos) (e :: es) [] pos) σ H Q := by
  refine ⟨fun pins s I => ?_⟩
  refine PySem.W.methodCall_KW (pl := pl) (thn (h.run pins s I) fun u s1 hh => ?_) ht
  obtain ⟨v, H1, I1, rx, ⟨a, C, dx, fs, ev, ea, hc, l⟩, q⟩ := hh
  subst ev
  obtain rfl : u = Value.ref a := rx
  obtain ⟨f, fd, F, c, hm, hb⟩ := F.ex C hc
  refine getmeth_ok I1 ea c hm l (PySem.W.callWith_K (first := [.ref a]) (h₀ := X.base) I.ok.mod.kin hm.kp (thn (q.run pos pins s1 I1) fun us s2 hh => ?_) hst hpl)
  obtain ⟨vs, H2, I2, r2, q2⟩ := hh
  refine ⟨I2.kIn, run_fn (us := .ref a :: us) (vs := .ref a :: vs) F hr hb .nil pass0 I2 (.cons rfl r2) ?_⟩
  rw [List.append_nil]
  exact q2
theorem e_meth0 {pl : Sem Bool} {sp : Sp} {σ : L2.St} {H : Hp} {Q : VK} {Cs : Addr → Prop} (F : MtG X.prog X.w X.K X.mg X.base k Cs m ps sp) (hr : Room k X.A)
    (ht : eval (.Call (.Attribute o m apos) [] [] pos) X.env = (do
      let ov ← eval o X.env
      standAt apos.atName
      let (f, first) ← holding [ov] (getMethod ov m pl)
      callWith pos f first (backTo pos (starEach [] X.env)) (backToKw pos (keywordEach [] X.env))))
    (h : tE X o σ H fun v H1 => InsOf Cs m v H1 ∧ sp [v] H1 Q E0) : tE X (.Call (.Attribute o m apos) [] [] pos) σ H Q := by
  refine ⟨fun pins s I => ?_⟩
  refine PySem.W.methodCall_KW (pl := pl) (thn (h.run pins s I) fun u s1 hh => ?_) ht
  obtain ⟨v, H1, I1, rx, ⟨a, C, dx, fs, ev, ea, hc, l⟩, q⟩ := hh
  subst ev
  obtain rfl : u = Value.ref a := rx
  obtain ⟨f, fd, F, c, hm, hb⟩ := F.ex C hc
  exact getmeth_ok I1 ea c hm l (PySem.W.callWith_K0 (first := [.ref a]) I1.kIn hm.kp (run_fn (us := [.ref a]) (vs := [.ref a]) F hr hb .nil pass0 I1 (.cons rfl .nil) q))
/-- o.m(e, ..) -/
theorem g_meth {pl : Sem Bool} {Cs : Addr → Prop} (F : MtG X.prog X.w X.K X.mg X.base k Cs m ps (spG A R)) (hr : Room k X.A) (i : α) (ho : G X Γ o T) (ha : GA X Γ (e :: es) Ts) (hI : ∀ v H, T v H → InsOf Cs m v H) (hT : ∀ v vs H, T v H → All2 Ts vs H → All2 (A i) (v :: vs) H := by exact fun _ _ _ h h' => ⟨h, h'⟩)
    (ht : eval (.Call (.Attribute o m apos) (e :: es) [] pos) X.env = (do
      let ov ← eval o X.env
      standAt apos.atName
      let (f, first) ← holding [ov] (getMethod ov m pl)
      callWith pos f first (backTo pos (starEach (e :: es) X.env)) (backToKw pos (keywordEach [] X.env))) := by rfl)
    (hst : starEach (e :: es) X.env = (false, eval e X.env) :: starEach es X.env := by first | exact se_cons rfl | exact se_one rfl | exact se_two rfl rfl | rfl) (hpl : (backTo pos (starEach es X.env)).any (·.1) = false := by first | exact se_any rfl | rfl) {T' : Ty} (hR : R i = T' := by rfl) : G X Γ (.Call (.Attribute o m apos) (e :: es) [] pos) T' := fun σ H t Q q => by
  subst hR
  exact e_meth F hr ht hst hpl (ho σ H t _ fun v H1 e1 h1 => ⟨hI v H1 h1, ha σ H1 (t.up e1) _ fun vs H2 e2 h2 => ⟨i, hT v vs H2 (T.up e2 h1) h2, fun w H3 e3 h3 => q w H3 ((e1.trans e2).trans e3) h3⟩⟩)
/-- o.m() -/
theorem g_meth0 {pl : Sem Bool} {Cs : Addr → Prop} (F : MtG X.prog X.w X.K X.mg X.base k Cs m ps (spG A R)) (hr : Room k X.A) (i : α) (ho : G X Γ o T) (hI : ∀ v H, T v H → InsOf Cs m v H) (hT : ∀ v H, T v H → All2 (A i) [v] H := by exact fun _ _ h => ⟨h, trivial⟩)
    (ht : eval (.Call (.Attribute o m apos) [] [] pos) X.env = (do
      let ov ← eval o X.env
      standAt apos.atName
      let (f, first) ← holding [ov] (getMethod ov m pl)
      callWith pos f first (backTo pos (starEach [] X.env)) (backToKw pos (keywordEach [] X.env))) := by rfl) {T' : Ty} (hR : R i = T' := by rfl) : G X Γ (.Call (.Attribute o m apos) [] [] pos) T' := fun σ H t Q q => by
  subst hR
  exact e_meth0 F hr ht (ho σ H t _ fun v H1 e1 h1 => ⟨hI v H1 h1, i, hT v H1 h1, fun w H3 e3 h3 => q w H3 (e1.trans e3) h3⟩)
/-- o.f, a field of an instance -/
theorem g_fld {f : Str} (ho : G X Γ o T) (hf : ∀ v H, T v H → ∃ a C dx fs w, v = .ref a ∧ H a = some (.ins C dx fs) ∧ Cls X.K C ∧ NoAttr X.K C f ∧ fs.lookup f = some w ∧ U w H)
    (hb : attributeBase o f X.env (eval o X.env) = eval o X.env := by rfl) : G X Γ (.Attribute o f pos) U := fun σ H t Q q =>
  toE (pe_fld (pe o) hb) (ho σ H t _ fun v H1 e1 h1 => by
    obtain ⟨a, C, dx, fs, w, h2, h3, h4, h5, h6, h7⟩ := hf v H1 h1
    exact ⟨a, C, dx, fs, w, h2, h3, h4, h5, h6, q w H1 e1 h7⟩)

/-! ### statements -/
/-- what is kept: all of the heap at the entry, and of a later heap what is not mutable -/
structure Bs where
  e : Hp
  l : Hp
def Bs.ok (B : Bs) (H : Hp) : Prop := Ex B.e H ∧ Le B.l H
def Bs.of (H : Hp) : Bs := ⟨H, H⟩
/-- the same entry, a later heap -/
def Bs.at (B : Bs) (H : Hp) : Bs := ⟨B.e, H⟩
theorem Bs.up {B : Bs} {H H' : Hp} (h : B.ok H) (e : Ex H H') : B.ok H' := ⟨h.1.trans e, h.2.trans e.le⟩
theorem Bs.ok.trans {B : Bs} {H H' : Hp} (h : B.ok H) (e : Ex H H') : B.ok H' := ⟨h.1.trans e, h.2.trans e.le⟩
theorem Bs.here {B : Bs} {H : Hp} (h : B.ok H) : (B.at H).ok H := ⟨h.1, Le.refl H⟩
theorem Bs.back {B : Bs} {H1 H : Hp} (h : B.ok H1) (k : (B.at H1).ok H) : B.ok H := ⟨k.1, h.2.trans k.2⟩
theorem Bs.refl (H : Hp) : (Bs.of H).ok H := ⟨Ex.refl H, Le.refl H⟩
/-- from such a context, with the heap H0 at the entry -/
def Bd (X : Cx) (Γ : Ctx) (sts : List Stmt) (B : Bs) (D : Ends) : Prop := ∀ σ H, B.ok H → Typed σ Γ H → tB X sts D σ H
def Sd (X : Cx) (Γ : Ctx) (st : Stmt) (B : Bs) (D : Ends) : Prop := ∀ σ H, B.ok H → Typed σ Γ H → tS X st D σ H
variable {H0 : Bs} {D : Ends} {st : Stmt} {rest body orelse : List Stmt}
theorem tB_cons {σ : L2.St} {H : Hp} (h : tS X st { D with nx := tB X rest D } σ H) : tB X (st :: rest) D σ H := toB (pss_cons (ps st) (pb rest)) h
theorem b_cons (h : Sd X Γ st H0 { D with nx := tB X rest D }) : Bd X Γ (st :: rest) H0 D := fun σ H e t => tB_cons (h σ H e t)
theorem b_nil (h : ∀ σ H, H0.ok H → Typed σ Γ H → D.nx σ H) : Bd X Γ [] H0 D := fun σ H e t => toB pss_nil (h σ H e t)
/-- what follows, from the context behind -/
theorem Bd.nx (h : Bd X Γ rest H0 D) : ∀ σ H, H0.ok H → Typed σ Γ H → tB X rest D σ H := h
theorem b_weak {Δ : Ctx} (h : Bd X Δ rest H0 D) (w : ∀ σ H, Typed σ Γ H → Typed σ Δ H) : Bd X Γ rest H0 D := fun σ H e t => h σ H e (w σ H t)
/-- x = e -/
theorem b_asg (i : Nat) (he : G X Γ e T) (h : Bd X (Γ.set i (some T)) rest H0 D) {p' : Pos} (hN : X.N.Nodup := by first | assumption | decide) (hi : X.N[i]? = some x := by rfl) (hx : Loc X.env.scope x := by first | exact Or.inl rfl | exact Or.inr rfl)
    (hs : swapsWith e (some (.Name x p')) pos.line X.env = pure false := by rfl) (hf : X.fn x = true ∨ X.env.scope.names.lookup x = some .local := by first | exact .inl rfl | exact .inr rfl) : Bd X Γ (.Assign [.Name x p'] e pos :: rest) H0 D :=
  b_cons fun σ H e0 t => toS (ps_set (i := i) hN hi hx (pe e) hs hf) (he σ H t _ fun v H1 e1 h1 => h _ _ (e0.trans e1) ((t.up e1).set i h1))
/-- x = e, e of some type of a family -/
theorem b_asgX {β : Sort u} {F : β → Ty} (i : Nat) (he : G X Γ e (exT F)) (h : ∀ z, Bd X (Γ.set i (some (F z))) rest H0 D) {p' : Pos} (hN : X.N.Nodup := by first | assumption | decide) (hi : X.N[i]? = some x := by rfl) (hx : Loc X.env.scope x := by first | exact Or.inl rfl | exact Or.inr rfl)
    (hs : swapsWith e (some (.Name x p')) pos.line X.env = pure false := by rfl) (hf : X.fn x = true ∨ X.env.scope.names.lookup x = some .local := by first | exact .inl rfl | exact .inr rfl) : Bd X Γ (.Assign [.Name x p'] e pos :: rest) H0 D :=
  b_cons fun σ H e0 t => toS (ps_set (i := i) hN hi hx (pe e) hs hf) (he σ H t _ fun v H1 e1 ⟨z, h1⟩ => h z _ _ (e0.trans e1) ((t.up e1).set i h1))
/-- return e -/
theorem b_ret (he : G X Γ e T) (h : ∀ v H', H0.ok H' → T v H' → D.rt v H') : Bd X Γ (.Return (some e) pos :: rest) H0 D := b_cons fun σ H e0 t => toS (ps_ret (pe e)) (he σ H t _ fun v H1 e1 h1 => h v H1 (e0.trans e1) h1)
theorem b_expr (he : G X Γ e T) (h : Bd X Γ rest H0 D) (hs : swapsWith e none pos.line X.env = pure false := by rfl) : Bd X Γ (.Expr e pos :: rest) H0 D :=
  b_cons fun σ H e0 t => toS (ps_expr (pe e) hs) (he σ H t _ fun v H1 e1 h1 => h _ _ (e0.trans e1) (t.up e1))
theorem b_if {k : Bool} (hc : GT X Γ c k) (h1 : k = true → Bd X Γ body H0 { D with nx := tB X rest D }) (h2 : k = false → Bd X Γ orelse H0 { D with nx := tB X rest D }) : Bd X Γ (.If c body orelse pos :: rest) H0 D :=
  b_cons fun σ H e0 t => toS (ps_if (pt c) (pb body) (pb orelse)) (hc σ H t _ fun H1 e1 => by
    cases k with
    | true => exact iteT (h1 rfl _ _ (e0.trans e1) (t.up e1))
    | false => exact iteF (h2 rfl _ _ (e0.trans e1) (t.up e1)))
/-- what an assignment to a target makes of the context -/
def Tgt (g : TG) (T : Ty) (Δ Δ2 : Ctx) : Prop := ∀ v σ H (Q : L2.St → Hp → Prop), T v H → Typed σ Δ H → (∀ σ2, Typed σ2 Δ2 H → Q σ2 H) → g v σ H Q
theorem tgt_name {j : Nat} {Δ : Ctx} : Tgt (gName j) T Δ (Δ.set j (some T)) := fun v σ H Q h t q => q _ (t.set j h)
theorem tgts2 {K : PySem.W.Frag} {i j : Nat} {Δ : Ctx} {T1 T2 : Ty} : Tgt (gTup K 2 (gCons (gName i) (gCons (gName j) gNil))) (tupT K [T1, T2]) Δ ((Δ.set i (some T1)).set j (some T2)) := fun v σ H Q h t q => by
  obtain ⟨a, vs, ev, ht, h2⟩ := h
  match vs, h2 with
  | [v1, v2], ⟨h1, h2, _⟩ => exact ⟨a, _, ev, ht.sq, rfl, _, _, rfl, _, _, rfl, rfl, q _ ((t.set i h1).set j h2)⟩
theorem tgts3 {K : PySem.W.Frag} {i j l : Nat} {Δ : Ctx} {T1 T2 T3 : Ty} : Tgt (gTup K 3 (gCons (gName i) (gCons (gName j) (gCons (gName l) gNil)))) (tupT K [T1, T2, T3]) Δ (((Δ.set i (some T1)).set j (some T2)).set l (some T3)) := fun v σ H Q h t q => by
  obtain ⟨a, vs, ev, ht, h2⟩ := h
  match vs, h2 with
  | [v1, v2, v3], ⟨h1, h2, h3, _⟩ => exact ⟨a, _, ev, ht.sq, rfl, _, _, rfl, _, _, rfl, _, _, rfl, rfl, q _ (((t.set i h1).set j h2).set l h3)⟩
/-- the ends of a loop's turn: W the next turn's contexts, base H1 -/
def turnD (D : Ends) (X : Cx) (rest : List Stmt) (H1 : Bs) (Ok : Ctx → Prop) : Ends := { D with nx := fun σ H => ∃ Δ, Ok Δ ∧ H1.ok H ∧ Typed σ Δ H, ct := fun σ H => ∃ Δ, Ok Δ ∧ H1.ok H ∧ Typed σ Δ H, bk := tB X rest D }
theorem turn_nx {H1 : Bs} {Ok : Ctx → Prop} (h : Ok Γ) : Bd X Γ [] H1 (turnD D X rest H1 Ok) := b_nil fun σ H e t => ⟨Γ, h, e, t⟩
/-! what is walked -/
/-- items of these types, from a heap on -/
def Turns (J : It) (H1 : Hp) (Ts : List Ty) : Prop := ∀ i H', Le H1 H' → (i < Ts.length → J.go i H' ∧ ∀ x H2, J.yld i H' x H2 → Ex H' H2 ∧ ∃ T : Ty, Ts[i]? = some T ∧ T x H2) ∧ (i = Ts.length → J.stop i H')
structure TIs (X : Cx) (tg iter : Expr) (σ : L2.St) (H : Hp) (Q : It → Hp → Prop) : Prop where
  run : ∀ pins s, Inv X pins σ H s → wpAny (model X.prog X.w) X.A (eval iter X.env) (fun v s1 => wpAny (model X.prog X.w) X.A (pyIter v) (PIE X pins σ tg Q) X.xe s1) X.xe s
abbrev tI (X : Cx) (tg iter : Expr) : TI := fun σ H Q => TIs X tg iter σ H Q
theorem pi {tg iter : Expr} : PI X tg iter (tI X tg iter) := ⟨fun pins s _ _ _ I h => h.run pins s I⟩
theorem toI {tg iter : Expr} {t : TI} (q : PI X tg iter t) {σ : L2.St} {H : Hp} {Q : It → Hp → Prop} (h : t σ H Q) : tI X tg iter σ H Q := ⟨fun pins s I => q.run pins s σ H Q I h⟩
def GI (X : Cx) (Γ : Ctx) (tg iter : Expr) (Ts : List Ty) : Prop := ∀ σ H, Typed σ Γ H → ∀ Q : It → Hp → Prop, (∀ J H1, Ex H H1 → Turns J H1 Ts → Q J H1) → tI X tg iter σ H Q
theorem gi_list [hS : Stbs Ts] {tg it : Expr} (h : G X Γ it (lstT Ts)) : GI X Γ tg it Ts := fun σ H t Q q => toI (pi_list (pe it)) (h σ H t _ fun v H1 e1 ⟨a, vs, ev, hl, h2⟩ => by
  subst ev
  have up : ∀ {H'}, Le H1 H' → SqL X.K H' a vs := fun e => (hl.le e).sq
  refine ⟨a, rfl, ⟨vs, hl.sq⟩, q _ H1 e1 fun i H' e => ⟨fun hi => ?_, fun hi => ⟨vs, up e, by rw [hi, h2.len]; exact Nat.le_refl _⟩⟩⟩
  obtain ⟨v, hv, tv⟩ := (hS.le e h2).get (List.getElem?_eq_getElem hi)
  refine ⟨⟨vs, v, up e, hv⟩, fun x H2 hy => ?_⟩
  obtain ⟨eH, hx⟩ := hy
  subst eH
  have hx' := hx vs (up e)
  rw [hv] at hx'; cases hx'
  exact ⟨Ex.refl _, _, List.getElem?_eq_getElem hi, tv⟩)
theorem gi_tup [hS : Stbs Ts] {tg it : Expr} (h : G X Γ it (tupT X.K Ts)) : GI X Γ tg it Ts := fun σ H t Q q => toI (pi_tup (pe it)) (h σ H t _ fun v H1 e1 ⟨a, vs, ev, hl, h2⟩ => by
  subst ev
  have up : ∀ {H'}, Le H1 H' → SqT X.K H' a vs := fun e => (hl.le e).sq
  refine ⟨a, rfl, ⟨vs, hl.sq⟩, q _ H1 e1 fun i H' e => ⟨fun hi => ?_, fun hi => ⟨vs, up e, by rw [hi, h2.len]; exact Nat.le_refl _⟩⟩⟩
  obtain ⟨v, hv, tv⟩ := (hS.le e h2).get (List.getElem?_eq_getElem hi)
  refine ⟨⟨vs, v, up e, hv⟩, fun x H2 hy => ?_⟩
  obtain ⟨eH, hx⟩ := hy
  subst eH
  have hx' := hx vs (up e)
  rw [hv] at hx'; cases hx'
  exact ⟨Ex.refl _, _, List.getElem?_eq_getElem hi, tv⟩)
def rngT (lo : Int) (n : Nat) : List Ty := (List.range n).map fun (i : Nat) => intT (lo + (i : Int))
theorem rngT_len {lo : Int} {n : Nat} : (rngT lo n).length = n := by simp [rngT]
theorem rngT_get {lo : Int} {n i : Nat} (h : i < n) : (rngT lo n)[i]? = some (intT (lo + (i : Int))) := by simp [rngT, List.getElem?_map, List.getElem?_range h]
theorem turns_rng {lo : Int} {n : Nat} {H1 : Hp} : Turns (Itr lo n) H1 (rngT lo n) := fun i H' e => ⟨fun hi => by
  rw [rngT_len] at hi
  exact ⟨hi, fun x H2 hy => by
    obtain ⟨eH, hx⟩ := hy
    subst eH
    exact ⟨Ex.refl _, _, rngT_get hi, hx⟩⟩, fun hi => by rw [hi, rngT_len]; exact Nat.le_refl _⟩
theorem gi_rng1 {tg : Expr} {p2 : Pos} {n : Int} (h : G X Γ a (intT n)) (hm : X.mg "range" = none) (hn : -(2 ^ 62) ≤ n ∧ n < 2 ^ 62 := by decide) (hg : Gl X "range" := by rfl) (hst : starEach [a] X.env = [(false, eval a X.env)] := by first | exact se_cons rfl | exact se_one rfl | exact se_two rfl rfl | rfl) :
    GI X Γ tg (.Call (.Name "range" p) [a] [] p2) (rngT 0 n.toNat) := fun σ H t Q q => toI (pi_range1 hg hm (pa_cons (pe a) pa_nil hst) hst) (h σ H t _ fun v H1 e1 hv => by
  have hv' : v = .int n := hv
  subst hv'
  exact ⟨n, rfl, hn.1, hn.2, q _ H1 e1 turns_rng⟩)
theorem gi_rng2 {tg : Expr} {p2 : Pos} {lo n : Int} (ha : G X Γ a (intT lo)) (hb : G X Γ b (intT n)) (hm : X.mg "range" = none) (hn : -(2 ^ 62) ≤ lo ∧ lo < 2 ^ 62 ∧ -(2 ^ 62) ≤ n ∧ n < 2 ^ 62) (hg : Gl X "range" := by rfl) (hst : starEach [a, b] X.env = [(false, eval a X.env), (false, eval b X.env)] := by first | exact se_cons rfl | exact se_one rfl | exact se_two rfl rfl | rfl) (hst2 : starEach [b] X.env = [(false, eval b X.env)] := by first | exact se_cons rfl | exact se_one rfl | exact se_two rfl rfl | rfl) :
    GI X Γ tg (.Call (.Name "range" p) [a, b] [] p2) (rngT lo (n - lo).toNat) := fun σ H t Q q => toI (pi_range2 hg hm (pa_cons (pe a) (pa_cons (pe b) pa_nil hst2) (by rw [hst, hst2])) hst hst2) (ha σ H t _ fun v H1 e1 hv => hb σ H1 (t.up e1) _ fun v2 H2 e2 hv2 => by
  have hv' : v = .int lo := hv
  have hv2' : v2 = .int n := hv2
  subst hv'; subst hv2'
  exact ⟨lo, n, rfl, hn, q _ H2 (e1.trans e2) turns_rng⟩)
/-- a frozen dict of such pairs -/
def dicT (kvs : List (Key × V)) : Ty := ⟨fun v H => ∃ a o, v = .ref a ∧ H a = some (.frz o (.dK kvs)), fun {v H H'} e ⟨a, o, h1, h2⟩ => ⟨a, o, h1, e a _ h2⟩⟩
instance (kvs : List (Key × V)) : Stb (dicT kvs) := ⟨fun e ⟨a, o, h1, h2⟩ => ⟨a, o, h1, e a _ (fun z => z) h2⟩⟩
def keysT (kvs : List (Key × V)) : List Ty := kvs.map fun q => valT (kV q.1)
theorem gi_keys {tg it : Expr} {kvs : List (Key × V)} (h : G X Γ it (dicT kvs)) : GI X Γ tg it (keysT kvs) := fun σ H t Q q => toI (pi_keys (pe it)) (h σ H t _ fun v H1 e1 ⟨d, o, ev, hd⟩ => by
  subst ev
  refine ⟨d, o, rfl, .inl ⟨kvs, hd, q _ H1 e1 fun i H' e => ⟨fun hi => ⟨⟨e _ _ (fun z => z) hd, by simpa [keysT] using hi⟩, fun x H2 hy => ?_⟩, fun hi => ⟨e _ _ (fun z => z) hd, by rw [hi]; simp [keysT]⟩⟩⟩⟩
  obtain ⟨eH, k, v, hk, hx⟩ := hy
  subst eH
  exact ⟨Ex.refl _, valT (kV k), by simp [keysT, hk], hx⟩)
/-- for x in .. -/
theorem b_for {it tg : Expr} {g : TG} (Ok : Nat → Ctx → Prop) (hi : GI X Γ tg it Ts) (hg : PG X tg g) (h0 : Ok 0 Γ)
    (hs : ∀ (H1 : Hp) (i : Nat) (T : Ty) (Δ : Ctx), H0.ok H1 → Ts[i]? = some T → Ok i Δ → ∃ Δ2, Tgt g T Δ Δ2 ∧ Bd X Δ2 body (H0.at H1) (turnD D X rest (H0.at H1) (Ok (i + 1))))
    (hd : ∀ Δ, Ok Ts.length Δ → Bd X Δ rest H0 D) (hc : X.calm = true := by rfl) (hp : PassesOwn (model X.prog X.w) X.A X.env X.xe := by exact PassesOwn.never) (hf : ∀ x, foldedSetIterable it X.env x = pure x := by intro _; rfl) : Bd X Γ (.For tg it body [] pos :: rest) H0 D :=
  b_cons fun σ H e0 t => toS (ps_for hp hc pi hg (pb body) hf) (hi σ H t _ fun J H1 e1 tn => by
    have b1 : H0.ok H1 := Bs.up e0 e1
    refine ⟨fun i m σ H => i ≤ Ts.length ∧ m = Ts.length - i ∧ ∃ Δ, Ok i Δ ∧ (H0.at H1).ok H ∧ Typed σ Δ H, ⟨_, Nat.zero_le _, rfl, Γ, h0, Bs.here b1, t.up e1⟩, ?_⟩
    rintro i m σ H ⟨hi, rfl, Δ, ok, e2, t2⟩
    obtain ⟨t3, t4⟩ := tn i H e2.2
    by_cases c : i < Ts.length
    · obtain ⟨go, yl⟩ := t3 c
      refine .inr ⟨go, fun σ H => ∃ Δ, Ok (i + 1) Δ ∧ (H0.at H1).ok H ∧ Typed σ Δ H, fun σ' H' h => ⟨Ts.length - (i + 1), by omega, by omega, rfl, h⟩, fun x H' hy => ?_⟩
      obtain ⟨e3, T, hT, hx⟩ := yl x H' hy
      obtain ⟨Δ2, tg, bd⟩ := hs H1 i T Δ b1 hT ok
      exact tg x σ H' _ hx (t2.up e3) fun σ2 t3 => bd σ2 H' (Bs.up e2 e3) t3
    · have hi' : i = Ts.length := by omega
      refine .inl ⟨t4 hi', ?_⟩
      rw [hi'] at ok
      exact hd Δ ok σ H (Bs.back b1 e2) t2)

/-! ### comprehensions -/
/-- what the block of a comprehension is run in, whatever the block's own addresses are -/
def GC (X : Cx) (scope : Scope) (Γ : Ctx) (e : Expr) (T : Ty) : Prop := ∀ (s : Shared) (H : Hp) (C : Addr) (cl : List (Str × Addr)) (fp : List Addr), G (X.blk s H scope (compEnvC scope cl C X.env) fp) Γ e T
def GCTs (X : Cx) (scope : Scope) (Γ : Ctx) (ifs : List Expr) (b : Bool) : Prop := ∀ (s : Shared) (H : Hp) (C : Addr) (cl : List (Str × Addr)) (fp : List Addr) σ H1, Typed σ Γ H1 → ∀ Q : Bool → Hp → Prop, (∀ H', Ex H1 H' → Q b H') → tTs (X.blk s H scope (compEnvC scope cl C X.env) fp) ifs σ H1 Q
theorem gct_nil {scope : Scope} : GCTs X scope Γ [] true := fun s H C cl fp σ H1 t Q q => toTs pts_nil (q H1 (Ex.refl H1))
theorem gct_one {scope : Scope} {k : Bool} (h : ∀ (s : Shared) (H : Hp) (C : Addr) (cl : List (Str × Addr)) (fp : List Addr), GT (X.blk s H scope (compEnvC scope cl C X.env) fp) Γ c k) : GCTs X scope Γ [c] k := fun s H C cl fp σ H1 t Q q => toTs (pts_one (pt c)) (h s H C cl fp σ H1 t Q q)
/-- what is kept of the items, from the left -/
def keptT : List (Option Ty) → List Ty := fun l => l.filterMap id
theorem keptT_take {l : List (Option Ty)} {i : Nat} {o : Option Ty} (h : l[i]? = some o) : keptT (l.take (i + 1)) = keptT (l.take i) ++ o.toList := by
  unfold keptT
  rw [List.take_succ, h, List.filterMap_append]
  cases o <;> rfl
theorem keptT_stb {l : List (Option Ty)} (h : ∀ R, some R ∈ l → Stb R) (i : Nat) : Stbs (keptT (l.take i)) := stbs_of fun T hT => by
  obtain ⟨o, ho, e⟩ := List.mem_filterMap.mp hT
  have e' : o = some T := e
  subst e'
  exact h T (List.mem_of_mem_take ho)
theorem keptT_len (l : List (Option Ty)) (i : Nat) : (keptT (l.take i)).length ≤ i := Nat.le_trans (List.length_filterMap_le _ _) (by rw [List.length_take]; exact Nat.min_le_left _ _)
/-- the block's element, test and target as readings -/
def tCE (X : Cx) (scope : Scope) (e : Expr) : TE := fun σ H1 Q => ∀ (s : Shared) (H : Hp) (C : Addr) (cl : List (Str × Addr)) (fp : List Addr), tE (X.blk s H scope (compEnvC scope cl C X.env) fp) e σ H1 Q
def tCT (X : Cx) (scope : Scope) (ifs : List Expr) : TT := fun σ H1 Q => ∀ (s : Shared) (H : Hp) (C : Addr) (cl : List (Str × Addr)) (fp : List Addr), tTs (X.blk s H scope (compEnvC scope cl C X.env) fp) ifs σ H1 Q
/-- a target whose names are the block's own -/
def OwnTgt (g : TG) (own : List (Str × Nat)) : Prop := ∀ v σ H (Q : L2.St → Hp → Prop), g v (L2.wipe σ (own.map (·.2))) H Q → g v (L2.wipe σ (own.map (·.2))) H fun σ2 H2 => L2.wipe σ2 (own.map (·.2)) = L2.wipe σ (own.map (·.2)) ∧ Q σ2 H2
theorem own_name {y : Str} {i : Nat} : OwnTgt (gName i) [(y, i)] := fun v σ H Q h => ⟨by show ((σ.set i none).set i (some v)).set i none = σ.set i none; rw [List.set_set, List.set_set], h⟩
theorem own_tup2 {K : PySem.W.Frag} {y z : Str} {i j : Nat} (hij : i ≠ j) : OwnTgt (gTup K 2 (gCons (gName i) (gCons (gName j) gNil))) [(y, i), (z, j)] := fun v σ H Q h => by
  obtain ⟨a, xs, ev, ht, hl, v1, r1, e1, v2, r2, e2, e3, q⟩ := h
  refine ⟨a, xs, ev, ht, hl, v1, r1, e1, v2, r2, e2, e3, ?_, q⟩
  show (((((σ.set j none).set i none).set i (some v1)).set j (some v2)).set j none).set i none = (σ.set j none).set i none
  apply List.ext_getElem?
  intro n
  simp only [List.getElem?_set, List.length_set]
  by_cases h1 : i = n <;> by_cases h2 : j = n <;> simp_all
/-- [elt for tg in .. if ..]; rs tells for each item what is kept -/
theorem g_lcU {elt tg iter : Expr} {ifs : List Expr} {scope : Scope} {own : List (Str × Nat)} {g : TG} (rs : List (Option Ty)) (hi : GI X Γ tg iter Ts) (ok : BlkOk X.N X.env.scope scope own)
    (hg : ∀ (s : Shared) (H : Hp) (C : Addr) (cl : List (Str × Addr)) (fp : List Addr), PG (X.blk s H scope (compEnvC scope cl C X.env) fp) tg g)
    (hl : rs.length = Ts.length) (hz : Ts.length ≤ sizeLine)
    (hw : ∀ (i : Nat) (T : Ty), Ts[i]? = some T → ∃ Δ2, Tgt g T ((own.map (·.2)).foldr (fun v G => G.set v none) Γ) Δ2 ∧
      ((rs[i]? = some none ∧ GCTs X scope Δ2 ifs false) ∨ ∃ R, rs[i]? = some (some R) ∧ GCTs X scope Δ2 ifs true ∧ GC X scope Δ2 elt R))
    (hS : ∀ R, some R ∈ rs → Stb R)
    (hwipe : OwnTgt g own)
    (hc : X.calm = true := by rfl) (hN : X.N.Nodup := by first | assumption | decide) (hf : ∀ x, foldedSetIterable iter X.env x = pure x := by intro _; rfl) {σ : L2.St} {H : Hp} (t : Typed σ Γ H) {Q : VK}
    (q : ∀ D H' acc, Ex H H' → H D = none → H' D = some (.lst acc) → All2 (keptT rs) acc H' → Q (.ref D) H') : tE X (.ListComp elt [⟨tg, iter, ifs, 0⟩] scope pos) σ H Q := by
  refine toE (pe_lc (te := tCE X scope elt) (tt := tCT X scope ifs) (own := own) hc hN pi ok hg (fun s H C cl fp => ⟨fun pins s' σ H1 Q I h => (h s H C cl fp).run pins s' I⟩) (fun s H C cl fp => ⟨fun pins s' σ H1 Q I h => (h s H C cl fp).run pins s' I⟩) hf) ?_
  refine hi σ H t _ fun J H1 e1 tn => ?_
  intro Da hD
  have e1D : Ex H1 (upd H1 Da (.lst [])) := Ex.new hD
  refine ⟨fun i m H' => i ≤ Ts.length ∧ m = Ts.length - i ∧ Ex H1 H' ∧ ∃ acc, H' Da = some (.lst acc) ∧ All2 (keptT (rs.take i)) acc H', ⟨_, Nat.zero_le _, rfl, e1D, [], upd_same, by simp [keptT, All2]⟩, ?_⟩
  rintro i m H' ⟨hi', rfl, e2, acc, hacc, hA⟩
  obtain ⟨t3, t4⟩ := tn i H' e2.le
  by_cases c : i < Ts.length
  · obtain ⟨go, yl⟩ := t3 c
    refine .inr ⟨go, fun H' => Ex H1 H' ∧ ∃ acc, H' Da = some (.lst acc) ∧ All2 (keptT (rs.take (i + 1))) acc H', fun H' h => ⟨Ts.length - (i + 1), by omega, by omega, rfl, h⟩, fun v Hy hy => ?_⟩
    obtain ⟨ey, T, hT, hv⟩ := yl v Hy hy
    obtain ⟨Δ2, tg, alt⟩ := hw i T hT
    have tσ : Typed (L2.wipe σ (own.map (·.2))) ((own.map (·.2)).foldr (fun v G => G.set v none) Γ) Hy := Typed.wipe _ (t.up ((e1.trans e2).trans ey))
    refine hwipe v σ Hy _ (tg v _ Hy _ hv tσ fun σ2 t2 => ?_)
    have hlen : acc.length < sizeLine := by
      rw [← hA.len]
      exact Nat.lt_of_le_of_lt (keptT_len rs i) (Nat.lt_of_lt_of_le c hz)
    rcases alt with ⟨hr, hT⟩ | ⟨R, hr, hT, hE⟩
    · intro s0 H0 C cl fp
      refine hT s0 H0 C cl fp σ2 Hy t2 _ fun H3 e3 => ?_
      refine iteF ⟨e2.trans (ey.trans e3), acc, e3 _ _ (ey _ _ hacc), ?_⟩
      rw [keptT_take hr]
      simpa using hA.up (ey.trans e3)
    · intro s0 H0 C cl fp
      refine hT s0 H0 C cl fp σ2 Hy t2 _ fun H3 e3 => iteT ?_
      intro s1 H1' C1 cl1 fp1
      refine hE s1 H1' C1 cl1 fp1 σ2 H3 (t2.up e3) _ fun y H4 e4 hy => ⟨acc, e4 _ _ (e3 _ _ (ey _ _ hacc)), hlen, (e2.trans (ey.trans (e3.trans e4))).mut hD, acc ++ [y], upd_same, ?_⟩
      rw [keptT_take hr]
      have hm := Le.mut (o := .lst (acc ++ [y])) (e4 _ _ (e3 _ _ (ey _ _ hacc))) trivial
      exact All2.append ((keptT_stb hS i).le ((ey.trans (e3.trans e4)).le.trans hm) hA) ⟨(hS R (List.mem_of_getElem? hr)).le hm hy, trivial⟩
  · have hi2 : i = Ts.length := by omega
    refine .inl ⟨t4 hi2, ?_⟩
    rw [hi2, ← hl, List.take_length] at hA
    exact q Da H' acc (e1.trans e2) (e1.free hD) hacc hA
/-- the same, the list frozen at once -/
theorem g_lc {elt tg iter : Expr} {ifs : List Expr} {scope : Scope} {own : List (Str × Nat)} {g : TG} (rs : List (Option Ty)) (hi : GI X Γ tg iter Ts) (ok : BlkOk X.N X.env.scope scope own)
    (hg : ∀ (s : Shared) (H : Hp) (C : Addr) (cl : List (Str × Addr)) (fp : List Addr), PG (X.blk s H scope (compEnvC scope cl C X.env) fp) tg g)
    (hl : rs.length = Ts.length) (hz : Ts.length ≤ sizeLine)
    (hw : ∀ (i : Nat) (T : Ty), Ts[i]? = some T → ∃ Δ2, Tgt g T ((own.map (·.2)).foldr (fun v G => G.set v none) Γ) Δ2 ∧
      ((rs[i]? = some none ∧ GCTs X scope Δ2 ifs false) ∨ ∃ R, rs[i]? = some (some R) ∧ GCTs X scope Δ2 ifs true ∧ GC X scope Δ2 elt R))
    (hS : ∀ R, some R ∈ rs → Stb R)
    (hwipe : OwnTgt g own) {T' : Ty} (hR : lstT (keptT rs) = T')
    (hc : X.calm = true := by rfl) (hN : X.N.Nodup := by first | assumption | decide) (hf : ∀ x, foldedSetIterable iter X.env x = pure x := by intro _; rfl) : G X Γ (.ListComp elt [⟨tg, iter, ifs, 0⟩] scope pos) T' := hR ▸ fun σ H t Q q =>
  tE_frz (g_lcU rs hi ok hg hl hz hw hS hwipe hc hN hf t fun D H' acc e hD hacc hA => ⟨D, _, hacc, trivial, fun od => q _ _ (e.mut hD) ⟨D, acc, rfl, ⟨od, upd_same⟩, by
    have z := keptT_stb hS rs.length
    rw [List.take_length] at z
    exact z.le (Le.mut hacc trivial) hA⟩⟩)
/-- {k: v for tg in .. if ..}; rs tells for each item what is kept -/
theorem g_dcU {kx vx tg iter : Expr} {ifs : List Expr} {scope : Scope} {own : List (Str × Nat)} {g : TG} (rs : List (Option (Key × V))) (hi : GI X Γ tg iter Ts) (ok : BlkOk X.N X.env.scope scope own)
    (hg : ∀ (s : Shared) (H : Hp) (C : Addr) (cl : List (Str × Addr)) (fp : List Addr), PG (X.blk s H scope (compEnvC scope cl C X.env) fp) tg g)
    (hl : rs.length = Ts.length) (hz : Ts.length ≤ sizeLine)
    (hw : ∀ (i : Nat) (T : Ty), Ts[i]? = some T → ∃ Δ2, Tgt g T ((own.map (·.2)).foldr (fun v G => G.set v none) Γ) Δ2 ∧
      ((rs[i]? = some none ∧ GCTs X scope Δ2 ifs false) ∨ ∃ k v, rs[i]? = some (some (k, v)) ∧ GCTs X scope Δ2 ifs true ∧ GC X scope Δ2 kx (valT (kV k)) ∧ GC X scope Δ2 vx (valT v)))
    (hwipe : OwnTgt g own) (hnd : ((rs.filterMap id).map (·.1)).Nodup)
    (hc : X.calm = true := by rfl) (hN : X.N.Nodup := by first | assumption | decide) (hf : ∀ x, foldedSetIterable iter X.env x = pure x := by intro _; rfl) {σ : L2.St} {H : Hp} (t : Typed σ Γ H) {Q : VK}
    (q : ∀ D H', Ex H H' → H D = none → H' D = some (.dK (rs.filterMap id)) → Q (.ref D) H') : tE X (.DictComp kx vx [⟨tg, iter, ifs, 0⟩] scope pos) σ H Q := by
  refine toE (pe_dc (tk := tCE X scope kx) (tv := tCE X scope vx) (tt := tCT X scope ifs) (own := own) hc hN pi ok hg (fun s H C cl fp => ⟨fun pins s' σ H1 Q I h => (h s H C cl fp).run pins s' I⟩) (fun s H C cl fp => ⟨fun pins s' σ H1 Q I h => (h s H C cl fp).run pins s' I⟩) (fun s H C cl fp => ⟨fun pins s' σ H1 Q I h => (h s H C cl fp).run pins s' I⟩) hf) ?_
  refine hi σ H t _ fun J H1 e1 tn => ?_
  intro Da hD
  have e1D : Ex H1 (upd H1 Da (.dK [])) := Ex.new hD
  refine ⟨fun i m H' => i ≤ Ts.length ∧ m = Ts.length - i ∧ Ex H1 H' ∧ H' Da = some (.dK ((rs.take i).filterMap id)), ⟨_, Nat.zero_le _, rfl, e1D, upd_same⟩, ?_⟩
  rintro i m H' ⟨hi', rfl, e2, hacc⟩
  obtain ⟨t3, t4⟩ := tn i H' e2.le
  by_cases c : i < Ts.length
  · obtain ⟨go, yl⟩ := t3 c
    refine .inr ⟨go, fun H' => Ex H1 H' ∧ H' Da = some (.dK ((rs.take (i + 1)).filterMap id)), fun H' h => ⟨Ts.length - (i + 1), by omega, by omega, rfl, h⟩, fun v Hy hy => ?_⟩
    obtain ⟨ey, T, hT, hv⟩ := yl v Hy hy
    obtain ⟨Δ2, tg, alt⟩ := hw i T hT
    have tσ : Typed (L2.wipe σ (own.map (·.2))) ((own.map (·.2)).foldr (fun v G => G.set v none) Γ) Hy := Typed.wipe _ (t.up ((e1.trans e2).trans ey))
    refine hwipe v σ Hy _ (tg v _ Hy _ hv tσ fun σ2 t2 => ?_)
    have hlen : ((rs.take i).filterMap id).length < sizeLine :=
      Nat.lt_of_le_of_lt (Nat.le_trans (List.length_filterMap_le _ _) (by rw [List.length_take]; exact Nat.min_le_left _ _)) (Nat.lt_of_lt_of_le c hz)
    rcases alt with ⟨hr, hT⟩ | ⟨k, y, hr, hT, hK, hE⟩
    · intro s0 H0 C cl fp
      refine hT s0 H0 C cl fp σ2 Hy t2 _ fun H3 e3 => ?_
      refine iteF ⟨e2.trans (ey.trans e3), ?_⟩
      rw [List.take_succ, hr, List.filterMap_append]
      simpa using e3 _ _ (ey _ _ hacc)
    · intro s0 H0 C cl fp
      refine hT s0 H0 C cl fp σ2 Hy t2 _ fun H3 e3 => iteT ?_
      intro s1 H1' C1 cl1 fp1
      refine hK s1 H1' C1 cl1 fp1 σ2 H3 (t2.up e3) _ fun y1 H4 e4 hy1 => ?_
      intro s2 H2' C2 cl2 fp2
      refine hE s2 H2' C2 cl2 fp2 σ2 H4 (t2.up (e3.trans e4)) _ fun y2 H5 e5 hy2 => ?_
      have hy1' : y1 = kV k := hy1
      have hy2' : y2 = y := hy2
      subst hy1'; subst hy2'
      refine ⟨_, k, rfl, e5 _ _ (e4 _ _ (e3 _ _ (ey _ _ hacc))), hlen, (e2.trans (ey.trans (e3.trans (e4.trans e5)))).mut hD, ?_⟩
      rw [upd_same, List.take_succ, hr, List.filterMap_append]
      have hnew : valV ((rs.take i).filterMap id) k = none := by
        have hrs : rs = rs.take i ++ some (k, y2) :: rs.drop (i + 1) := by
          have hlt : i < rs.length := by rw [hl]; exact c
          have e := List.take_append_drop i rs
          rw [List.drop_eq_getElem_cons hlt] at e
          have hg : rs[i] = some (k, y2) := by rw [List.getElem?_eq_getElem hlt] at hr; exact Option.some.inj hr
          rw [hg] at e
          exact e.symm
        rw [hrs, List.filterMap_append, List.map_append] at hnd
        have hdis := (List.nodup_append.mp hnd).2.2
        cases hq : valV ((rs.take i).filterMap id) k with
        | none => rfl
        | some z =>
          have hin := valV_in hq
          exact absurd rfl (hdis k (by simpa using hin) k (by simp))
      rw [putK_new _ hnew]
      rfl
  · have hi2 : i = Ts.length := by omega
    refine .inl ⟨t4 hi2, ?_⟩
    rw [hi2, ← hl, List.take_length] at hacc
    exact q Da H' (e1.trans e2) (e1.free hD) hacc
end
end RL

set_option Elab.async false
set_option linter.all false
set_option maxRecDepth 100000
set_option maxHeartbeats 8000000
/-! RLset: set(list of ints), and sorted(set(..)) as one expression -/
namespace RL
open PySem PySem.Spec PyProof.Rows L2
section
variable {P : Program} {w : World} {A : Around} {E : Value → Shared → Prop} {s : Shared}
/-- the empty set's object -/
abbrev set0 (w : World) : Obj := { cls := .type "set", dict := none, data := .set #[] 0 (.fresh 0 0 (!w.params.followText "set-order")) }
/-- the loop that fills a fresh set, over a list that stands -/
theorem fill_list {l : Addr} {items : Array Value} (ns : List Int) {R : Result → Shared → Prop} (hh : A.handled = none) (hl : s.heap.IsList l items) (hit : IntsAre items.toList ns) (hb : ns.length + 1 < scanBound)
    (h : ∀ (h' : Heap) (tk c : Nat), SetR w h' s.heap.objs.size (fun j => decide (j ∈ ns)) c → c ≤ ns.length → (∀ b o, s.heap.get? b = some o → h'.get? b = some o) → R (.ok (.ret .none)) { s with heap := h', toks := tk }) :
    codeAny (model P w) A (.builtin "set.update.loop" ⟨[.ref s.heap.objs.size, .ref (s.heap.objs.size + 1)], []⟩) R
      { s with heap := (s.heap.push (set0 w)).push { cls := .type "list_iterator", data := .fields #[.ref l, .int 0 0] } } := by
  have hn : items.size = ns.length := by have q := IntsAre.length hit; rwa [Array.length_toList] at q
  obtain ⟨ol, hol, hcl, nl, hdl⟩ := id hl
  have hlS : l < s.heap.objs.size := Heap.lt_size hol
  have z1 : (s.heap.push (set0 w)).objs.size = s.heap.objs.size + 1 := Heap.size_push ..
  have hS : ((s.heap.push (set0 w)).push { cls := .type "list_iterator", data := .fields #[.ref l, .int 0 0] }).get? s.heap.objs.size = some (set0 w) := Heap.get?_push_of_some _ (Heap.get?_push_size _ rfl)
  have hL : ((s.heap.push (set0 w)).push { cls := .type "list_iterator", data := .fields #[.ref l, .int 0 0] }).IsList l items := ⟨ol, Heap.get?_push_of_some _ (Heap.get?_push_of_some _ hol), hcl, nl, hdl⟩
  have hI : ((s.heap.push (set0 w)).push { cls := .type "list_iterator", data := .fields #[.ref l, .int 0 0] }).get? (s.heap.objs.size + 1) = some { cls := .type "list_iterator", data := .fields #[.ref l, .int 0 0] } := by
    rw [← z1]; exact Heap.get?_push_size _ rfl
  have hval : ∀ (i : Nat) (v : Value), items[i]? = some v → ∃ k t, ns[i]? = some k ∧ v = .int k t := fun i v hv => by
    have hi : i < ns.length := hn ▸ (Array.getElem?_eq_some_iff.mp hv).1
    obtain ⟨t, e⟩ := PyProof.Rows.IntsAre.int_at hit i v (by rw [Array.getElem?_toList]; exact hv)
    exact ⟨ns[i], t, List.getElem?_eq_getElem hi, by rw [e, List.getD_eq_getElem?_getD, List.getElem?_eq_getElem hi] <;> rfl⟩
  have W := (Walks.list (prog := P) (w := w) (A := A.in1) hh (s.heap.objs.size + 1) l (Nat.ne_of_lt (Nat.lt_succ_of_lt hlS)) items).toS
  refine set_update_ints W s.heap.objs.size (by simp only [List.mem_cons, List.not_mem_nil, or_false, not_or]; exact ⟨Nat.ne_of_lt (Nat.lt_succ_self _), Nat.ne_of_gt hlS⟩) ns hn hb hval (items.size - 0) 0 _ rfl (Nat.zero_le _) ⟨⟨_, hI, rfl, rfl⟩, hL⟩ ⟨0, Nat.le_refl 0, setR_new_at hS⟩ fun s' c hm hc hR => ?_
  obtain ⟨h', g', d', tk', os'⟩ := s'
  obtain rfl : g' = s.gens := hm.gens
  obtain rfl : d' = s.drawn := hm.drawn
  obtain rfl : os' = s.os := hm.os
  refine h h' tk' c hR (hn ▸ hc) fun b o e => ?_
  have hb : b < s.heap.objs.size := Heap.lt_size e
  exact hm.heap b o (by simp only [List.mem_cons, List.not_mem_nil, or_false, not_or]; exact ⟨Nat.ne_of_lt hb, Nat.ne_of_lt (Nat.lt_succ_of_lt hb)⟩) (Heap.get?_push_of_some _ (Heap.get?_push_of_some _ e))
/-- set(l), l a list of ints -/
theorem set_of_list {l : Addr} {items : Array Value} (ns : List Int) {Q : Value → Shared → Prop} (hh : A.handled = none) (hl : s.heap.IsList l items) (hit : IntsAre items.toList ns) (hb : ns.length + 1 < scanBound)
    (h : ∀ (h' : Heap) (tk c : Nat), SetR w h' s.heap.objs.size (fun j => decide (j ∈ ns)) c → c ≤ ns.length → (∀ b o, s.heap.get? b = some o → h'.get? b = some o) → Q (.ref s.heap.objs.size) { s with heap := h', toks := tk }) :
    wpAny (model P w) A (call (.type "set") [.ref l]) Q E s := by
  obtain ⟨_, _, hmro⟩ := F.called_set.mro
  have c1 := F.called_set.made
  have c2 := F.called_set.sub
  have c3 := F.called_set.notType
  have c4 := F.called_set.canCreate
  have c5 := F.typeCall_set_1 (.ref l)
  refine wpAny_call (codeAny_of_tree ?_)
  show wpAny _ _ (callAny (.type "set") _) _ _ _
  refine wpAny_pure ⟨Code.quiet_builtin _ (by decide +kernel), codeAny_builtin F.entry_type_call ?_⟩
  rw [Around.under_plain (weight_type_call_type "set" [.ref l] []) rfl]
  repeat (any_goals (first | assumption | wp_step))
  refine codeAny_mono (code_set_led1 (.ref l) (E := E) (Q₁ := fun obj s₁ => obj = .ref s.heap.objs.size ∧ s₁ = { s with heap := s.heap.push (set0 w) }) ⟨rfl, rfl⟩) fun r s₁ hr => ?_
  match r, hr with
  | .error e, hr => exact hr
  | .ok (.ret obj), ⟨h1, h2⟩ =>
    subst h1; subst h2
    have hT : Shared.TypeIs { s with heap := s.heap.push (set0 w) } (.ref s.heap.objs.size) "set" := ⟨_, Heap.get?_push_size _ rfl, rfl⟩
    have i1 := F.called_set.init.lookup
    have i2 := F.called_set.init.bind (.ref s.heap.objs.size)
    repeat (any_goals (first | assumption | wp_step))
    refine codeAny_mono (codeAny_call_builtin (R := wants (fun r s₂ => r = .none ∧ Q (.ref s.heap.objs.size) s₂) E) F.called_set.init.plain F.entry_set_init (check_set_init_1 hT ?_)) fun r₂ s₂ hr₂ => ?_
    · obtain ⟨⟨ocls, odict, odata, oslots⟩, hol, hcl, nl, hdl⟩ := id hl
      simp only at hcl hdl
      subst hcl; subst hdl
      have hol' : (s.heap.push (set0 w)).get? l = some { cls := .type "list", dict := odict, data := .seq items nl, slots := oslots } := Heap.get?_push_of_some _ hol
      have t1 := F.sub_list_set
      have t2 := F.sub_list_frozenset
      have t3 : (Value.type "list" == Value.type "dict") = false := by decide
      unfold Builtin.«set.__init__» noKeywords Builtin.Frozenset.updateFrom
      generalize hPI : pyIter = PI
      wp_walk
      subst hPI
      refine wpAny_pyIter_list ⟨_, hol', rfl, nl, rfl⟩ (wpAny_bind (wpAny_runValue ?_))
      have z1 : (s.heap.push (set0 w)).objs.size = s.heap.objs.size + 1 := Heap.size_push ..
      rw [z1]
      exact fill_list ns (by simp [hh]) hl hit hb fun h' tk c hR hc k => wpAny_pure (wpAny_pure ⟨rfl, h h' tk c hR hc k⟩)
    · match r₂, hr₂ with
      | .error e, hr₂ => exact hr₂
      | .ok (.ret r), ⟨h1, hq⟩ =>
        subst h1
        repeat (any_goals (first | assumption | wp_step))
end
end RL

set_option Elab.async false
set_option linter.all false
set_option maxRecDepth 100000
set_option maxHeartbeats 4000000
/-! RL3: a def by its body; dicts, sorted, own operators -/
namespace RL
open PySem PySem.Spec PyProof.Rows L2

/-! ### a def by its body -/
def ctx0 (N : List Str) (Ts : List Ty) : Ctx := Ts.map some ++ List.replicate (N.length - Ts.length) none
theorem typed0 {N : List Str} {Ts : List Ty} {vs : List V} {H : Hp} (h : All2 Ts vs H) : Typed (L2.start N vs) (ctx0 N Ts) H := by
  refine ⟨by simp [L2.start, ctx0, h.len], fun i T g => ?_⟩
  unfold ctx0 at g
  by_cases c : i < Ts.length
  · rw [List.getElem?_append_left (by simpa using c), List.getElem?_map, List.getElem?_eq_getElem c] at g
    obtain ⟨v, hv, tv⟩ := h.get (List.getElem?_eq_getElem c)
    refine ⟨v, ?_, ?_⟩
    · unfold L2.start
      rw [List.getElem?_append_left (by simpa [← h.len] using c), List.getElem?_map, hv]
      rfl
    · cases g
      exact tv
  · rw [List.getElem?_append_right (by simpa using c), List.getElem?_replicate] at g
    split at g <;> cases g
/-- the context of a def's body -/
abbrev BX (P : Program) (w : World) (K : PySem.W.Frag) (mg : Str → Option Value) (base : Heap) (N : List Str) (qual : Str) (scope : Scope) (f : Addr) (cd : Value) (A : Around) (outer : List Env) (s : Shared) (H : Hp) (E : XK) : Cx := (cxOf CX0 P w K mg base N qual scope f cd A outer s H E).nox
section
variable {P : Program} {w : World} {K : PySem.W.Frag} {mg : Str → Option Value} {base : Heap} {x qual : Str} {params : Arguments} {body : List Stmt} {scope : Scope} {dvs : List V} {kws : List (Str × V)} {f : Addr} {fd : FuncData} {N ps : List Str} {k : Nat}
/-- any promise, the body as a goal -/
theorem fn_sp {sp : Sp} (F : FunD K x qual params body scope dvs kws f fd) (S : FnScope N ps scope) (len : ∀ vs H Q E, sp vs H Q E → vs.length = ps.length)
    (h : ∀ cdv A outer s H vs Q E, Room k (A.deeper (envOfC qual scope s.heap.objs.size f cdv)) → sp vs H Q E → tB (BX P w K mg base N qual scope f cdv A outer s H E) body { nx := fun _ H' => Q .non H', rt := Q } (L2.start N vs) H) : FnOk P w K mg base CX0 (k + 1) f fd ps sp :=
  F.ok S len fun cdv A outer s H vs Q E hr hs => ⟨_, (pb body).nox, h cdv A outer s H vs Q E hr hs⟩
theorem fn_G {α : Type} {A : α → List Ty} {R : α → Ty} (F : FunD K x qual params body scope dvs kws f fd) (S : FnScope N ps scope) (hl : ∀ a, (A a).length = ps.length)
    (h : ∀ a cdv Ar outer s H E, Room k (Ar.deeper (envOfC qual scope s.heap.objs.size f cdv)) → (BX P w K mg base N qual scope f cdv Ar outer s H E).N.Nodup → ∀ D : Ends, (∀ v H', (Bs.of H).ok H' → R a v H' → D.rt v H') → (∀ σ H', (Bs.of H).ok H' → R a .non H' → D.nx σ H') → Bd (BX P w K mg base N qual scope f cdv Ar outer s H E) (ctx0 N (A a)) body (Bs.of H) D) :
    FnOk P w K mg base CX0 (k + 1) f fd ps (spG A R) :=
  fn_sp F S (fun vs H Q E ⟨a, h2, _⟩ => by rw [← h2.len]; exact hl a) fun cdv Ar outer s H vs Q E hr ⟨a, h2, q⟩ => h a cdv Ar outer s H E hr S.nd _ (fun v H' e hv => q v H' e.1 hv) (fun _ H' e hv => q _ H' e.1 hv) _ H (Bs.refl H) (typed0 h2)
end

/-! ### operations on values -/
section
variable {X : Cx} {Γ : Ctx} {e o a b c : Expr} {es : List Expr} {T U : Ty} {Ts Us : List Ty} {pos p p2 apos : Pos} {x m : Str}
/-- what a call of a built-in gives, by its rule -/
theorem g_callB {id : String} {r : List V → Hp → VK → Prop} (hc : CallR X (.builtin id) r) (hm : X.mg x = none) (hv : bootBuiltins x = some (.builtin id)) (ha : GA X Γ (e :: es) Ts) (hr : ∀ vs H, All2 Ts vs H → ∀ Q : VK, (∀ v H', Ex H H' → U v H' → Q v H') → r vs H Q)
    (hg : Gl X x := by rfl) (hn : x ≠ "__name__" := by decide) (hdb : (x == ("__debug__" : Str)) = false := by decide) (he : starEach (e :: es) X.env = (false, eval e X.env) :: starEach es X.env := by first | exact se_cons rfl | exact se_one rfl | exact se_two rfl rfl | rfl) (hpl : (backTo pos (starEach es X.env)).any (·.1) = false := by first | exact se_any rfl | rfl) : G X Γ (.Call (.Name x p) (e :: es) [] pos) U := fun σ H t Q q =>
  toE (pe_callB hc hg hm hv (pa _) hn hdb he hpl) (ha σ H t _ fun vs H1 e1 h1 => hr vs H1 h1 Q fun v H2 e2 h2 => q v H2 (e1.trans e2) h2)
theorem g_callTy {id : String} {r : List V → Hp → VK → Prop} (hc : CallR X (.type id) r) (hm : X.mg x = none) (hv : bootBuiltins x = some (.type id)) (ha : GA X Γ (e :: es) Ts) (hr : ∀ vs H, All2 Ts vs H → ∀ Q : VK, (∀ v H', Ex H H' → U v H' → Q v H') → r vs H Q)
    (hg : Gl X x := by rfl) (hn : x ≠ "__name__" := by decide) (hdb : (x == ("__debug__" : Str)) = false := by decide) (he : starEach (e :: es) X.env = (false, eval e X.env) :: starEach es X.env := by first | exact se_cons rfl | exact se_one rfl | exact se_two rfl rfl | rfl) (hpl : (backTo pos (starEach es X.env)).any (·.1) = false := by first | exact se_any rfl | rfl) : G X Γ (.Call (.Name x p) (e :: es) [] pos) U := fun σ H t Q q =>
  toE (pe_callTy hc hg hm hv (pa _) hn hdb he hpl) (ha σ H t _ fun vs H1 e1 h1 => hr vs H1 h1 Q fun v H2 e2 h2 => q v H2 (e1.trans e2) h2)
/-- .. a new list, frozen at once -/
theorem g_callBL {id : String} {r : List V → Hp → VK → Prop} (hc : CallR X (.builtin id) r) (hm : X.mg x = none) (hv : bootBuiltins x = some (.builtin id)) (ha : GA X Γ (e :: es) Ts) (hr : ∀ vs H, All2 Ts vs H → ∀ Q : VK, (∀ ys q, H q = none → All2 Us ys H → Q (.ref q) (upd H q (.lst ys))) → r vs H Q)
    (hg : Gl X x := by rfl) (hn : x ≠ "__name__" := by decide) (hdb : (x == ("__debug__" : Str)) = false := by decide) (he : starEach (e :: es) X.env = (false, eval e X.env) :: starEach es X.env := by first | exact se_cons rfl | exact se_one rfl | exact se_two rfl rfl | rfl) (hpl : (backTo pos (starEach es X.env)).any (·.1) = false := by first | exact se_any rfl | rfl) : G X Γ (.Call (.Name x p) (e :: es) [] pos) (lstT Us) := fun σ H t Q q =>
  tE_frz (toE (pe_callB hc hg hm hv (pa _) hn hdb he hpl) (ha σ H t _ fun vs H1 e1 h1 => hr vs H1 h1 _ fun ys d hd h2 => ⟨d, _, upd_same, trivial, fun od => by
    rw [upd_upd]
    exact q _ _ (e1.trans (Ex.new hd)) ⟨d, ys, rfl, ⟨od, upd_same⟩, h2.up (Ex.new hd)⟩⟩))
theorem g_callTyL {id : String} {r : List V → Hp → VK → Prop} (hc : CallR X (.type id) r) (hm : X.mg x = none) (hv : bootBuiltins x = some (.type id)) (ha : GA X Γ (e :: es) Ts) (hr : ∀ vs H, All2 Ts vs H → ∀ Q : VK, (∀ ys q, H q = none → All2 Us ys H → Q (.ref q) (upd H q (.lst ys))) → r vs H Q)
    (hg : Gl X x := by rfl) (hn : x ≠ "__name__" := by decide) (hdb : (x == ("__debug__" : Str)) = false := by decide) (he : starEach (e :: es) X.env = (false, eval e X.env) :: starEach es X.env := by first | exact se_cons rfl | exact se_one rfl | exact se_two rfl rfl | rfl) (hpl : (backTo pos (starEach es X.env)).any (·.1) = false := by first | exact se_any rfl | rfl) : G X Γ (.Call (.Name x p) (e :: es) [] pos) (lstT Us) := fun σ H t Q q =>
  tE_frz (toE (pe_callTy hc hg hm hv (pa _) hn hdb he hpl) (ha σ H t _ fun vs H1 e1 h1 => hr vs H1 h1 _ fun ys d hd h2 => ⟨d, _, upd_same, trivial, fun od => by
    rw [upd_upd]
    exact q _ _ (e1.trans (Ex.new hd)) ⟨d, ys, rfl, ⟨od, upd_same⟩, h2.up (Ex.new hd)⟩⟩))
theorem vals2 {H : Hp} {x y : V} {vs : List V} (h : All2 [valT x, valT y] vs H) : vs = [x, y] := All2.vals (ws := [x, y]) h
theorem vals1' {H : Hp} {x : V} {vs : List V} (h : All2 [valT x] vs H) : vs = [x] := All2.vals (ws := [x]) h
theorem one2 {H : Hp} {vs : List V} (h : All2 [T] vs H) : ∃ v, vs = [v] ∧ T v H := by
  match vs, h with
  | [v], ⟨a, _⟩ => exact ⟨v, rfl, a⟩

/-! ### dicts that are frozen -/
theorem rd_dict {kvs : List (Key × V)} {v : V} {H : Hp} (h : dicT kvs v H) : ∃ a, v = .ref a ∧ Rd H a (.dK kvs) := by
  obtain ⟨a, o, ev, ha⟩ := h
  exact ⟨a, ev, .inr ⟨o, ha⟩⟩
/-- d.get(k, x) -/
theorem g_get2 {kvs : List (Key × V)} {k : Key} {f : Expr} {y : V} {cpos : Pos} (hu : X.A.units + 1 < cLine) (ho : G X Γ o (dicT kvs)) (hk : G X Γ e (valT (kV k))) (hf : G X Γ f (valT y)) (m : M2 X o "get" apos e f cpos) : G X Γ (.Call (.Attribute o "get" apos) [e, f] [] cpos) (valT ((valV kvs k).getD y)) := fun σ H t Q q =>
  toE (pe_dget2 hu (pe o) (pe e) (pe f) m) (ho σ H t _ fun v H1 e1 h1 => by
    obtain ⟨a, ev, ha⟩ := rd_dict h1
    refine ⟨a, ev, .inl ⟨kvs, ha⟩, hk σ H1 (t.up e1) _ fun u H2 e2 h2 => hf σ H2 (t.up (e1.trans e2)) _ fun z H3 e3 h3 => ?_⟩
    obtain ⟨a', ev', ha'⟩ := rd_dict ((dicT kvs).up (e2.trans e3) h1)
    rw [ev] at ev'; cases ev'
    have hz : z = y := h3
    subst hz
    exact ⟨_, .inl ⟨kvs, k, ha', h2, rfl⟩, q _ H3 (e1.trans (e2.trans e3)) rfl⟩)
/-- d[k], the key is there -/
theorem g_ixd {kvs : List (Key × V)} {k : Key} {y : V} (hu : X.A.units + 1 < cLine) (ho : G X Γ o (dicT kvs)) (hk : G X Γ e (valT (kV k))) (hy : valV kvs k = some y) (hs : NoSl e := by exact fun _ _ => rfl) : G X Γ (.Subscript o e pos) (valT y) := fun σ H t Q q =>
  toE (pe_dget hu (pe o) (pe e) hs) (ho σ H t _ fun v H1 e1 h1 => hk σ H1 (t.up e1) _ fun u H2 e2 h2 => by
    obtain ⟨a, ev, ha⟩ := rd_dict ((dicT kvs).up e2 h1)
    exact ⟨a, y, ev, .inl ⟨kvs, k, ha, h2, hy.symm⟩, q _ H2 (e1.trans e2) rfl⟩)
/-- l + l', both frozen -/
theorem op_catF : OpR X (binaryOp .Add) (fun v w H Q => ∃ l l' xs ys, v = .ref l ∧ w = .ref l' ∧ FrzL H l xs ∧ FrzL H l' ys ∧ xs.length + ys.length ≤ sizeLine ∧ ∀ q, H q = none → Q (.ref q) (upd H q (.lst (xs ++ ys)))) := by
  intro pins s σ H v w u u' Q I r r' h
  obtain ⟨l, l', xs, ys, ev, ew, ⟨o1, f1⟩, ⟨o2, f2⟩, hz, q⟩ := h
  subst ev; subst ew; cases r; cases r'
  obtain ⟨_, z1, is1, n1, v1, g1⟩ := I.hok l _ f1
  obtain ⟨_, z2, is2, n2, v2, g2⟩ := I.hok l' _ f2
  have s1 := v1.length
  have s2 := v2.length
  refine PySem.P.add_list g1 g2 ?_ (by simp only [List.size_toArray]; omega)
  rw [List.append_toArray]
  exact ⟨.ref _, _, I.lnew (t' := s.toks) (v1.append v2) (by rw [List.length_append]; exact hz), rfl, q _ I.fresh⟩
theorem g_cat (ha : G X Γ a (lstT Ts)) (hb : G X Γ b (lstT Us)) (hz : Ts.length + Us.length ≤ sizeLine) : G X Γ (.BinOp a .Add b pos) (lstT (Ts ++ Us)) := fun σ H t Q q =>
  tE_frz (toE (pe_op op_catF (pe a) (pe b)) (ha σ H t _ fun v H1 e1 h1 => hb σ H1 (t.up e1) _ fun u H2 e2 h2 => by
    obtain ⟨l, xs, ev, f1, a1⟩ := (lstT Ts).up e2 h1
    obtain ⟨l', ys, eu, f2, a2⟩ := h2
    refine ⟨l, l', xs, ys, ev, eu, f1, f2, by rw [← a1.len, ← a2.len]; exact hz, fun d hd => ⟨d, _, upd_same, trivial, fun od => ?_⟩⟩
    rw [upd_upd]
    exact q _ _ ((e1.trans e2).trans (Ex.new hd)) ⟨d, _, rfl, ⟨od, upd_same⟩, (a1.append a2).up (Ex.new hd)⟩))
/-- list(d), d frozen -/
theorem cr_listF (hc : X.calm = true) : CallR X (.type "list") (fun vs H Q => ∃ d o kvs, vs = [V.ref d] ∧ H d = some (.frz o (.dK kvs)) ∧ ∀ q, H q = none → Q (.ref q) (upd H q (.lst (kvs.map fun z => kV z.1)))) := by
  intro pins s σ H vs us Q I r h
  obtain ⟨d, o, kvs, ev, hd, q⟩ := h
  subst ev
  match us, r with
  | [u], .cons ru .nil =>
    obtain rfl : u = Value.ref d := ru
    obtain ⟨_, z, lo, ws, rk, hat⟩ := I.hok d _ hd
    obtain ⟨ep, hat⟩ := Heap.DictOf.dictAt hat
    have hn : kvs.length = ws.length := Paired.length rk
    refine PySem.W.kdl_call (PySem.W.kdl_dict (knd := mixKind X.prog X.w) (kvs := ws) (ep := ep) lo) (I.ok.hd hc) hat (by rw [← hn]; exact z) fun h' tk its c keep hS hits => ?_
    have hlen : (kvs.map fun z => kV z.1).length = its.toList.length := by
      have z2 : its.toList.length = its.size := by simp
      rw [z2, hits.1, List.length_map, hn]
    have vals : Vals (kvs.map fun z => kV z.1) its.toList := by
      refine vals_of_at hlen fun j v w h1 h2 => ?_
      obtain ⟨k, y, hky, hi⟩ := hits.2 j w (by rw [← Array.getElem?_toList]; exact h2)
      have e1 : (kvs.map (·.1))[j]? = some k := by rw [KV.keys rk, List.getElem?_map, hky]; rfl
      rw [List.getElem?_map] at e1 h1
      cases hj : kvs[j]? with
      | none => rw [hj] at e1; cases e1
      | some z =>
        rw [hj] at e1 h1
        cases e1; cases h1
        exact keyIs_rel hi
    exact ⟨.ref _, _, I.laid keep (Nat.le_refl _) (show ObjOk X.prog X.w _ _ _ (.lst _) from ⟨by rw [List.length_map]; exact z, its.toList, c, vals, by rw [Array.toArray_toList]; exact hS⟩), rfl, q _ (I.hok.fresh (Nat.le_refl _))⟩
theorem g_listD {kvs : List (Key × V)} (h : G X Γ e (dicT kvs)) (hm : X.mg "list" = none) (hc : X.calm = true := by rfl) (hg : Gl X "list" := by rfl) (he : starEach [e] X.env = (false, eval e X.env) :: starEach [] X.env := by first | exact se_cons rfl | exact se_one rfl | exact se_two rfl rfl | rfl) : G X Γ (.Call (.Name "list" p) [e] [] pos) (lstT (kvs.map fun z => valT (kV z.1))) :=
  g_callTyL (cr_listF hc) hm (by decide +kernel) (ga_cons h ga_nil he) (fun vs H h2 Q q => by
    obtain ⟨v, ev, d, o, e2, hd⟩ := one2 h2
    subst ev; subst e2
    exact ⟨d, o, kvs, rfl, hd, fun p hp => q _ p hp (by have z := All2.of_vals (H := H) (ws := kvs.map fun z => kV z.1); rwa [List.map_map] at z)⟩) hg (he := he)
/-- sorted(d), d a frozen dict of ints -/
theorem g_sortedD {kvs : List (Key × V)} {ks : List Int} (h : G X Γ e (dicT kvs)) (hm : X.mg "sorted" = none) (hk : kvs.map (·.1) = ks.map Sum.inl) (h64 : ks.length < 64) (ys : List Int) (hy : ∀ zs : List Int, zs.Perm ks → zs.Pairwise (· ≤ ·) → zs = ys) (hc : X.calm = true := by rfl) (hg : Gl X "sorted" := by rfl) (he : starEach [e] X.env = (false, eval e X.env) :: starEach [] X.env := by first | exact se_cons rfl | exact se_one rfl | exact se_two rfl rfl | rfl) :
    G X Γ (.Call (.Name "sorted" p) [e] [] pos) (lstT (ys.map fun z => intT z)) :=
  g_callBL (call_sortedDI hc) hm (by decide +kernel) (ga_cons h ga_nil he) (fun vs H h2 Q q => by
    obtain ⟨v, ev, h3⟩ := one2 h2
    obtain ⟨a, e2, ha⟩ := rd_dict h3
    subst ev; subst e2
    refine ⟨a, kvs, ks, rfl, ha, hk, h64, fun zs p hp hs hn => ?_⟩
    rw [hy zs hp hs]
    exact q _ p hn (by have z := All2.of_vals (H := H) (ws := ys.map V.int); rwa [List.map_map] at z)) hg (he := he)
/-- all(l), l a frozen list of truth values -/
theorem g_all {bs : List Bool} (h : G X Γ e (lstT (bs.map fun k => blT k))) (hm : X.mg "all" = none) (hc : X.calm = true := by rfl) (hg : Gl X "all" := by rfl) (he : starEach [e] X.env = (false, eval e X.env) :: starEach [] X.env := by first | exact se_cons rfl | exact se_one rfl | exact se_two rfl rfl | rfl) : G X Γ (.Call (.Name "all" p) [e] [] pos) (blT (bs.all id)) :=
  g_callB (cr_all hc) hm (by decide +kernel) (ga_cons h ga_nil he) (fun vs H h2 Q q => by
    obtain ⟨v, ev, a, ws, e2, f, h3⟩ := one2 h2
    subst ev; subst e2
    have z : ws = bs.map V.bl := All2.vals (H := H) (by rw [List.map_map]; exact h3)
    subst z
    exact ⟨a, bs, rfl, f.sq, q _ H (Ex.refl H) rfl⟩) hg (he := he)
end
end RL

set_option Elab.async false
set_option linter.all false
set_option maxRecDepth 100000
set_option maxHeartbeats 4000000
/-! RL4: own operators and own equality, of classes of which one may descend from another -/
namespace RL
open PySem PySem.Spec L2 PySem.W
/-- what two classes must have that their number slots go by a def of the text: nm "mul" .. -/
structure NumOp (K : Frag) (Cs : Addr → Prop) (nm : String) : Prop where
  first : ∀ C, Cs C → selfFirst K C = true
  noR : ∀ C, Cs C → findIn K (.ref C) (dunderR nm) = some none
  sub : ∀ C D, Cs C → Cs D → C ≠ D → ∃ r, subIn K (.ref D) (.ref C) = some r
theorem inst_up {h h' : Heap} {x C : Addr} {ox : Obj} {od : Option Obj} (k : ∀ b o, h.get? b = some o → h'.get? b = some o) (I : InstAt h x ox C od) : InstAt h' x ox C od := by
  obtain ⟨h1, h2, h3, h4⟩ := I
  refine ⟨k _ _ h1, h2, h3, ?_⟩
  obtain ⟨c, dct, dat, sl⟩ := ox
  cases dct with
  | none =>
    cases od with
    | none => trivial
    | some o => exact h4
  | some d =>
    cases od with
    | none => exact h4
    | some o => exact k _ _ h4
section
variable {prog : Program} {w : World} {A : Around} {E : Value → Shared → Prop} {s : Shared} {K : Frag} {x y C D f : Addr} {ox oy : Obj} {od oe : Option Obj} {Q : Value → Shared → Prop}
/-- an AttributeError is made and raised -/
theorem raise_attr {α : Type} {msg : Str} {Q : α → Shared → Prop} (hh : A.handled = none) (hm : msg.length ≤ sizeLine)
    (h : ∀ (h' : Heap) (tk : Nat) (e : Addr), (∀ b o, s.heap.get? b = some o → h'.get? b = some o) → (∃ o, h'.get? e = some o ∧ o.cls = .type "AttributeError") → E (.ref e) { s with heap := h', toks := tk }) :
    wpAny (model prog w) A (raiseErrorStr "AttributeError" msg : Sem α) Q E s := by
  unfold raiseErrorStr
  refine wpAny_bind (wpAny_mkStr (wpAny_bind ?_) hm)
  unfold newExc newTuple
  refine wpAny_bind (wpAny_newObj_type ?_ (by size_fits))
  refine wpAny_bind (m := firstArgMember _ _) (wpAny_of_eq (a := Value.none) (by simp only [firstArgMember, attrError_no_first]; rfl) ?_)
  rw [ownMembersOf_AttributeError]
  refine wpAny_newObj_type ?_ (by size_fits)
  unfold raiseNew
  refine wpAny_bind (wpAny_handled ?_)
  rw [hh]
  first
    | refine wpAny_throw ?_
    | refine wpAny_bind (wpAny_pure (wpAny_throw ?_))
  exact h _ _ _ (fun b o hb => Heap.get?_push_of_some _ (Heap.get?_push_of_some _ hb)) ⟨_, Heap.get?_push_size _ rfl, rfl⟩
/-- what a class of the text must have that it is known to lack a name -/
structure Lacks (K : Frag) (D : Addr) (name : Str) : Prop where
  any : nsIn K cStatics "thirdparty.any" = some none
  ty : typeIn K (.ref D) = some (.type "type")
  ga : findIn K (.type "type") "__getattribute__" = some (some (.builtin "type.__getattribute__"))
  gg : findIn K (.type "type") "__getattr__" = some none
  sub : subIn K (.type "type") (.type "type") = some true
  meta' : findIn K (.type "type") name = some none
  own : findIn K (.ref D) name = some none
  nm : ∃ cd, clsIn K D = some cd ∧ (cd.name.cps.foldl (fun k c => k + (Str.utf8Of c).length) 0 ≤ 100) ∧ (((s!"type object '{cd.name.toString}' has no attribute '" : String) : Str) ++ name ++ "'").length ≤ sizeLine
theorem miss_cls {name : Str} {tk : Tok} {Q : Option Value → Shared → Prop} (X : K.In s.heap) (hA : A.handled = none) (l : Lacks K D name) (h : ∀ (h' : Heap) (tk : Nat), (∀ b o, s.heap.get? b = some o → h'.get? b = some o) → Q none { s with heap := h', toks := tk }) :
    wpAny (model prog w) A (getAttrBy? (.ref D) (.str name tk)) Q E s := by
  obtain ⟨cd, hcd, hshort, hlen⟩ := l.nm
  obtain ⟨hh, g0, d0, t0, os0⟩ := s
  have L1 : Looks (model prog w) hh (typeOf (.ref D)) (.type "type") := looks_typeIn X l.ty
  have L2 : Looks (model prog w) hh (typeLookup (.type "type") "__getattribute__") (some (.builtin "type.__getattribute__")) := looks_findIn X l.ga
  have L3 : Looks (model prog w) hh (opaqueClassAbove (.ref D)) none := looks_opaque X l.any
  have L4 : Looks (model prog w) hh (typeLookup (.type "type") name) none := looks_findIn X l.meta'
  have L5 : Looks (model prog w) hh (typeLookup (.ref D) name) none := looks_findIn X l.own
  have L6 : Looks (model prog w) hh (classData D) cd := looks_clsIn X hcd
  have ne : (Value.builtin "type.__getattribute__" == Value.builtin "object.__getattribute__") = false := by decide +kernel
  unfold getAttrBy? getAttrBy
  refine wpAny_bind (wpAny_attempt (wpAny_holding (wpAny_bind (L1.at (wpAny_bind (L2.at ?_))))))
  dsimp only
  rw [ne, Bool.and_false, if_neg Bool.false_ne_true]
  unfold getAttrByItsOwn
  refine wpAny_bind (m := hookBefore (.type "type")) (wpAny_pure (wpAny_bind (wpAny_attempt (wpAny_holding ?_))))
  unfold callGetattribute
  rw [Bool.false_and, if_neg Bool.false_ne_true]
  unfold boundAndCalled
  rw [KF.slot_tga.bind]
  refine wpAny_bind (wpAny_pure ?_)
  show wpAny _ _ (call (.builtin "type.__getattribute__") [.ref D, .str name tk]) _ _ _
  refine wpAny_call (codeAny_call_builtin KF.slot_tga.plain KF.entry_tga ?_)
  refine @check_slot (model prog w) _ _ ⟨hh, g0, d0, t0, os0⟩ "type.__getattribute__" "type" "__getattribute__" (.ref D) [.str name tk] [] _ (by decide +kernel) (by decide +kernel) (L1.andThen (looks_subIn X l.sub)) (KF.args_tga (.ref D) (.str name tk)) ?_
  unfold Builtin.«type.__getattribute__»
  refine wpAny_bind (wpAny_pure (wpAny_bind (L3.at (wpAny_bind (L1.at (wpAny_bind (L4.at ?_)))))))
  refine wpAny_bind (wpAny_pure ?_)
  dsimp only
  refine wpAny_bind (L5.at ?_)
  dsimp only
  refine wpAny_bind (m := typeNameCut 100 (.ref D)) ?_
  unfold typeNameCut
  refine wpAny_bind (L6.at ?_)
  rw [if_pos hshort]
  refine wpAny_pure ?_
  refine raise_attr (s := ⟨hh, g0, d0, t0, os0⟩) hA hlen fun h' tk' e k he => ?_
  obtain ⟨o, ho, hc⟩ := he
  have Li : ∀ {A : Around} {E : Value → Shared → Prop} {Q' : Bool → Shared → Prop}, Q' true ⟨h', g0, d0, tk', os0⟩ → wpAny (model prog w) A (isInstance (.ref e) (.type "AttributeError")) Q' E ⟨h', g0, d0, tk', os0⟩ := fun q => by
    unfold isInstance
    refine wpAny_bind (wpAny_typeOf_ref ho ?_)
    rw [hc, sub_AttributeError]
    exact wpAny_pure q
  have Lg : Looks (model prog w) h' (typeLookup (.type "type") "__getattr__") none := looks_findIn (X.keeps k) l.gg
  unfold getattributeRaised
  refine wpAny_bind (Li ?_)
  rw [if_pos rfl]
  refine wpAny_bind (m := hookBehind (.type "type") none) (Lg.at ?_)
  unfold hookOrError attributeErrorLeaves
  refine wpAny_bind (wpAny_throw ?_)
  refine wpAny_bind (Li ?_)
  rw [if_pos rfl]
  exact wpAny_pure (h h' tk' k)
theorem no_reflected {nm : String} {Q : Bool → Shared → Prop} (X : K.In s.heap) (hA : A.handled = none) (p1 : Looks (model prog w) s.heap (numberSlotInPython (.ref C) nm) true) (p2 : Looks (model prog w) s.heap (numberSlotInPython (.ref D) nm) true)
    (hr : Lacks K D (dunderR nm)) (hz : (dunderR nm).length ≤ sizeLine) (h : ∀ (h' : Heap) (tk : Nat), (∀ b o, s.heap.get? b = some o → h'.get? b = some o) → Q false { s with heap := h', toks := tk }) : wpAny (model prog w) A (reflectedDiffers (.ref C) (.ref D) nm) Q E s := by
  unfold reflectedDiffers
  refine wpAny_bind (p1.here ?_)
  simp only [Bool.not_true, Bool.false_eq_true, if_false]
  refine wpAny_bind (p2.here ?_)
  simp only [Bool.not_true, Bool.false_eq_true, if_false]
  refine wpAny_bind (wpAny_mkStr ?_ hz)
  refine wpAny_bind (miss_cls (s := { s with toks := s.toks + 1 }) X hA hr fun h' tk k => ?_)
  exact wpAny_pure (h h' tk k)
/-- x op y, both of the text's own classes -/
theorem binop_own {op : Operator} (X : K.In s.heap) (hA : A.handled = none) (I : InstAt s.heap x ox C od) (J : InstAt s.heap y oy D oe) (nC : selfFirst K C = true) (nD : selfFirst K D = true)
    (hs : findIn K (.ref C) (PySem.dunder op.info.2) = some (some (.ref f))) (hf : isFn K (.ref f) = true) (hr : findIn K (.ref C) (dunderR op.info.2) = some none) (hsD : ∃ g : Addr, findIn K (.ref D) (PySem.dunder op.info.2) = some (some (.ref g))) (hrD : Lacks K D (dunderR op.info.2)) (hz : (dunderR op.info.2).length ≤ sizeLine)
    (hsub : C ≠ D → ∃ r, subIn K (.ref D) (.ref C) = some r)
    (h : ∀ (h' : Heap) (tk : Nat), (∀ b o, s.heap.get? b = some o → h'.get? b = some o) → wpAny (model prog w) A (call (.ref f) [.ref x, .ref y]) (CmpBack Q) E { s with heap := h', toks := tk }) : wpAny (model prog w) A (binaryOp op (.ref x) (.ref y)) Q E s := by
  obtain ⟨cd, rest, hcd, hm⟩ := ksp_first nC
  obtain ⟨cd', rest', hcd', hm'⟩ := ksp_first nD
  obtain ⟨g, hsD⟩ := hsD
  rcases hi : op.info with ⟨sym, nm⟩
  rw [hi] at hs hr hsD hrD hz
  dsimp only at hs hr hsD hrD hz
  have tail : ∀ (h' : Heap) (tk : Nat), (∀ b o, s.heap.get? b = some o → h'.get? b = some o) → wpAny (model prog w) A (tryMethod (.ref x) (PySem.dunder nm) (.ref y)) (fun r s' => ∃ v, r = some v ∧ Q v s') E { s with heap := h', toks := tk } := fun h' tk k =>
    ksp_try (X.keeps k) (inst_up k I) hs hf (h h' tk k)
  have L1 : Looks (model prog w) s.heap (typeOf (.ref x)) (.ref C) := I.type
  have L2 : Looks (model prog w) s.heap (typeOf (.ref y)) (.ref D) := J.type
  have L3 : Looks (model prog w) s.heap (fillsNumberSlot (.ref C) nm) true := fills_K X hcd hm hs
  have L4 : Looks (model prog w) s.heap (fillsNumberSlot (.ref D) nm) true := fills_K X hcd' hm' hsD
  have L6 : Looks (model prog w) s.heap (numberSlotInPython (.ref C) nm) true := ksp_inPy X hs hr (.inl rfl)
  have L7 : Looks (model prog w) s.heap (numberSlotInPython (.ref D) nm) true := ksp_inPy X hsD hrD.own (.inl rfl)
  obtain ⟨hh, g0, d0, t0, os0⟩ := s
  have one : wpAny (model prog w) A (tryMethod (.ref x) (PySem.dunder nm) (.ref y)) (fun r s' => ∃ v, r = some v ∧ Q v s') E ⟨hh, g0, d0, t0, os0⟩ := tail hh t0 fun _ _ z => z
  simp only [binaryOp, hi]
  refine wpAny_holding (wpAny_bind ?_)
  unfold binaryOp1
  refine wpAny_bind (L1.at (wpAny_bind (L2.at (wpAny_bind (L3.at ?_)))))
  by_cases e : C = D
  · subst e
    simp only [beq_self_eq_true, if_true]
    ksp_lk
    refine wpAny_mono one (fun r s' hr' => ?_) fun _ _ e => e
    obtain ⟨v, rfl, hq⟩ := hr'
    ksp_lk
    exact hq
  · have hne : (Value.ref C == Value.ref D) = false := Bool.eq_false_iff.mpr fun q => e (by cases beq_iff_eq.mp q; rfl)
    obtain ⟨r, hr2⟩ := hsub e
    have L5 : Looks (model prog w) hh (isSubtype (.ref D) (.ref C)) r := looks_subIn X hr2
    simp only [hne, Bool.false_eq_true, if_false]
    cases r with
    | false =>
      ksp_lk
      refine wpAny_mono one (fun r s' hr' => ?_) fun _ _ e => e
      obtain ⟨v, rfl, hq⟩ := hr'
      ksp_lk
      exact hq
    | true =>
      refine wpAny_bind (L4.at ?_)
      simp only [Bool.and_self, if_true]
      refine wpAny_bind (L5.at ?_)
      simp only [if_true]
      refine wpAny_bind (no_reflected (s := ⟨hh, g0, d0, t0, os0⟩) X hA L6 L7 hrD hz fun h' tk k => ?_)
      have L6' : Looks (model prog w) h' (numberSlotInPython (.ref C) nm) true := ksp_inPy (X.keeps k) hs hr (.inl rfl)
      have L7' : Looks (model prog w) h' (numberSlotInPython (.ref D) nm) true := ksp_inPy (X.keeps k) hsD hrD.own (.inl rfl)
      have two : wpAny (model prog w) A (tryMethod (.ref x) (PySem.dunder nm) (.ref y)) (fun r s' => ∃ v, r = some v ∧ Q v s') E ⟨h', g0, d0, tk, os0⟩ := tail h' tk k
      simp only [Bool.false_eq_true, if_false, Bool.not_false, Bool.and_self, if_true]
      ksp_lk
      refine wpAny_mono two (fun r s' hr' => ?_) fun _ _ e => e
      obtain ⟨v, rfl, hq⟩ := hr'
      ksp_lk
      exact hq
/-- x == y, both of the text's own classes: the def of the one, or of the other where that one's class descends -/
theorem eq_own {f g : Addr} (X : K.In s.heap) (hu : A.units < cLine) (I : InstAt s.heap x ox C od) (J : InstAt s.heap y oy D oe)
    (hs : findIn K (.ref C) "__eq__" = some (some (.ref f))) (hf : isFn K (.ref f) = true) (hsD : findIn K (.ref D) "__eq__" = some (some (.ref g))) (hg : isFn K (.ref g) = true)
    (hsub : C ≠ D → ∃ r, subIn K (.ref D) (.ref C) = some r)
    (h1 : wpAny (model prog w) A (call (.ref f) [.ref x, .ref y]) (PySem.W.CmpBack Q) E s) (h2 : wpAny (model prog w) A (call (.ref g) [.ref y, .ref x]) (PySem.W.CmpBack Q) E s) : wpAny (model prog w) A (richCompare .Eq (.ref x) (.ref y)) Q E s := by
  have try' : ∀ {u v : Addr} {c e : Addr} {ou : Obj} {oo : Option Obj}, InstAt s.heap u ou c oo → findIn K (.ref c) "__eq__" = some (some (.ref e)) → isFn K (.ref e) = true → wpAny (model prog w) A (call (.ref e) [.ref u, .ref v]) (PySem.W.CmpBack Q) E s →
      wpAny (model prog w) A (tryCompare (.ref u) "__eq__" (.ref v)) (fun r s' => ∃ z, r = some z ∧ Q z s') E s := fun U a b hh => by
    unfold tryCompare
    refine wpAny_bind (ifBound_K X U a b (wpAny_mono hh (fun z s' hz => ?_) fun _ _ e => e))
    cases z <;> first | exact hz.elim | exact wpAny_pure ⟨_, rfl, hz⟩
  unfold richCompare
  simp only [oneThing_ref]
  refine wpAny_holding (wpAny_bind (wpAny_cRoomFor hu ?_))
  refine wpAny_bind (I.type.here (wpAny_bind (J.type.here ?_)))
  by_cases e : C = D
  · subst e
    have ne : (Value.ref C != Value.ref C) = false := by simp
    rw [ne, if_neg Bool.false_ne_true]
    refine wpAny_bind (wpAny_pure ?_)
    simp only [Bool.false_eq_true, if_false]
    refine wpAny_bind (wpAny_mono (try' I hs hf h1) (fun r s' z => ?_) fun _ _ e => e)
    obtain ⟨v, rfl, hq⟩ := z
    exact wpAny_pure hq
  · have ne : (Value.ref C != Value.ref D) = true := by simpa using e
    rw [ne, if_pos rfl]
    obtain ⟨r, hr⟩ := hsub e
    refine wpAny_bind ((looks_subIn X hr).here ?_)
    cases r with
    | false =>
      simp only [Bool.false_eq_true, if_false]
      refine wpAny_bind (wpAny_mono (try' I hs hf h1) (fun r s' z => ?_) fun _ _ e => e)
      obtain ⟨v, rfl, hq⟩ := z
      exact wpAny_pure hq
    | true =>
      simp only [if_true]
      refine wpAny_bind (m := tryCompare (.ref y) _ (.ref x)) (wpAny_mono (try' J hsD hg h2) (fun r s' z => ?_) fun _ _ e => e)
      obtain ⟨v, rfl, hq⟩ := z
      exact wpAny_bind (wpAny_rule (wpAny_pure hq))
/-- x != y by the built-in way, which asks == -/
theorem ne_try {f : Addr} (X : K.In s.heap) (hu : A.units + 1 < cLine) (I : InstAt s.heap x ox C od) (hn : findIn K (.ref C) "__ne__" = some (some (.builtin "object.__ne__"))) (ho : subIn K (.ref C) (.type "object") = some true)
    (hs : findIn K (.ref C) "__eq__" = some (some (.ref f))) (hf : isFn K (.ref f) = true) (h : wpAny (model prog w) A.in1 (call (.ref f) [.ref x, .ref y]) (fun v s' => ∃ b, v = .bool b ∧ Q (.bool !b) s') E s) :
    wpAny (model prog w) A (tryCompare (.ref x) "__ne__" (.ref y)) (fun r s' => ∃ z, r = some z ∧ Q z s') E s := by
  unfold tryCompare
  refine wpAny_bind (m := callSpecialIfBound? (.ref x) "__ne__" [.ref y]) ?_
  simp only [callSpecialIfBound?, bindSpecialIfBound?]
  refine wpAny_holding (wpAny_bind (wpAny_bind (wpAny_bind (I.type.here ((looks_findIn X hn).here ?_)))))
  refine wpAny_bind (wpAny_askSetting (wpAny_ite ?_))
  have bnd : bindSpecial (.builtin "object.__ne__") (.ref x) = pure (.builtin "object.__ne__", [.ref x]) := F.cmp_object.ne.bind (.ref x)
  have body : wpAny (model prog w) A (call (.builtin "object.__ne__") [.ref x, .ref y]) (fun v s' => ∃ b, v = .bool (!b) ∧ Q (.bool !b) s') E s := by
    refine wpAny_call (codeAny_call_builtin F.cmp_object.ne.plain F.cmpEntry_ne (PySem.W.check_slot F.cmpKind_ne F.cmpSplit_ne (I.type.andThen (looks_subIn X ho)) (F.cmpArgs_ne _ _) ?_))
    unfold Builtin.«object.__ne__»
    refine wpAny_bind (wpAny_of_eq (a := ((Value.ref x : Value), [Value.ref y])) (by first | rfl | (simp only [slotArgs]; rfl)) ?_)
    refine wpAny_bind (wpAny_cRoomFor (by show A.units + 1 < cLine; exact hu) ?_)
    refine wpAny_bind (ifBound_K X I hs hf (wpAny_mono h (fun v s' hv => ?_) fun _ _ z => z))
    obtain ⟨b, rfl, hq⟩ := hv
    exact wpAny_bind (m := truthy (.bool b)) (wpAny_pure (wpAny_pure ⟨b, rfl, hq⟩))
  have fin : wpAny (model prog w) A (call (.builtin "object.__ne__") ([.ref x] ++ [.ref y]) >>= fun v => pure (some v)) (fun r s' => wpAny (model prog w) A (match r with
      | some .notImplemented | none => pure none
      | some v => pure (some v)) (fun r s' => ∃ z, r = some z ∧ Q z s') E s') E s := wpAny_bind (wpAny_mono body (fun v s' h' => by
    obtain ⟨b, rfl, hq⟩ := h'
    exact wpAny_pure (wpAny_pure ⟨_, rfl, hq⟩)) fun _ _ h' => h')
  rw [bnd]
  split
  · exact wpAny_bind (wpAny_pure (wpAny_pure (by exact fin)))
  · exact wpAny_tryCatch (wpAny_bind (wpAny_pure (wpAny_pure (by exact fin))))
theorem ne_own {f g : Addr} (X : K.In s.heap) (hu : A.units + 1 < cLine) (I : InstAt s.heap x ox C od) (J : InstAt s.heap y oy D oe)
    (hn : findIn K (.ref C) "__ne__" = some (some (.builtin "object.__ne__"))) (hnD : findIn K (.ref D) "__ne__" = some (some (.builtin "object.__ne__"))) (ho : subIn K (.ref C) (.type "object") = some true) (hoD : subIn K (.ref D) (.type "object") = some true)
    (hs : findIn K (.ref C) "__eq__" = some (some (.ref f))) (hf : isFn K (.ref f) = true) (hsD : findIn K (.ref D) "__eq__" = some (some (.ref g))) (hg : isFn K (.ref g) = true)
    (hsub : C ≠ D → ∃ r, subIn K (.ref D) (.ref C) = some r)
    (h1 : wpAny (model prog w) A.in1 (call (.ref f) [.ref x, .ref y]) (fun v s' => ∃ b, v = .bool b ∧ Q (.bool !b) s') E s) (h2 : wpAny (model prog w) A.in1 (call (.ref g) [.ref y, .ref x]) (fun v s' => ∃ b, v = .bool b ∧ Q (.bool !b) s') E s) : wpAny (model prog w) A (richCompare .NotEq (.ref x) (.ref y)) Q E s := by
  unfold richCompare
  simp only [oneThing_ref]
  refine wpAny_holding (wpAny_bind (wpAny_cRoomFor (Nat.lt_of_succ_lt hu) ?_))
  refine wpAny_bind (I.type.here (wpAny_bind (J.type.here ?_)))
  by_cases e : C = D
  · subst e
    have ne : (Value.ref C != Value.ref C) = false := by simp
    rw [ne, if_neg Bool.false_ne_true]
    refine wpAny_bind (wpAny_pure ?_)
    simp only [Bool.false_eq_true, if_false]
    refine wpAny_bind (wpAny_mono (ne_try X hu I hn ho hs hf h1) (fun r s' z => ?_) fun _ _ e => e)
    obtain ⟨v, rfl, hq⟩ := z
    exact wpAny_pure hq
  · have ne : (Value.ref C != Value.ref D) = true := by simpa using e
    rw [ne, if_pos rfl]
    obtain ⟨r, hr⟩ := hsub e
    refine wpAny_bind ((looks_subIn X hr).here ?_)
    cases r with
    | false =>
      simp only [Bool.false_eq_true, if_false]
      refine wpAny_bind (wpAny_mono (ne_try X hu I hn ho hs hf h1) (fun r s' z => ?_) fun _ _ e => e)
      obtain ⟨v, rfl, hq⟩ := z
      exact wpAny_pure hq
    | true =>
      simp only [if_true]
      refine wpAny_bind (m := tryCompare (.ref y) _ (.ref x)) (wpAny_mono (ne_try X hu J hnD hoD hsD hg h2) (fun r s' z => ?_) fun _ _ e => e)
      obtain ⟨v, rfl, hq⟩ := z
      exact wpAny_bind (wpAny_rule (wpAny_pure hq))
end
end RL

set_option Elab.async false
set_option linter.all false
set_option maxRecDepth 100000
set_option maxHeartbeats 4000000
/-! RL5: own operators as rules over the layer -/
namespace RL
open PySem PySem.Spec PyProof.Rows L2
/-- a family of classes of the text whose instances meet in operators -/
structure Fam (K : PySem.W.Frag) (Cs : Addr → Prop) : Prop where
  cls : ∀ C, Cs C → Cls K C
  first : ∀ C, Cs C → PySem.W.selfFirst K C = true
  sub : ∀ C D, Cs C → Cs D → C ≠ D → ∃ r, PySem.W.subIn K (.ref D) (.ref C) = some r
  obj : ∀ C, Cs C → PySem.W.subIn K (.ref C) (.type "object") = some true
  ne : ∀ C, Cs C → PySem.W.findIn K (.ref C) "__ne__" = some (some (.builtin "object.__ne__"))
def InsAny (Cs : Addr → Prop) (v : V) (H : Hp) : Prop := ∃ a C dx fs, v = .ref a ∧ H a = some (.ins C dx fs) ∧ Cs C
section
variable {X : Cx} {Cs : Addr → Prop} {k : Nat} {m : Str} {ps : List Str} {sp : Sp}
theorem inst_of {pins : List (Addr × Obj)} {σ : L2.St} {H : Hp} {s : Shared} {a C dx : Addr} {fs : List (Str × V)} (I : Inv X pins σ H s) (h : H a = some (.ins C dx fs)) : ∃ ox od, PySem.W.InstAt s.heap a ox C od := by
  obtain ⟨mA, J, _⟩ := ins_get I.hok h
  obtain ⟨od, J, _⟩ := J.look
  exact ⟨_, _, J⟩
theorem not_ni {v : V} {u : Value} (r : L2.RelV v u) : u ≠ .notImplemented := by
  cases v <;> (unfold L2.RelV at r; first | (subst r; intro z; cases z) | (obtain ⟨_, rfl⟩ := r; intro z; cases z))
theorem back_of {pins : List (Addr × Obj)} {σ : L2.St} {Q : VK} {u : Value} {s' : Shared} (h : EP X pins σ Q u s') : PySem.W.CmpBack (EP X pins σ Q) u s' := by
  obtain ⟨v, H', I, r, q⟩ := h
  have hn := not_ni r
  cases u <;> first | exact ⟨v, H', I, r, q⟩ | exact absurd rfl hn
/-- x op y by the text's own def -/
theorem op_ownB {op : Operator} (Fa : Fam X.K Cs) (F : MtG X.prog X.w X.K X.mg X.base k Cs (PySem.dunder op.info.2) ps sp) (hr : Room k X.A) (hl : ∀ D, Cs D → Lacks X.K D (dunderR op.info.2)) (hz : (dunderR op.info.2).length ≤ sizeLine := by decide +kernel) :
    OpR X (binaryOp op) (fun x y H Q => InsAny Cs x H ∧ InsAny Cs y H ∧ sp [x, y] H Q E0) := by
  intro pins s σ H x y v u Q I rx ry h
  obtain ⟨⟨a, C, dx, fs, ex, ha, hC⟩, ⟨b, D, dy, gs, ey, hb, hD⟩, q⟩ := h
  subst ex; subst ey; cases rx; cases ry
  obtain ⟨ox, od, J⟩ := inst_of I ha
  obtain ⟨oy, oe, J2⟩ := inst_of I hb
  obtain ⟨f, fd, F1, _, M, B⟩ := F.ex C hC
  obtain ⟨g, _, _, _, M2, _⟩ := F.ex D hD
  refine binop_own I.kIn hr.hd J J2 (Fa.first C hC) (Fa.first D hD) M.at_ M.fn (hl C hC).own ⟨g, M2.at_⟩ (hl D hD) hz (fun ne => Fa.sub C D hC hD ne) fun h' tk kp => ?_
  have I' : Inv X pins σ H { s with heap := h', toks := tk } := I.un (Un.kept kp) (I.hok.kept kp)
  exact wpAny_mono (run_fn (us := [.ref a, .ref b]) (vs := [.ref a, .ref b]) F1 hr B .nil pass0 I' (.cons rfl (.cons rfl .nil)) q) (fun _ _ z => back_of z) fun _ _ z => z
/-- what an own == promises: of instances in the family a truth value -/
theorem op_ownE (Fa : Fam X.K Cs) (F : MtG X.prog X.w X.K X.mg X.base k Cs "__eq__" ps sp) (hr : Room k X.A) :
    OpR X (compareOp .Eq) (fun x y H Q => InsAny Cs x H ∧ InsAny Cs y H ∧ sp [x, y] H Q E0 ∧ sp [y, x] H Q E0) := by
  intro pins s σ H x y v u Q I rx ry h
  obtain ⟨⟨a, C, dx, fs, ex, ha, hC⟩, ⟨b, D, dy, gs, ey, hb, hD⟩, q, q'⟩ := h
  subst ex; subst ey; cases rx; cases ry
  obtain ⟨ox, od, J⟩ := inst_of I ha
  obtain ⟨oy, oe, J2⟩ := inst_of I hb
  obtain ⟨f, fd, F1, _, M, B⟩ := F.ex C hC
  obtain ⟨g, gd, F2, _, M2, B2⟩ := F.ex D hD
  show wpAny _ _ (richCompare .Eq (.ref a) (.ref b)) _ _ _
  exact eq_own I.kIn hr.units0 J J2 M.at_ M.fn M2.at_ M2.fn (fun ne => Fa.sub C D hC hD ne)
    (wpAny_mono (run_fn (us := [.ref a, .ref b]) (vs := [.ref a, .ref b]) F1 hr B .nil pass0 I (.cons rfl (.cons rfl .nil)) q) (fun _ _ z => back_of z) fun _ _ z => z)
    (wpAny_mono (run_fn (us := [.ref b, .ref a]) (vs := [.ref b, .ref a]) F2 hr B2 .nil pass0 I (.cons rfl (.cons rfl .nil)) q') (fun _ _ z => back_of z) fun _ _ z => z)
end
section
variable {X : Cx} {Cs : Addr → Prop} {k : Nat} {m : Str} {ps : List Str} {sp : Sp}
theorem run_fn1 {f : Addr} {fd : FuncData} {pins : List (Addr × Obj)} {σ : L2.St} {H : Hp} {s : Shared} {Q : VK} {us : List Value} {vs : List V} (F : FnOk X.prog X.w X.K X.mg X.base CX0 k f fd ps sp) (hr : Room (k + 1) X.A) (hb : Binds X.K fd ps [])
    (I : Inv X pins σ H s) (r : Vals vs us) (h : sp vs H Q E0) : wpAny (model X.prog X.w) X.A.in1 (call (.ref f) us) (EP X pins σ Q) X.xe s := by
  have hl : us.length = ps.length := by rw [← r.length]; exact F.len _ _ _ _ h
  have b := hb s us I.kIn (by simpa using hl)
  rw [List.append_nil] at b
  refine wpAny_call (codeAny_mono (F.run X.A.in1 X.stack s H ⟨us, []⟩ us vs Q E0 hr.in1 I.env0.in1 b r h) fun r s' hq => ?_)
  cases r with
  | error e => exact False.elim hq
  | ok fl =>
    cases fl with
    | ret u => exact I.after hq
    | next => exact False.elim hq
    | brk => exact False.elim hq
    | cont => exact False.elim hq
theorem op_ownN (Fa : Fam X.K Cs) (F : MtG X.prog X.w X.K X.mg X.base k Cs "__eq__" ps sp) (hr : Room (k + 1) X.A) :
    OpR X (compareOp .NotEq) (fun x y H Q => InsAny Cs x H ∧ InsAny Cs y H ∧ sp [x, y] H (fun v H' => ∃ c, v = .bl c ∧ Q (.bl !c) H') E0 ∧ sp [y, x] H (fun v H' => ∃ c, v = .bl c ∧ Q (.bl !c) H') E0) := by
  intro pins s σ H x y v u Q I rx ry h
  obtain ⟨⟨a, C, dx, fs, ex, ha, hC⟩, ⟨b, D, dy, gs, ey, hb, hD⟩, q, q'⟩ := h
  subst ex; subst ey; cases rx; cases ry
  obtain ⟨ox, od, J⟩ := inst_of I ha
  obtain ⟨oy, oe, J2⟩ := inst_of I hb
  obtain ⟨f, fd, F1, _, M, B⟩ := F.ex C hC
  obtain ⟨g, gd, F2, _, M2, B2⟩ := F.ex D hD
  have fin : ∀ {u : Value} {s' : Shared}, EP X pins σ (fun v H' => ∃ c, v = .bl c ∧ Q (.bl !c) H') u s' → ∃ c, u = .bool c ∧ EP X pins σ Q (.bool !c) s' := fun h => by
    obtain ⟨v, H', I, r, c, ev, q⟩ := h
    subst ev
    exact ⟨c, r, .bl (!c), H', I, rfl, q⟩
  show wpAny _ _ (richCompare .NotEq (.ref a) (.ref b)) _ _ _
  refine ne_own I.kIn ?_ J J2 (Fa.ne C hC) (Fa.ne D hD) (Fa.obj C hC) (Fa.obj D hD) M.at_ M.fn M2.at_ M2.fn (fun ne => Fa.sub C D hC hD ne)
    (wpAny_mono (run_fn1 (us := [.ref a, .ref b]) (vs := [.ref a, .ref b]) F1 hr B I (.cons rfl (.cons rfl .nil)) q) (fun _ _ z => fin z) fun _ _ z => z)
    (wpAny_mono (run_fn1 (us := [.ref b, .ref a]) (vs := [.ref b, .ref a]) F2 hr B2 I (.cons rfl (.cons rfl .nil)) q') (fun _ _ z => fin z) fun _ _ z => z)
  have := hr.units
  omega
end
end RL

set_option Elab.async false
set_option linter.all false
set_option maxRecDepth 100000
set_option maxHeartbeats 4000000
/-! RL6: a head's facts with further ones of one's own; from facts to promises -/
namespace RL
open PySem PySem.Spec PyProof.Rows L2
/-- the fragment: what the module's names reach, and the statics -/
def frX (n : Nat) (g : Addr → Option Obj) : PySem.W.Frag := He.frG g (cStatics :: He.asD g n)
abbrev AlX : Type := He.AlD × Bool
def obsX (n : Nat) (fa : List He.Fa) (fn : List He.DefD) (ex : PySem.W.Frag → Bool) (g : Addr → Option Obj) : AlX := (He.obsD fa fn (frX n g), ex (frX n g))
def SaysX (fa : List He.Fa) (fn : List He.DefD) (ex : PySem.W.Frag → Bool) (K : PySem.W.Frag) : Prop := He.SaysD fa fn K ∧ ex K = true
def hookX (n : Nat) (fa : List He.Fa) (fn : List He.DefD) (ex : PySem.W.Frag → Bool) : PySem.W.Hook where
  α := AlX
  obs := fun s => obsX n fa fn ex s.heap.get?
  val := fun _ => (He.valD fn, true)
  says := fun _ h => ∃ K : PySem.W.Frag, K.In h ∧ SaysX fa fn ex K
  of := fun _ s e => ⟨frX n s.heap.get?, He.frG_in, (Prod.mk.inj e).1, (Prod.mk.inj e).2⟩
  keeps := fun _ _ _ ⟨K, hK, c⟩ k => ⟨K, PySem.W.Frag.In.keeps hK k, c⟩
theorem obsX_eq {n : Nat} {fa : List He.Fa} {fn : List He.DefD} {ex : PySem.W.Frag → Bool} {g : Addr → Option Obj} {s : Shared} (h : ∀ a, g a = s.heap.get? a) : obsX n fa fn ex g = (hookX n fa fn ex).obs s := by
  have e : g = s.heap.get? := funext h
  rw [e] <;> rfl
/-! ### facts of classes that meet in operators -/
open PySem.W in
def lacksB (K : Frag) (D : Addr) (name : Str) : Bool := He.eqO (nsIn K cStatics "thirdparty.any") (some none) && decide (typeIn K (.ref D) = some (.type "type")) && He.eqO (findIn K (.type "type") "__getattribute__") (some (some (.builtin "type.__getattribute__"))) &&
  He.eqO (findIn K (.type "type") "__getattr__") (some none) && decide (subIn K (.type "type") (.type "type") = some true) && He.eqO (findIn K (.type "type") name) (some none) && He.eqO (findIn K (.ref D) name) (some none) &&
  (match clsIn K D with
    | some cd => decide (cd.name.cps.foldl (fun k c => k + (Str.utf8Of c).length) 0 ≤ 100) && decide ((((s!"type object '{cd.name.toString}' has no attribute '" : String) : Str) ++ name ++ "'").length ≤ sizeLine)
    | none => false)
theorem lacks_of {K : PySem.W.Frag} {D : Addr} {name : Str} (h : lacksB K D name = true) : Lacks K D name := by
  unfold lacksB at h
  simp only [Bool.and_eq_true, decide_eq_true_eq] at h
  obtain ⟨⟨⟨⟨⟨⟨⟨h1, h2⟩, h3⟩, h4⟩, h5⟩, h6⟩, h7⟩, h8⟩ := h
  refine ⟨He.eqO_ok h1, h2, He.eqO_ok h3, He.eqO_ok h4, h5, He.eqO_ok h6, He.eqO_ok h7, ?_⟩
  split at h8
  · rename_i cd e
    simp only [Bool.and_eq_true, decide_eq_true_eq] at h8
    exact ⟨cd, e, h8.1, h8.2⟩
  · cases h8
open PySem.W in
def famB (K : Frag) (cs : List Str) : Bool := cs.all fun x => (He.Fa.cls x).ok K && selfFirst K (He.ga K x) && decide (subIn K (.ref (He.ga K x)) (.type "object") = some true) && He.eqO (findIn K (.ref (He.ga K x)) "__ne__") (some (some (.builtin "object.__ne__"))) &&
  cs.all fun y => (subIn K (.ref (He.ga K y)) (.ref (He.ga K x))).isSome
open PySem.W in
/-- isinstance against the class x, of an instance of one of these -/
def isaB (K : Frag) (cs : List Str) (x : Str) : Bool := (He.Fa.cls x).ok K && decide (specialIn K (.builtin "object.__class__") "__get__" = some (some (.builtin "getset_descriptor.__get__"))) && decide (takesIn K (.builtin "object.__class__") = some true) &&
  cs.all fun y => (He.Fa.cls y).ok K && He.eqO (findIn K (.ref (He.ga K y)) "__class__") (some (some (.builtin "object.__class__"))) && decide (mroIn K (He.ga K y) (.type "object") = some true) && decide (kitOne K (.ref (He.ga K y)) (.ref (He.ga K x)) = some true)
/-- the classes of these names -/
def NamesC (K : PySem.W.Frag) (cs : List Str) (C : Addr) : Prop := ∃ x ∈ cs, C = He.ga K x
theorem fam_of {K : PySem.W.Frag} {cs : List Str} (h : famB K cs = true) : Fam K (NamesC K cs) := by
  unfold famB at h
  have g : ∀ x ∈ cs, _ := fun x hx => List.all_eq_true.mp h x hx
  simp only [Bool.and_eq_true, decide_eq_true_eq] at g
  refine ⟨?_, ?_, ?_, ?_, ?_⟩
  · rintro C ⟨x, hx, rfl⟩; exact He.cls_ok (g x hx).1.1.1.1
  · rintro C ⟨x, hx, rfl⟩; exact (g x hx).1.1.1.2
  · rintro C D ⟨x, hx, rfl⟩ ⟨y, hy, rfl⟩ _
    exact Option.isSome_iff_exists.mp (List.all_eq_true.mp (g x hx).2 y hy)
  · rintro C ⟨x, hx, rfl⟩; exact (g x hx).1.1.2
  · rintro C ⟨x, hx, rfl⟩; exact He.eqO_ok (g x hx).1.2
theorem isa_of {K : PySem.W.Frag} {cs : List Str} {x : Str} (h : isaB K cs x = true) {v : V} {H : Hp} (hv : InsAny (NamesC K cs) v H) : ∃ t, TyX K H v t ∧ PySem.W.kitOne K t (.ref (He.ga K x)) = some true := by
  unfold isaB at h
  simp only [Bool.and_eq_true, decide_eq_true_eq] at h
  obtain ⟨⟨⟨_, h2⟩, h3⟩, h4⟩ := h
  obtain ⟨a, C, dx, fs, rfl, ha, y, hy, rfl⟩ := hv
  have g := List.all_eq_true.mp h4 y hy
  simp only [Bool.and_eq_true, decide_eq_true_eq] at g
  exact ⟨_, .base (.ins ha (He.cls_ok g.1.1.1) (He.eqO_ok g.1.1.2) h2 h3 g.1.2), g.2⟩
/-! ### from facts to promises -/
/-- what is known behind the top -/
structure Tx (qa : List He.Fa) (qn : List He.DefD) (ex : PySem.W.Frag → Bool) (K : PySem.W.Frag) (mg : Str → Option Value) : Prop where
  c : SaysX qa qn ex K
  ns : ∃ h, K.In h ∧ h.Ns mainGlobals mg
section
variable {qa : List He.Fa} {qn : List He.DefD} {ex : PySem.W.Frag → Bool} {K : PySem.W.Frag} {mg : Str → Option Value} {P : Program} {w : World} {base : Heap} {k : Nat} {ps : List Str} {sp : Sp}
theorem Tx.glo (T : Tx qa qn ex K mg) (x : Str) (h : He.Fa.glo x ∈ qa) : mg x = some (.ref (He.ga K x)) := by
  obtain ⟨hp, X, G⟩ := T.ns
  obtain ⟨i, hi⟩ := List.mem_iff_getElem?.mp h
  exact He.glo_ok X G (T.c.1.fact i hi)
theorem Tx.free (T : Tx qa qn ex K mg) (x : Str) (h : He.Fa.free x ∈ qa) : mg x = none := by
  obtain ⟨hp, X, G⟩ := T.ns
  obtain ⟨i, hi⟩ := List.mem_iff_getElem?.mp h
  exact He.free_ok X G (T.c.1.fact i hi)
theorem Tx.int (T : Tx qa qn ex K mg) (x : Str) (i : Int) (h : He.Fa.int x i ∈ qa) : ∃ t, mg x = some (.int i t) := by
  obtain ⟨hp, X, G⟩ := T.ns
  obtain ⟨j, hj⟩ := List.mem_iff_getElem?.mp h
  exact He.int_ok X G (T.c.1.fact j hj)
theorem Tx.fact (T : Tx qa qn ex K mg) (f : He.Fa) (h : f ∈ qa) : f.ok K = true := by
  obtain ⟨i, hi⟩ := List.mem_iff_getElem?.mp h
  exact T.c.1.fact i hi
theorem Tx.def_ (T : Tx qa qn ex K mg) (d : He.DefD) (h : d ∈ qn) : ∃ fd, FunD K d.name d.qual d.params d.body d.scope (d.dvs K) (d.kws K) (He.fAd K d.at_) fd := by
  obtain ⟨i, hi⟩ := List.mem_iff_getElem?.mp h
  exact T.c.1.def_ i hi
/-- a def of the module -/
theorem Tx.fn (T : Tx qa qn ex K mg) (d : He.DefD) (h : d ∈ qn) (x : Str) (hx : d.at_ = (x, none)) (hg : He.Fa.glo x ∈ qa) (hz : d.dfl = [])
    (hb : ∀ (kV doc pm : Value) (an : Option Addr) (cdv ct : Value) (us : List Value), us.length = ps.length → bindArgs (PySem.W.fnOf d.name d.qual d.params d.body d.scope .none kV doc pm an cdv ct) ⟨us, []⟩ = pure (ps.zip us))
    (ok : ∀ f fd, FunD K d.name d.qual d.params d.body d.scope [] (d.kws K) f fd → FnOk P w K mg base CX0 k f fd ps sp) : FnG P w K mg base k x ps sp := by
  obtain ⟨fd, F⟩ := T.def_ d h
  have e0 : d.dvs K = [] := by unfold He.DefD.dvs; rw [hz]; rfl
  rw [e0] at F
  refine ⟨_, fd, ok _ _ F, ?_, F.kp, F.bindsN hb⟩
  have e : He.fAd K d.at_ = He.ga K x := by rw [hx]; rfl
  rw [e]
  exact T.glo x hg
/-- a method that all classes of these names have -/
theorem Tx.mt (T : Tx qa qn ex K mg) (cs : List Str) (m : Str) (d : Str → He.DefD) (h : ∀ x ∈ cs, d x ∈ qn ∧ (d x).at_ = (x, some m) ∧ (d x).dfl = [] ∧ He.Fa.cls x ∈ qa ∧ He.Fa.meth x m ∈ qa)
    (hb : ∀ x ∈ cs, ∀ (kV doc pm : Value) (an : Option Addr) (cdv ct : Value) (us : List Value), us.length = ps.length → bindArgs (PySem.W.fnOf (d x).name (d x).qual (d x).params (d x).body (d x).scope .none kV doc pm an cdv ct) ⟨us, []⟩ = pure (ps.zip us))
    (ok : ∀ x ∈ cs, ∀ f fd, FunD K (d x).name (d x).qual (d x).params (d x).body (d x).scope [] ((d x).kws K) f fd → FnOk P w K mg base CX0 k f fd ps sp) : MtG P w K mg base k (NamesC K cs) m ps sp := by
  refine ⟨?_⟩
  rintro C ⟨x, hx, rfl⟩
  obtain ⟨h1, h2, h3, h4, h5⟩ := h x hx
  obtain ⟨fd, F⟩ := T.def_ (d x) h1
  have e0 : (d x).dvs K = [] := by unfold He.DefD.dvs; rw [h3]; rfl
  rw [e0] at F
  have e : He.fAd K (d x).at_ = He.ma K (He.ga K x) m := by rw [h2]; rfl
  rw [e] at F
  exact ⟨_, fd, ok x hx _ _ F, He.cls_ok (T.fact _ h4), He.meth_ok (T.fact _ h5), F.bindsN (hb x hx)⟩
end
end RL

set_option Elab.async false
set_option linter.all false
set_option maxRecDepth 100000
set_option maxHeartbeats 0
namespace K10
open PySem PySem.Spec PyProof.Rows L2 RL
def top (i : Nat) : Stmt := PySem.Challenge.pw_timesalone_k10_sayings_written.main.body.getD i (.Pass ⟨0, 0, 0, 0⟩)
abbrev s_term_text : Stmt := top 1
abbrev s_comparison_text : Stmt := top 2
abbrev s_count_text : Stmt := top 3
abbrev s_inner_text : Stmt := top 4
abbrev s_saying_text : Stmt := top 5
abbrev s__law_bag : Stmt := top 7
abbrev s__law_take : Stmt := top 8
abbrev s__law_of : Stmt := top 9
abbrev s__law_some_row : Stmt := top 10
abbrev s__law_compares : Stmt := top 11
abbrev s__law_zero_fails : Stmt := top 12
abbrev s__law_some_count : Stmt := top 13
abbrev s__law_some_term : Stmt := top 14
abbrev s__law_some_atom : Stmt := top 15
abbrev s__law_constants : Stmt := top 16
abbrev s__law_full : Stmt := top 17
abbrev s__law_names : Stmt := top 18
abbrev s__law_some_uses : Stmt := top 19
abbrev s__law_saying : Stmt := top 20
abbrev s__law_alike : Stmt := top 21
abbrev s__law_term_text : Stmt := top 22
abbrev s__law_row_text : Stmt := top 23
abbrev s__law_shut : Stmt := top 24
abbrev s__law_saying_text : Stmt := top 25
abbrev s_law : Stmt := top 26
def d_term_text : He.DefD := ⟨("term_text", none), "term_text", "term_text", defArgs s_term_text, defBody s_term_text, defScope s_term_text, [], []⟩
def d_comparison_text : He.DefD := ⟨("comparison_text", none), "comparison_text", "comparison_text", defArgs s_comparison_text, defBody s_comparison_text, defScope s_comparison_text, [], []⟩
def d_count_text : He.DefD := ⟨("count_text", none), "count_text", "count_text", defArgs s_count_text, defBody s_count_text, defScope s_count_text, [], []⟩
def d_inner_text : He.DefD := ⟨("inner_text", none), "inner_text", "inner_text", defArgs s_inner_text, defBody s_inner_text, defScope s_inner_text, [], []⟩
def d_saying_text : He.DefD := ⟨("saying_text", none), "saying_text", "saying_text", defArgs s_saying_text, defBody s_saying_text, defScope s_saying_text, [], []⟩
def d__law_bag : He.DefD := ⟨("_law_bag", none), "_law_bag", "_law_bag", defArgs s__law_bag, defBody s__law_bag, defScope s__law_bag, [], []⟩
def d__law_take : He.DefD := ⟨("_law_take", none), "_law_take", "_law_take", defArgs s__law_take, defBody s__law_take, defScope s__law_take, [], []⟩
def d__law_of : He.DefD := ⟨("_law_of", none), "_law_of", "_law_of", defArgs s__law_of, defBody s__law_of, defScope s__law_of, [], []⟩
def d__law_some_row : He.DefD := ⟨("_law_some_row", none), "_law_some_row", "_law_some_row", defArgs s__law_some_row, defBody s__law_some_row, defScope s__law_some_row, [], []⟩
def d__law_compares : He.DefD := ⟨("_law_compares", none), "_law_compares", "_law_compares", defArgs s__law_compares, defBody s__law_compares, defScope s__law_compares, [], []⟩
def d__law_zero_fails : He.DefD := ⟨("_law_zero_fails", none), "_law_zero_fails", "_law_zero_fails", defArgs s__law_zero_fails, defBody s__law_zero_fails, defScope s__law_zero_fails, [], []⟩
def d__law_some_count : He.DefD := ⟨("_law_some_count", none), "_law_some_count", "_law_some_count", defArgs s__law_some_count, defBody s__law_some_count, defScope s__law_some_count, [], []⟩
def d__law_some_term : He.DefD := ⟨("_law_some_term", none), "_law_some_term", "_law_some_term", defArgs s__law_some_term, defBody s__law_some_term, defScope s__law_some_term, [], []⟩
def d__law_some_atom : He.DefD := ⟨("_law_some_atom", none), "_law_some_atom", "_law_some_atom", defArgs s__law_some_atom, defBody s__law_some_atom, defScope s__law_some_atom, [], []⟩
def d__law_constants : He.DefD := ⟨("_law_constants", none), "_law_constants", "_law_constants", defArgs s__law_constants, defBody s__law_constants, defScope s__law_constants, [], []⟩
def d__law_full : He.DefD := ⟨("_law_full", none), "_law_full", "_law_full", defArgs s__law_full, defBody s__law_full, defScope s__law_full, [], []⟩
def d__law_names : He.DefD := ⟨("_law_names", none), "_law_names", "_law_names", defArgs s__law_names, defBody s__law_names, defScope s__law_names, [], []⟩
def d__law_some_uses : He.DefD := ⟨("_law_some_uses", none), "_law_some_uses", "_law_some_uses", defArgs s__law_some_uses, defBody s__law_some_uses, defScope s__law_some_uses, [], []⟩
def d__law_saying : He.DefD := ⟨("_law_saying", none), "_law_saying", "_law_saying", defArgs s__law_saying, defBody s__law_saying, defScope s__law_saying, [], []⟩
def d__law_alike : He.DefD := ⟨("_law_alike", none), "_law_alike", "_law_alike", defArgs s__law_alike, defBody s__law_alike, defScope s__law_alike, [], []⟩
def d__law_term_text : He.DefD := ⟨("_law_term_text", none), "_law_term_text", "_law_term_text", defArgs s__law_term_text, defBody s__law_term_text, defScope s__law_term_text, [], []⟩
def d__law_row_text : He.DefD := ⟨("_law_row_text", none), "_law_row_text", "_law_row_text", defArgs s__law_row_text, defBody s__law_row_text, defScope s__law_row_text, [], []⟩
def d__law_shut : He.DefD := ⟨("_law_shut", none), "_law_shut", "_law_shut", defArgs s__law_shut, defBody s__law_shut, defScope s__law_shut, [], []⟩
def d__law_saying_text : He.DefD := ⟨("_law_saying_text", none), "_law_saying_text", "_law_saying_text", defArgs s__law_saying_text, defBody s__law_saying_text, defScope s__law_saying_text, [], []⟩
def d_law : He.DefD := ⟨("law", none), "law", "law", defArgs s_law, defBody s_law, defScope s_law, [], []⟩
def fn : List He.DefD := ([d_term_text, d_comparison_text, d_count_text, d_inner_text, d_saying_text, d__law_bag, d__law_take, d__law_of, d__law_some_row, d__law_compares, d__law_zero_fails, d__law_some_count, d__law_some_term, d__law_some_atom, d__law_constants, d__law_full, d__law_names, d__law_some_uses, d__law_saying, d__law_alike, d__law_term_text, d__law_row_text, d__law_shut, d__law_saying_text, d_law] : List He.DefD)
def fa : List He.Fa := ([.glo "term_text", .glo "comparison_text", .glo "count_text", .glo "inner_text", .glo "saying_text", .glo "_law_bag", .glo "_law_take", .glo "_law_of", .glo "_law_some_row", .glo "_law_compares", .glo "_law_zero_fails", .glo "_law_some_count", .glo "_law_some_term", .glo "_law_some_atom", .glo "_law_constants", .glo "_law_full", .glo "_law_names", .glo "_law_some_uses", .glo "_law_saying", .glo "_law_alike", .glo "_law_term_text", .glo "_law_row_text", .glo "_law_shut", .glo "_law_saying_text", .glo "law", .free "abs", .free "all", .free "bool", .free "int", .free "isinstance"] : List He.Fa) ++ ([.free "len", .free "list", .free "range", .free "sorted", .free "str", .free "tuple", .free "zip"] : List He.Fa)
theorem i_term_text : d_term_text ∈ fn := List.mem_of_getElem? (i := 0) rfl
theorem i_comparison_text : d_comparison_text ∈ fn := List.mem_of_getElem? (i := 1) rfl
theorem i_count_text : d_count_text ∈ fn := List.mem_of_getElem? (i := 2) rfl
theorem i_inner_text : d_inner_text ∈ fn := List.mem_of_getElem? (i := 3) rfl
theorem i_saying_text : d_saying_text ∈ fn := List.mem_of_getElem? (i := 4) rfl
theorem i__law_bag : d__law_bag ∈ fn := List.mem_of_getElem? (i := 5) rfl
theorem i__law_take : d__law_take ∈ fn := List.mem_of_getElem? (i := 6) rfl
theorem i__law_of : d__law_of ∈ fn := List.mem_of_getElem? (i := 7) rfl
theorem i__law_some_row : d__law_some_row ∈ fn := List.mem_of_getElem? (i := 8) rfl
theorem i__law_compares : d__law_compares ∈ fn := List.mem_of_getElem? (i := 9) rfl
theorem i__law_zero_fails : d__law_zero_fails ∈ fn := List.mem_of_getElem? (i := 10) rfl
theorem i__law_some_count : d__law_some_count ∈ fn := List.mem_of_getElem? (i := 11) rfl
theorem i__law_some_term : d__law_some_term ∈ fn := List.mem_of_getElem? (i := 12) rfl
theorem i__law_some_atom : d__law_some_atom ∈ fn := List.mem_of_getElem? (i := 13) rfl
theorem i__law_constants : d__law_constants ∈ fn := List.mem_of_getElem? (i := 14) rfl
theorem i__law_full : d__law_full ∈ fn := List.mem_of_getElem? (i := 15) rfl
theorem i__law_names : d__law_names ∈ fn := List.mem_of_getElem? (i := 16) rfl
theorem i__law_some_uses : d__law_some_uses ∈ fn := List.mem_of_getElem? (i := 17) rfl
theorem i__law_saying : d__law_saying ∈ fn := List.mem_of_getElem? (i := 18) rfl
theorem i__law_alike : d__law_alike ∈ fn := List.mem_of_getElem? (i := 19) rfl
theorem i__law_term_text : d__law_term_text ∈ fn := List.mem_of_getElem? (i := 20) rfl
theorem i__law_row_text : d__law_row_text ∈ fn := List.mem_of_getElem? (i := 21) rfl
theorem i__law_shut : d__law_shut ∈ fn := List.mem_of_getElem? (i := 22) rfl
theorem i__law_saying_text : d__law_saying_text ∈ fn := List.mem_of_getElem? (i := 23) rfl
theorem i_law : d_law ∈ fn := List.mem_of_getElem? (i := 24) rfl
theorem q_glo_term_text : (He.Fa.glo "term_text") ∈ fa := List.mem_of_getElem? (i := 0) rfl
theorem q_glo_comparison_text : (He.Fa.glo "comparison_text") ∈ fa := List.mem_of_getElem? (i := 1) rfl
theorem q_glo_count_text : (He.Fa.glo "count_text") ∈ fa := List.mem_of_getElem? (i := 2) rfl
theorem q_glo_inner_text : (He.Fa.glo "inner_text") ∈ fa := List.mem_of_getElem? (i := 3) rfl
theorem q_glo_saying_text : (He.Fa.glo "saying_text") ∈ fa := List.mem_of_getElem? (i := 4) rfl
theorem q_glo__law_bag : (He.Fa.glo "_law_bag") ∈ fa := List.mem_of_getElem? (i := 5) rfl
theorem q_glo__law_take : (He.Fa.glo "_law_take") ∈ fa := List.mem_of_getElem? (i := 6) rfl
theorem q_glo__law_of : (He.Fa.glo "_law_of") ∈ fa := List.mem_of_getElem? (i := 7) rfl
theorem q_glo__law_some_row : (He.Fa.glo "_law_some_row") ∈ fa := List.mem_of_getElem? (i := 8) rfl
theorem q_glo__law_compares : (He.Fa.glo "_law_compares") ∈ fa := List.mem_of_getElem? (i := 9) rfl
theorem q_glo__law_zero_fails : (He.Fa.glo "_law_zero_fails") ∈ fa := List.mem_of_getElem? (i := 10) rfl
theorem q_glo__law_some_count : (He.Fa.glo "_law_some_count") ∈ fa := List.mem_of_getElem? (i := 11) rfl
theorem q_glo__law_some_term : (He.Fa.glo "_law_some_term") ∈ fa := List.mem_of_getElem? (i := 12) rfl
theorem q_glo__law_some_atom : (He.Fa.glo "_law_some_atom") ∈ fa := List.mem_of_getElem? (i := 13) rfl
theorem q_glo__law_constants : (He.Fa.glo "_law_constants") ∈ fa := List.mem_of_getElem? (i := 14) rfl
theorem q_glo__law_full : (He.Fa.glo "_law_full") ∈ fa := List.mem_of_getElem? (i := 15) rfl
theorem q_glo__law_names : (He.Fa.glo "_law_names") ∈ fa := List.mem_of_getElem? (i := 16) rfl
theorem q_glo__law_some_uses : (He.Fa.glo "_law_some_uses") ∈ fa := List.mem_of_getElem? (i := 17) rfl
theorem q_glo__law_saying : (He.Fa.glo "_law_saying") ∈ fa := List.mem_of_getElem? (i := 18) rfl
theorem q_glo__law_alike : (He.Fa.glo "_law_alike") ∈ fa := List.mem_of_getElem? (i := 19) rfl
theorem q_glo__law_term_text : (He.Fa.glo "_law_term_text") ∈ fa := List.mem_of_getElem? (i := 20) rfl
theorem q_glo__law_row_text : (He.Fa.glo "_law_row_text") ∈ fa := List.mem_of_getElem? (i := 21) rfl
theorem q_glo__law_shut : (He.Fa.glo "_law_shut") ∈ fa := List.mem_of_getElem? (i := 22) rfl
theorem q_glo__law_saying_text : (He.Fa.glo "_law_saying_text") ∈ fa := List.mem_of_getElem? (i := 23) rfl
theorem q_glo_law : (He.Fa.glo "law") ∈ fa := List.mem_of_getElem? (i := 24) rfl
theorem q_free_abs : (He.Fa.free "abs") ∈ fa := List.mem_of_getElem? (i := 25) rfl
theorem q_free_all : (He.Fa.free "all") ∈ fa := List.mem_of_getElem? (i := 26) rfl
theorem q_free_bool : (He.Fa.free "bool") ∈ fa := List.mem_of_getElem? (i := 27) rfl
theorem q_free_int : (He.Fa.free "int") ∈ fa := List.mem_of_getElem? (i := 28) rfl
theorem q_free_isinstance : (He.Fa.free "isinstance") ∈ fa := List.mem_of_getElem? (i := 29) rfl
theorem q_free_len : (He.Fa.free "len") ∈ fa := List.mem_of_getElem? (i := 30) rfl
theorem q_free_list : (He.Fa.free "list") ∈ fa := List.mem_of_getElem? (i := 31) rfl
theorem q_free_range : (He.Fa.free "range") ∈ fa := List.mem_of_getElem? (i := 32) rfl
theorem q_free_sorted : (He.Fa.free "sorted") ∈ fa := List.mem_of_getElem? (i := 33) rfl
theorem q_free_str : (He.Fa.free "str") ∈ fa := List.mem_of_getElem? (i := 34) rfl
theorem q_free_tuple : (He.Fa.free "tuple") ∈ fa := List.mem_of_getElem? (i := 35) rfl
theorem q_free_zip : (He.Fa.free "zip") ∈ fa := List.mem_of_getElem? (i := 36) rfl
def ex (K : PySem.W.Frag) : Bool := true
abbrev R : PySem.W.OpenRow := PySem.W.OpenLaw.row PySem.Challenge.rw_timesalone_k10_sayings_written
abbrev hk : PySem.W.Hook := hookX 4 fa fn ex
def ob (s : PySem.W.SharedT) : AlX := obsX 4 fa fn ex (HandSHeadRun.getT s)
theorem ob_eq (s : PySem.W.SharedT) : ob s = hk.obs s.abs := obsX_eq (HandSHeadRun.getT_eq s)
def loose : List PySem.Str := (["__name__", "term_text", "comparison_text", "count_text", "inner_text", "saying_text", "_law_bag", "_law_take", "_law_of", "_law_some_row", "_law_compares", "_law_zero_fails", "_law_some_count", "_law_some_term", "_law_some_atom", "_law_constants", "_law_full", "_law_names", "_law_some_uses", "_law_saying", "_law_alike", "_law_term_text", "_law_row_text", "_law_shut", "_law_saying_text"] : List PySem.Str)
theorem run (w : World) : HandSHeadRun.RunEq R (PySem.W.view R.prog [26]) hk ob 20000 loose w := by
  intro os
  kernel_rfl
end K10

set_option Elab.async false
set_option linter.all false
set_option maxRecDepth 100000
set_option maxHeartbeats 4000000
/-! RL7: further rules: truth, choices, while, the usual operators, isinstance -/
namespace RL
open PySem PySem.Spec PyProof.Rows L2
section
variable {X : Cx} {Γ : Ctx} {e o a b c d : Expr} {es : List Expr} {T U : Ty} {Ts Us : List Ty} {pos p p2 apos : Pos} {x m : Str}
/-! ints -/
section
variable {i j : Int}
theorem g_add (ha : G X Γ a (intT i)) (hb : G X Γ b (intT j)) : G X Γ (.BinOp a .Add b pos) (intT (i + j)) := g_op op_add ha hb (r_I0 (g := fun i j => V.int (i + j)))
theorem g_sub (ha : G X Γ a (intT i)) (hb : G X Γ b (intT j)) : G X Γ (.BinOp a .Sub b pos) (intT (i - j)) := g_op op_sub ha hb (r_I0 (g := fun i j => V.int (i - j)))
theorem g_mul {n k : Nat} (ha : G X Γ a (intT i)) (hb : G X Γ b (intT j)) (hi : i.natAbs < 2 ^ n) (hj : j.natAbs < 2 ^ k) (hn : 0 < n := by decide) (hk : 0 < k := by decide) (h : n + k ≤ 1000000 := by decide) : G X Γ (.BinOp a .Mult b pos) (intT (i * j)) := g_op op_mulW ha hb (r_I (g := fun i j => V.int (i * j)) (wide_mul hi hj hn hk h))
theorem g_mod (ha : G X Γ a (intT i)) (hb : G X Γ b (intT j)) (hj : 0 < j) : G X Γ (.BinOp a .Mod b pos) (intT (i % j)) := g_op op_mod ha hb (r_I (g := fun i j => V.int (i % j)) (C := fun _ j => 0 < j) hj)
theorem g_fdiv {k : Nat} (ha : G X Γ a (intT i)) (hb : G X Γ b (intT j)) (hj : 0 < j) (hk : j.natAbs < 2 ^ k) (h0 : 0 < k := by decide) (h9 : k ≤ 9000 := by decide) : G X Γ (.BinOp a .FloorDiv b pos) (intT (i / j)) := g_op op_fdivW ha hb (r_I (g := fun i j => V.int (i / j)) (wide_div hj hk h0 h9))
theorem gt_lt (ha : G X Γ a (intT i)) (hb : G X Γ b (intT j)) : GT X Γ (.Compare a [.Lt] [b] pos) (decide (i < j)) := gt_cmp op_lt ha hb (r_I0 (g := fun i j => V.bl (decide (i < j)))) (nomark _)
theorem gt_le (ha : G X Γ a (intT i)) (hb : G X Γ b (intT j)) : GT X Γ (.Compare a [.LtE] [b] pos) (decide (i ≤ j)) := gt_cmp op_le ha hb (r_I0 (g := fun i j => V.bl (decide (i ≤ j)))) (nomark _)
theorem gt_gt (ha : G X Γ a (intT i)) (hb : G X Γ b (intT j)) : GT X Γ (.Compare a [.Gt] [b] pos) (decide (j < i)) := gt_cmp op_gt ha hb (r_I0 (g := fun i j => V.bl (decide (j < i)))) (nomark _)
theorem gt_ge (ha : G X Γ a (intT i)) (hb : G X Γ b (intT j)) : GT X Γ (.Compare a [.GtE] [b] pos) (decide (j ≤ i)) := gt_cmp op_ge ha hb (r_I0 (g := fun i j => V.bl (decide (j ≤ i)))) (nomark _)
theorem g_lt (ha : G X Γ a (intT i)) (hb : G X Γ b (intT j)) : G X Γ (.Compare a [.Lt] [b] pos) (blT (decide (i < j))) := g_cmp op_lt ha hb (r_I0 (g := fun i j => V.bl (decide (i < j)))) (nomark _)
theorem g_le (ha : G X Γ a (intT i)) (hb : G X Γ b (intT j)) : G X Γ (.Compare a [.LtE] [b] pos) (blT (decide (i ≤ j))) := g_cmp op_le ha hb (r_I0 (g := fun i j => V.bl (decide (i ≤ j)))) (nomark _)
theorem g_gt (ha : G X Γ a (intT i)) (hb : G X Γ b (intT j)) : G X Γ (.Compare a [.Gt] [b] pos) (blT (decide (j < i))) := g_cmp op_gt ha hb (r_I0 (g := fun i j => V.bl (decide (j < i)))) (nomark _)
theorem g_ge (ha : G X Γ a (intT i)) (hb : G X Γ b (intT j)) : G X Γ (.Compare a [.GtE] [b] pos) (blT (decide (j ≤ i))) := g_cmp op_ge ha hb (r_I0 (g := fun i j => V.bl (decide (j ≤ i)))) (nomark _)
theorem gt_eqI (ha : G X Γ a (intT i)) (hb : G X Γ b (intT j)) : GT X Γ (.Compare a [.Eq] [b] pos) (decide (i = j)) := (gt_cmp op_eq ha hb (r_Eq rfl) (nomark _)).is (by simp)
end
/-! truth -/
theorem g_not {k : Bool} (h : G X Γ e (blT k)) : G X Γ (.UnaryOp .Not e pos) (blT (!k)) := fun σ H t Q q => toE (pe_not (pe e)) (h σ H t _ fun v H1 e1 h1 => ⟨k, h1, q _ H1 e1 rfl⟩)
theorem gt_and2 {k l : Bool} (ha : GT X Γ a k) (hb : k = true → GT X Γ b l) : GT X Γ (.BoolOp .And [a, b] pos) (k && l) := fun σ H t Q q => toT (PW.pt (pw_and (pt a) (pw_and1 (pt b)))) (ha σ H t _ fun H1 e1 => by
  cases k with
  | true => exact iteT (hb rfl σ H1 (t.up e1) _ fun H2 e2 => q H2 (e1.trans e2))
  | false => exact iteF (q H1 e1))
theorem gt_or2 {k l : Bool} (ha : GT X Γ a k) (hb : k = false → GT X Γ b l) : GT X Γ (.BoolOp .Or [a, b] pos) (k || l) := fun σ H t Q q => toT (PW.pt (pw_or (pt a) (pw_or1 (pt b)))) (ha σ H t _ fun H1 e1 => by
  cases k with
  | true => exact iteT (q H1 e1)
  | false => exact iteF (hb rfl σ H1 (t.up e1) _ fun H2 e2 => q H2 (e1.trans e2)))
theorem gt_or3 {k l n : Bool} (ha : GT X Γ a k) (hb : k = false → GT X Γ b l) (hc : k = false → l = false → GT X Γ c n) : GT X Γ (.BoolOp .Or [a, b, c] pos) (k || l || n) := fun σ H t Q q => toT (PW.pt (pw_or (pt a) (pw_or (pt b) (pw_or1 (pt c))))) (ha σ H t _ fun H1 e1 => by
  cases k with
  | true => exact iteT (q H1 e1)
  | false => exact iteF (hb rfl σ H1 (t.up e1) _ fun H2 e2 => by
    cases l with
    | true => exact iteT (q H2 (e1.trans e2))
    | false => exact iteF (hc rfl rfl σ H2 (t.up (e1.trans e2)) _ fun H3 e3 => q H3 (e1.trans (e2.trans e3)))))
theorem gt_or4 {k l n r : Bool} (ha : GT X Γ a k) (hb : k = false → GT X Γ b l) (hc : k = false → l = false → GT X Γ c n) (hd : k = false → l = false → n = false → GT X Γ d r) : GT X Γ (.BoolOp .Or [a, b, c, d] pos) (k || l || n || r) := fun σ H t Q q => toT (PW.pt (pw_or (pt a) (pw_or (pt b) (pw_or (pt c) (pw_or1 (pt d)))))) (ha σ H t _ fun H1 e1 => by
  cases k with
  | true => exact iteT (q H1 e1)
  | false => exact iteF (hb rfl σ H1 (t.up e1) _ fun H2 e2 => by
    cases l with
    | true => exact iteT (q H2 (e1.trans e2))
    | false => exact iteF (hc rfl rfl σ H2 (t.up (e1.trans e2)) _ fun H3 e3 => by
      cases n with
      | true => exact iteT (q H3 (e1.trans (e2.trans e3)))
      | false => exact iteF (hd rfl rfl rfl σ H3 (t.up (e1.trans (e2.trans e3))) _ fun H4 e4 => q H4 (e1.trans (e2.trans (e3.trans e4)))))))
theorem g_and2 {k l : Bool} (ha : G X Γ a (blT k)) (hb : k = true → G X Γ b (blT l)) : G X Γ (.BoolOp .And [a, b] pos) (blT (k && l)) := fun σ H t Q q => toE (pe_and (pe a) (pe_one (pe b))) (ha σ H t _ fun v H1 e1 h1 => ⟨k, h1, by
  cases k with
  | true => exact iteT (hb rfl σ H1 (t.up e1) _ fun w H2 e2 h2 => q w H2 (e1.trans e2) h2)
  | false => exact iteF (q _ H1 e1 rfl)⟩)
theorem g_and3 {k l n : Bool} (ha : G X Γ a (blT k)) (hb : k = true → G X Γ b (blT l)) (hc : k = true → l = true → G X Γ c (blT n)) : G X Γ (.BoolOp .And [a, b, c] pos) (blT (k && l && n)) := fun σ H t Q q => toE (pe_and (pe a) (pe_and (pe b) (pe_one (pe c)))) (ha σ H t _ fun v H1 e1 h1 => ⟨k, h1, by
  cases k with
  | false => exact iteF (q _ H1 e1 rfl)
  | true => exact iteT (hb rfl σ H1 (t.up e1) _ fun w H2 e2 h2 => ⟨l, h2, by
    cases l with
    | false => exact iteF (q _ H2 (e1.trans e2) rfl)
    | true => exact iteT (hc rfl rfl σ H2 (t.up (e1.trans e2)) _ fun z H3 e3 h3 => q z H3 (e1.trans (e2.trans e3)) h3)⟩)⟩)
theorem g_ite {k : Bool} (hc : GT X Γ c k) (ha : k = true → G X Γ a T) (hb : k = false → G X Γ b T) : G X Γ (.IfExp c a b pos) T := fun σ H t Q q => toE (pe_ifExp (pt c) (pe a) (pe b)) (hc σ H t _ fun H1 e1 => by
  cases k with
  | true => exact iteT (ha rfl σ H1 (t.up e1) _ fun w H2 e2 h2 => q w H2 (e1.trans e2) h2)
  | false => exact iteF (hb rfl σ H1 (t.up e1) _ fun w H2 e2 h2 => q w H2 (e1.trans e2) h2))
/-! isinstance with a built-in class -/
theorem g_isi {v : V} {n n' : String} {r : Bool} (he : G X Γ e T) (ht : ∀ v H, T v H → TyX X.K H v (.type n)) (hm : X.mg "isinstance" = none) (hx : X.mg x = none) (hv : bootBuiltins x = some (.type n')) (hr : kitB n n' = some r) (hg : Gl X "isinstance" := by rfl) (hg' : Gl X x := by rfl)
    (hd : (x == ("__debug__" : Str)) = false := by decide) (hn : x ≠ "__name__" := by decide) (hs : starEach [e, .Name x p2] X.env = (false, eval e X.env) :: starEach [.Name x p2] X.env := by first | exact se_cons rfl | exact se_one rfl | exact se_two rfl rfl | rfl) (hpl : (backTo pos (starEach [.Name x p2] X.env)).any (·.1) = false := by first | exact se_any rfl | rfl) :
    G X Γ (.Call (.Name "isinstance" p) [e, .Name x p2] [] pos) (blT r) := fun σ H t Q q =>
  toE (pe_callB call_isi hg hm (by decide +kernel) (pa_cons (pe e) (pa_cons (pe_bltn (v := .ty n') hg' hx hv rfl hn hd) pa_nil) hs) (he := hs) (hpl := hpl)) (he σ H t _ fun v H1 e1 h1 => ⟨v, .ty n', .type n, .type n', r, rfl, .ty n', ht v H1 h1, kit_ty hr, q _ H1 e1 rfl⟩)

/-! ### while, by data of the turn -/
variable {H0 : Bs} {D : Ends} {st : Stmt} {rest body orelse : List Stmt}
/-- the ends of a turn: the next turn's data -/
def wturnD {β : Type} (D : Ends) (X : Cx) (rest : List Stmt) (H0 : Bs) (F : β → Ctx) (Pz : β → Prop) (μ : β → Nat) (z : β) : Ends := { D with nx := fun σ H => ∃ z', Pz z' ∧ μ z' < μ z ∧ H0.ok H ∧ Typed σ (F z') H, ct := fun σ H => ∃ z', Pz z' ∧ μ z' < μ z ∧ H0.ok H ∧ Typed σ (F z') H, bk := tB X rest D }
theorem b_while {β : Type} (F : β → Ctx) (Pz : β → Prop) (μ : β → Nat) (z0 : β) (h0 : Γ = F z0) (p0 : Pz z0)
    (hs : ∀ z, Pz z → ∃ k, GT X (F z) c k ∧ (k = true → Bd X (F z) body H0 (wturnD D X rest H0 F Pz μ z)) ∧ (k = false → Bd X (F z) rest H0 D))
    (hp : PassesOwn (model X.prog X.w) X.A X.env X.xe := by exact PassesOwn.never) : Bd X Γ (.While c body [] pos :: rest) H0 D :=
  b_cons fun σ H e0 t => toS (ps_while hp (pt c) (pb body)) (by
    refine ⟨fun m σ H => ∃ z, Pz z ∧ m = μ z ∧ H0.ok H ∧ Typed σ (F z) H, ⟨_, z0, p0, rfl, e0, h0 ▸ t⟩, ?_⟩
    rintro m σ H ⟨z, pz, rfl, e1, t1⟩
    obtain ⟨k, hk, h1, h2⟩ := hs z pz
    refine hk σ H t1 _ fun H1 e2 => ?_
    cases k with
    | true =>
      refine iteT ⟨fun σ' H' => ∃ z', Pz z' ∧ μ z' < μ z ∧ H0.ok H' ∧ Typed σ' (F z') H', fun σ' H' ⟨z', a1, a2, a3, a4⟩ => ⟨μ z', a2, z', a1, rfl, a3, a4⟩, ?_⟩
      exact h1 rfl σ H1 (e1.trans e2) (t1.up e2)
    | false => exact iteF (h2 rfl σ H1 (e1.trans e2) (t1.up e2)))
/-- a turn ends -/
theorem wturn {β : Type} {F : β → Ctx} {Pz : β → Prop} {μ : β → Nat} {z : β} (z' : β) (hp : Pz z') (hm : μ z' < μ z) (hF : Γ = F z') : Bd X Γ [] H0 (wturnD D X rest H0 F Pz μ z) := b_nil fun σ H e t => ⟨z', hp, hm, e, hF ▸ t⟩
/-- x += e -/
theorem b_augI {i : Nat} {n k : Int} (hx : Γ[i]? = some (some (intT n))) (he : G X Γ e (intT k)) (h : Bd X (Γ.set i (some (intT (n + k)))) rest H0 D) {p' : Pos} (hN : X.N.Nodup := by first | assumption | decide) (hi : X.N[i]? = some x := by rfl) (hl : Loc X.env.scope x := by first | exact Or.inl rfl | exact Or.inr rfl)
    (hf : X.fn x = true ∨ X.env.scope.names.lookup x = some .local := by first | exact .inl rfl | exact .inr rfl) : Bd X Γ (.AugAssign (.Name x p') .Add e pos :: rest) H0 D :=
  b_cons fun σ H e0 t => toS (ps_aug (i := i) hN hi hl (pe e) ip_add hf) (by
    obtain ⟨v, hv, tv⟩ := t.get i hx
    have tv' : v = .int n := tv
    subst tv'
    exact ⟨_, hv, he σ H t _ fun w H1 e1 hw => ⟨n, k, rfl, hw, h _ _ (e0.trans e1) ((t.up e1).set i rfl)⟩⟩)
end
end RL

set_option Elab.async false
set_option linter.all false
set_option maxRecDepth 100000
set_option maxHeartbeats 4000000
/-! RLeq: == of data, len of a dict, isinstance with an own class -/
namespace RL
open PySem PySem.Spec PyProof.Rows L2
/-- values of this type are this data -/
def IsDp (K : PySem.W.Frag) (T : Ty) (d : PyData) : Prop := ∀ v H, T v H → Dp K H v d
theorem dp_int {K : PySem.W.Frag} {i : Int} : IsDp K (intT i) (.int i) := fun v H h => by
  have h' : v = .int i := h
  subst h'
  exact .int i
theorem dp_str {K : PySem.W.Frag} {x : Str} : IsDp K (strT x) (.str x) := fun v H h => by
  have h' : v = .str x := h
  subst h'
  exact .str x
theorem dp_bl {K : PySem.W.Frag} {b : Bool} : IsDp K (blT b) (.bool b) := fun v H h => by
  have h' : v = .bl b := h
  subst h'
  exact .bl b
theorem dp_non {K : PySem.W.Frag} : IsDp K nonT .none := fun v H h => by
  have h' : v = .non := h
  subst h'
  exact .non
/-- types and data, one by one -/
inductive AreDp (K : PySem.W.Frag) : List Ty → List PyData → Prop
  | nil : AreDp K [] []
  | cons {T : Ty} {d : PyData} {Ts : List Ty} {ds : List PyData} : IsDp K T d → AreDp K Ts ds → AreDp K (T :: Ts) (d :: ds)
theorem AreDp.all {K : PySem.W.Frag} {H : Hp} : ∀ {Ts : List Ty} {ds : List PyData} {vs : List V}, AreDp K Ts ds → All2 Ts vs H → DpAll K H vs ds
  | _, _, [], .nil, _ => .nil
  | _, _, v :: vs, .cons h hs, ⟨h1, h2⟩ => .cons (h v H h1) (hs.all h2)
theorem areDp_map {α : Type} {K : PySem.W.Frag} {f : α → Ty} {g : α → PyData} : ∀ (l : List α), (∀ x ∈ l, IsDp K (f x) (g x)) → AreDp K (l.map f) (l.map g)
  | [], _ => .nil
  | x :: l, h => .cons (h x List.mem_cons_self) (areDp_map l fun y hy => h y (List.mem_cons_of_mem _ hy))
theorem dp_tup {K : PySem.W.Frag} {Ts : List Ty} {ds : List PyData} (h : AreDp K Ts ds) : IsDp K (tupT K Ts) (.tuple ds) := fun v H ⟨a, vs, ev, ht, h2⟩ => by
  subst ev
  exact .tup ht.sq (h.all h2)
theorem dp_lst {K : PySem.W.Frag} {Ts : List Ty} {ds : List PyData} (h : AreDp K Ts ds) : IsDp K (lstT Ts) (.list ds) := fun v H ⟨a, vs, ev, hl, h2⟩ => by
  subst ev
  exact .lst hl.sq (h.all h2)
theorem room64 {k : Nat} {A : Around} (r : Room k A) : A.units + 64 < cLine := by have := r.un; omega
/-- of such a depth, and such that it can be compared -/
def Lay (n : Nat) (d : PyData) : Prop := d.canLay0 = true ∧ d.depth ≤ n
theorem Lay.mono {n m : Nat} {d : PyData} (h : Lay n d) (k : n ≤ m) : Lay m d := ⟨h.1, Nat.le_trans h.2 k⟩
theorem lay_all {n : Nat} : ∀ {ds : List PyData}, (∀ d ∈ ds, Lay n d) → PyData.canLayAll0 ds = true ∧ PyData.depthAll ds ≤ n
  | [], _ => ⟨by simp [PyData.canLayAll0], by simp [PyData.depthAll]⟩
  | d :: ds, h => by
    obtain ⟨h1, h2⟩ := h d List.mem_cons_self
    obtain ⟨h3, h4⟩ := lay_all fun d' h' => h d' (List.mem_cons_of_mem _ h')
    refine ⟨by rw [PyData.canLayAll0, h1, h3]; rfl, by rw [PyData.depthAll]; exact Nat.max_le.mpr ⟨h2, h4⟩⟩
theorem lay_int {i : Int} : Lay 0 (.int i) := ⟨by simp [PyData.canLay0], by simp [PyData.depth]⟩
theorem lay_bool {b : Bool} : Lay 0 (.bool b) := ⟨by simp [PyData.canLay0], by simp [PyData.depth]⟩
theorem lay_none : Lay 0 .none := ⟨by simp [PyData.canLay0], by simp [PyData.depth]⟩
theorem lay_list {n : Nat} {ds : List PyData} (h : ∀ d ∈ ds, Lay n d) : Lay (n + 1) (.list ds) := by
  obtain ⟨h1, h2⟩ := lay_all h
  exact ⟨by rw [PyData.canLay0]; exact h1, by rw [PyData.depth]; omega⟩
theorem lay_tup {n : Nat} {ds : List PyData} (h : ∀ d ∈ ds, Lay n d) : Lay (n + 1) (.tuple ds) := by
  obtain ⟨h1, h2⟩ := lay_all h
  exact ⟨by rw [PyData.canLay0]; exact h1, by rw [PyData.depth]; omega⟩
theorem Lay.shaped {n : Nat} {d : PyData} (h : Lay n d) (k : n ≤ 64) : SeqAt.shaped d = true := by
  unfold SeqAt.shaped
  rw [h.1, Bool.true_and, decide_eq_true_eq]
  exact Nat.le_trans h.2 k
section
variable {X : Cx} {Γ : Ctx} {e o a b c : Expr} {T U : Ty} {pos p p2 : Pos} {x : Str}
theorem g_eqD {d d' : PyData} (hu : X.A.units + 64 < cLine) (ha : G X Γ a T) (hb : G X Γ b U) (h1 : IsDp X.K T d) (h2 : IsDp X.K U d') (s1 : SeqAt.shaped d = true) (s2 : SeqAt.shaped d' = true) : G X Γ (.Compare a [.Eq] [b] pos) (blT (PyData.eqv d d')) :=
  g_cmp (op_eqD hu) ha hb (fun v w H hv hw Q q => ⟨d, d', h1 v H hv, h2 w H hw, s1, s2, q _ H (Ex.refl H) rfl⟩) (nomark _)
theorem gt_neI {i j : Int} (ha : G X Γ a (intT i)) (hb : G X Γ b (intT j)) : GT X Γ (.Compare a [.NotEq] [b] pos) (decide (i ≠ j)) :=
  (gt_cmp op_ne ha hb (k := decide (i ≠ j)) (fun x y H hx hy Q q => by
    have hx' : x = .int i := hx
    have hy' : y = .int j := hy
    subst hx'; subst hy'
    refine ⟨rfl, q _ H (Ex.refl H) ?_⟩
    show V.bl _ = V.bl _
    by_cases h : i = j <;> simp [h]) (nomark _))
/-- len of a frozen dict -/
theorem call_lenF : CallR X (.builtin "len") (fun xs H Q => ∃ a kvs, xs = [V.ref a] ∧ Rd H a (.dK kvs) ∧ Q (.int kvs.length) H) := by
  intro pins s σ H xs us Q I r h
  obtain ⟨a, kvs, rfl, ha, q⟩ := h
  obtain ⟨u, rfl, ru⟩ := vals1 r
  cases ru
  exact d_len I ha fun t s' I' => ⟨.int kvs.length, H, I', ⟨t, rfl⟩, q⟩
theorem g_lenD {kvs : List (Key × V)} (h : G X Γ e (dicT kvs)) (hm : X.mg "len" = none) (hg : Gl X "len" := by rfl) (he : starEach [e] X.env = (false, eval e X.env) :: starEach [] X.env := by first | exact se_cons rfl | exact se_one rfl | exact se_two rfl rfl | rfl) : G X Γ (.Call (.Name "len" p) [e] [] pos) (intT kvs.length) :=
  g_callB call_lenF hm (by decide +kernel) (ga_cons h ga_nil he) (fun vs H h2 Q q => by
    obtain ⟨v, ev, hv⟩ := one2 h2
    subst ev
    obtain ⟨a, rfl, ha⟩ := rd_dict hv
    exact ⟨a, kvs, rfl, ha, q _ H (Ex.refl H) rfl⟩) hg (he := he)
/-- len of a frozen list, a tuple -/
theorem g_lenL {Ts : List Ty} (h : G X Γ e (lstT Ts)) (hm : X.mg "len" = none) (hg : Gl X "len" := by rfl) (he : starEach [e] X.env = (false, eval e X.env) :: starEach [] X.env := by first | exact se_cons rfl | exact se_one rfl | exact se_two rfl rfl | rfl) : G X Γ (.Call (.Name "len" p) [e] [] pos) (intT Ts.length) :=
  g_callB call_len hm (by decide +kernel) (ga_cons h ga_nil he) (fun vs H h2 Q q => by
    obtain ⟨v, ev, a, ws, e2, f, h3⟩ := one2 h2
    subst ev; subst e2
    exact ⟨_, ws.length, rfl, .inl ⟨ws, f.sq, rfl⟩, q _ H (Ex.refl H) (by show V.int _ = V.int _; rw [h3.len])⟩) hg (he := he)
/-- isinstance with a class of the text, where all are instances -/
theorem g_isO {C : Addr} (he : G X Γ e T) (ht : ∀ v H, T v H → ∃ t, TyX X.K H v t ∧ PySem.W.kitOne X.K t (.ref C) = some true) (hm : X.mg "isinstance" = none) (hx : X.mg x = some (.ref C)) (hg : Gl X "isinstance" := by rfl) (hg' : Gl X x := by rfl)
    (hd : (x == ("__debug__" : Str)) = false := by decide) (hs : starEach [e, .Name x p2] X.env = (false, eval e X.env) :: starEach [.Name x p2] X.env := by first | exact se_cons rfl | exact se_one rfl | exact se_two rfl rfl | rfl) (hs2 : starEach [.Name x p2] X.env = (false, eval (.Name x p2) X.env) :: starEach [] X.env := by first | exact se_cons rfl | exact se_one rfl | exact se_two rfl rfl | rfl) (hpl : (backTo pos (starEach [.Name x p2] X.env)).any (·.1) = false := by first | exact se_any rfl | rfl) :
    G X Γ (.Call (.Name "isinstance" p) [e, .Name x p2] [] pos) (blT true) :=
  g_callB call_isi hm (by decide +kernel) (ga_cons he (ga_cons (g_glob (v := .ref C) hx rfl hg' hd) ga_nil hs2) hs) (fun vs H h2 Q q => by
    match vs, h2 with
    | [v, w], ⟨h3, h4, _⟩ =>
      have h4' : w = V.ref C := h4
      subst h4'
      obtain ⟨t, h5, h6⟩ := ht v H h3
      exact ⟨v, .ref C, t, .ref C, true, rfl, .own C, h5, h6, q _ H (Ex.refl H) rfl⟩) hg (by decide) (by decide) hs hpl
end
end RL

set_option Elab.async false
set_option linter.all false
set_option maxRecDepth 100000
set_option maxHeartbeats 4000000
/-! RLmut: local lists and dicts that are changed -/
namespace RL
open PySem PySem.Spec PyProof.Rows L2

/-! ### a tracked thing is told in another way -/
theorem retr {X : Cx} {pins : List (Addr × Obj)} {σ : L2.St} {H : Hp} {s : Shared} {d : Addr} {u u' : HO} (I : Inv X pins σ H s) (h : H d = some u) (mu : Mut (some u)) (new : ObjOk X.prog X.w (upd H d u') s.heap d u') : Inv X pins σ (upd H d u') s := by
  have ex : ∃ od, s.heap.get? d = some od := by
    have x := I.hok d u h
    cases u with
    | lst xs => obtain ⟨_, _, _, _, e⟩ := x; exact ⟨_, e⟩
    | dK kvs => obtain ⟨_, _, _, _, o, _, _, e, _⟩ := x; exact ⟨o, e⟩
    | dT kvs => obtain ⟨_, _, _, _, o, _, _, e, _⟩ := x; exact ⟨o, e⟩
    | set S n => obtain ⟨o, _, _, _, e, _⟩ := x; exact ⟨o, e⟩
    | ins C dx fs => obtain ⟨_, _, _, e, _⟩ := x; exact ⟨_, e⟩
    | ext φ => obtain ⟨_, ⟨_, e⟩, _⟩ := x; exact ⟨_, e⟩
    | _ => exact False.elim mu
  exact I.write (x := d) (e := d) (t' := s.toks) (h' := s.heap) (by rw [h]; exact mu) (.inl rfl) (fun b v _ q => q) ex new
/-- how a thing may be told anew -/
def Retr (d : Addr) (u u' : HO) : Prop := Mut (some u) ∧ ∀ (P : Program) (w : World) (H H' : Hp) (h : Heap), ObjOk P w H h d u → ObjOk P w H' h d u'
theorem tE_retr {X : Cx} {e : Expr} {σ : L2.St} {H : Hp} {Q : VK} (h : tE X e σ H fun v H' => ∃ d u u', H' d = some u ∧ Retr d u u' ∧ Q v (upd H' d u')) : tE X e σ H Q := ⟨fun pins s I =>
  thn (h.run pins s I) fun _ _ ⟨v, H', I', r, d, u, u', hd, mu, q⟩ => ⟨v, _, retr I' hd mu.1 (mu.2 _ _ _ _ _ (I'.hok d u hd)), r, q⟩⟩
theorem tB_retr {X : Cx} {st : List Stmt} {σ : L2.St} {H : Hp} {D : Ends} {d : Addr} {u u' : HO} (hd : H d = some u) (mu : Retr d u u') (h : tB X st D σ (upd H d u')) : tB X st D σ H := ⟨fun pins s I =>
  h.run pins s (retr I hd mu.1 (mu.2 _ _ _ _ _ (I.hok d u hd)))⟩
/-- what is hidden is looked at -/
theorem tB_open {X : Cx} {st : List Stmt} {σ : L2.St} {H : Hp} {D : Ends} {d : Addr} {α : Type} {φ : Heap → Prop} {u : α → HO} (hd : H d = some (.ext φ)) (ho : ∀ (P : Program) (w : World) (h : Heap), φ h → ∃ a, ∀ H', ObjOk P w H' h d (u a)) (h : ∀ a, tB X st D σ (upd H d (u a))) : tB X st D σ H := by
  refine ⟨fun pins s I => ?_⟩
  have x := I.hok d _ hd
  obtain ⟨f, _, _⟩ := (show φ s.heap ∧ _ ∧ _ from x)
  obtain ⟨a, z⟩ := ho X.prog X.w s.heap f
  exact (h a).run pins s (retr I hd trivial (z _))

/-! ### types of what may change -/
def mdT (a : Addr) (kvs : List (Key × V)) : Ty := ⟨fun v H => v = .ref a ∧ H a = some (.dK kvs), fun e ⟨h1, h2⟩ => ⟨h1, e _ _ h2⟩⟩
def mlT (a : Addr) (Ts : List Ty) : Ty := ⟨fun v H => v = .ref a ∧ ∃ vs, H a = some (.lst vs) ∧ All2 Ts vs H, fun e ⟨h1, vs, h2, h3⟩ => ⟨h1, vs, e _ _ h2, h3.up e⟩⟩
/-- a dict that is read; a list that is read -/
def rdT (kvs : List (Key × V)) : Ty := ⟨fun v H => ∃ a, v = .ref a ∧ Rd H a (.dK kvs), fun {v H H'} e ⟨a, h1, h2⟩ => ⟨a, h1, h2.elim (fun z => .inl (e _ _ z)) fun ⟨o, z⟩ => .inr ⟨o, e _ _ z⟩⟩⟩
def rlT (K : PySem.W.Frag) (Ts : List Ty) : Ty := ⟨fun v H => ∃ a vs, v = .ref a ∧ SqL K H a vs ∧ All2 Ts vs H, fun {v H H'} e ⟨a, vs, h1, h2, h3⟩ => ⟨a, vs, h1, h2.elim (fun z => .inl (z.elim (fun z => .inl (e _ _ z)) fun ⟨o, z⟩ => .inr ⟨o, e _ _ z⟩)) .inr, h3.up e⟩⟩
section
variable {X : Cx} {Γ : Ctx} {e o a b c : Expr} {T U : Ty} {Ts : List Ty} {pos p p2 : Pos} {x : Str} {kvs : List (Key × V)} {d : Addr}
theorem G.rd (h : G X Γ e (dicT kvs)) : G X Γ e (rdT kvs) := h.imp fun v H h => rd_dict h
theorem G.rdm (h : G X Γ e (mdT d kvs)) : G X Γ e (rdT kvs) := h.imp fun v H ⟨h1, h2⟩ => ⟨d, h1, .inl h2⟩
theorem G.rl (h : G X Γ e (lstT Ts)) : G X Γ e (rlT X.K Ts) := h.imp fun v H ⟨a, vs, h1, h2, h3⟩ => ⟨a, vs, h1, h2.sq, h3⟩
theorem G.rlm (h : G X Γ e (mlT d Ts)) : G X Γ e (rlT X.K Ts) := h.imp fun v H ⟨h1, vs, h2, h3⟩ => ⟨d, vs, h1, .inl (.inl h2), h3⟩
end

/-! ### what stays while the thing at a is changed -/
class StbA (a : Addr) (T : Ty) : Prop where
  mu : ∀ {v H u o}, H a = some u → Unf u → T v H → T v (upd H a o)
class StbC (a : Addr) (Γ : Ctx) : Prop where
  mu : ∀ {i : Nat} {T : Ty}, Γ[i]? = some (some T) → StbA a T
instance (a : Addr) (T : Ty) [h : Stb T] : StbA a T := ⟨fun hu un k => h.le (Le.mut hu un) k⟩
theorem stbA_md {a b : Addr} {kvs : List (Key × V)} (h : b ≠ a) : StbA a (mdT b kvs) := ⟨fun _ _ ⟨h1, h2⟩ => ⟨h1, by rw [upd_ne h]; exact h2⟩⟩
theorem stbA_ml {a b : Addr} {Ts : List Ty} [k : Stbs Ts] (h : b ≠ a) : StbA a (mlT b Ts) := ⟨fun hu un ⟨h1, vs, h2, h3⟩ => ⟨h1, vs, by rw [upd_ne h]; exact h2, k.le (Le.mut hu un) h3⟩⟩
instance (a : Addr) : StbC a [] := ⟨fun h => by simp at h⟩
instance (a : Addr) (Γ : Ctx) [k : StbC a Γ] : StbC a (none :: Γ) := ⟨fun {i T} h => by
  cases i with
  | zero => simp at h
  | succ i => exact k.mu (i := i) (by simpa using h)⟩
instance (a : Addr) (T : Ty) (Γ : Ctx) [h : StbA a T] [k : StbC a Γ] : StbC a (some T :: Γ) := ⟨fun {i U} q => by
  cases i with
  | zero => simp at q; subst q; exact h
  | succ i => exact k.mu (i := i) (by simpa using q)⟩
theorem stbC_none {a : Addr} {Γ : Ctx} (k : StbC a Γ) : StbC a (none :: Γ) := inferInstance
theorem stbC_some {a : Addr} {T : Ty} {Γ : Ctx} (h : StbA a T) (k : StbC a Γ) : StbC a (some T :: Γ) := inferInstance
theorem stbC_nil {a : Addr} : StbC a [] := inferInstance
theorem Typed.mut {σ : L2.St} {Γ : Ctx} {H : Hp} {a : Addr} {u o : HO} (h : Typed σ Γ H) (k : StbC a Γ) (hu : H a = some u) (un : Unf u) : Typed σ Γ (upd H a o) := ⟨h.1, fun i T g => let ⟨v, e, t⟩ := h.2 i T g; ⟨v, e, (k.mu g).mu hu un t⟩⟩
/-- a slot's word is put in place of another -/
theorem Typed.put {σ : L2.St} {Γ : Ctx} {H : Hp} {T : Ty} {v : V} {i : Nat} (h : Typed σ (Γ.set i none) H) (hi : i < Γ.length) (hv : σ[i]? = some (some v)) (t : T v H) : Typed σ (Γ.set i (some T)) H := by
  refine ⟨by simpa using h.1, fun j U g => ?_⟩
  by_cases c : j = i
  · subst c
    rw [List.getElem?_set_self hi] at g
    cases g
    exact ⟨v, hv, t⟩
  · refine h.2 j U ?_
    rw [List.getElem?_set_ne (Ne.symm c)] at g ⊢
    exact g
theorem Typed.drop {σ : L2.St} {Γ : Ctx} {H : Hp} (i : Nat) (h : Typed σ Γ H) : Typed σ (Γ.set i none) H := by
  refine ⟨by simpa using h.1, fun j U g => ?_⟩
  by_cases c : j = i
  · subst c
    rw [List.getElem?_set_self'] at g
    cases q : Γ[j]? with
    | none => rw [q] at g; cases g
    | some _ => rw [q] at g; cases g
  · rw [List.getElem?_set_ne (Ne.symm c)] at g
    exact h.2 j U g
theorem Bs.ok.mut {B : Bs} {H : Hp} {a : Addr} {u o : HO} (h : B.ok H) (ha : B.e a = none) (hu : H a = some u) (un : Unf u) : B.ok (upd H a o) := ⟨h.1.mut ha, h.2.trans (Le.mut hu un)⟩

/-! ### statements -/
section
variable {X : Cx} {Γ : Ctx} {e o k c : Expr} {T U : Ty} {Ts : List Ty} {pos p p2 p3 p4 : Pos} {x : Str} {kvs : List (Key × V)} {H0 : Bs} {D : Ends} {rest : List Stmt} {i : Nat} {a : Addr}
/-- x = {} -/
theorem b_newD (i : Nat) (h : ∀ a, H0.e a = none → Bd X (Γ.set i (some (mdT a []))) rest H0 D) {p' : Pos} (hN : X.N.Nodup := by first | assumption | decide) (hi : X.N[i]? = some x := by rfl) (hx : Loc X.env.scope x := by first | exact Or.inl rfl | exact Or.inr rfl)
    (hs : swapsWith (.Dict [] [] p2) (some (.Name x p')) pos.line X.env = pure false := by rfl) (hf : X.fn x = true ∨ X.env.scope.names.lookup x = some .local := by first | exact .inl rfl | exact .inr rfl) : Bd X Γ (.Assign [.Name x p'] (.Dict [] [] p2) pos :: rest) H0 D :=
  b_cons fun σ H e0 t => toS (ps_set (i := i) hN hi hx pe_dnewK hs hf) fun q hq => h q (e0.1.free hq) _ _ (e0.trans (Ex.new hq)) ((t.up (Ex.new hq)).set i ⟨rfl, upd_same⟩)
/-- x[k] = e -/
theorem b_dput (i : Nat) {kk : Key} {v : V} (hT : Γ[i]? = some (some (mdT a kvs))) (hk : G X Γ k (valT (kV kk))) (he : G X Γ e (valT v)) (ha : H0.e a = none) (hl : kvs.length < sizeLine) (hS : StbC a (Γ.set i none)) (hu : X.A.units + 1 < cLine)
    (h : Bd X (Γ.set i (some (mdT a (putK kvs kk v)))) rest H0 D) {p' : Pos} (hN : X.N[i]? = some x := by rfl) (hv : Vis X.env.scope x := by first | exact Or.inl rfl | exact Or.inr (Or.inl rfl) | exact Or.inr (Or.inr rfl)) (hd : (x == ("__debug__" : Str)) = false := by decide) (hcd : (x == ("__classdict__" : Str)) = false := by decide)
    (hs : swapsWith e (some (.Subscript (.Name x p2) k p')) pos.line X.env = pure false := by rfl) : Bd X Γ (.Assign [.Subscript (.Name x p2) k p'] e pos :: rest) H0 D :=
  b_cons fun σ H e0 t => toS (ps_dput hu (pe_var (i := i) hN hv hd hcd) (pe k) (pe e) hs) (he σ H t _ fun v1 H1 e1 h1 => by
    obtain ⟨w, hw, ew, hH⟩ := (t.up e1).get i hT
    refine ⟨w, hw, hk σ H1 (t.up e1) _ fun y H2 e2 h2 => ?_⟩
    have h1' : v1 = v := h1
    have h2' : y = kV kk := h2
    subst h1'; subst h2'
    have hH2 := e2 _ _ hH
    refine ⟨a, _, ew, DPut.k hH2 hl, h _ _ ((e0.trans (e1.trans e2)).mut ha hH2 trivial) (Typed.put (((t.up (e1.trans e2)).drop i).mut hS hH2 trivial) ?_ hw ⟨ew, upd_same⟩)⟩
    exact (List.getElem?_eq_some_iff.mp hT).1)
/-- the dict of a slot is frozen -/
theorem b_frzD (i : Nat) (hT : Γ[i]? = some (some (mdT a kvs))) (ha : H0.e a = none) (hS : StbC a (Γ.set i none)) (h : Bd X (Γ.set i (some (dicT kvs))) rest H0 D) : Bd X Γ rest H0 D := fun σ H e0 t => by
  obtain ⟨w, hw, ew, hH⟩ := t.get i hT
  refine tB_frz hH trivial fun od => h _ _ (e0.mut ha hH trivial) (Typed.put ((t.drop i).mut hS hH trivial) ?_ hw ⟨a, od, ew, upd_same⟩)
  exact (List.getElem?_eq_some_iff.mp hT).1
/-- the list of a slot is frozen -/
theorem b_frzL [hT' : Stbs Ts] (i : Nat) (hT : Γ[i]? = some (some (mlT a Ts))) (ha : H0.e a = none) (hS : StbC a (Γ.set i none)) (h : Bd X (Γ.set i (some (lstT Ts))) rest H0 D) : Bd X Γ rest H0 D := fun σ H e0 t => by
  obtain ⟨w, hw, ew, vs, hH, h2⟩ := t.get i hT
  refine tB_frz hH trivial fun od => h _ _ (e0.mut ha hH trivial) (Typed.put ((t.drop i).mut hS hH trivial) ?_ hw ⟨a, vs, ew, ⟨od, upd_same⟩, hT'.le (Le.mut hH trivial) h2⟩)
  exact (List.getElem?_eq_some_iff.mp hT).1
/-- x[k] = e, x a list -/
theorem All2.set {H : Hp} {T : Ty} {v : V} : ∀ {Ts : List Ty} {vs : List V} {j : Nat}, All2 Ts vs H → T v H → All2 (Ts.set j T) (vs.set j v) H
  | [], [], _, h, _ => h
  | _ :: _, _ :: _, 0, ⟨_, b⟩, t => ⟨t, b⟩
  | _ :: _, _ :: _, j + 1, ⟨a, b⟩, t => ⟨a, All2.set (j := j) b t⟩
  | [], _ :: _, _, h, _ => h.elim
  | _ :: _, [], _, h, _ => h.elim
theorem b_setL [hTs : Stbs Ts] [hSt : Stb T] (i : Nat) {n : Int} (j : Nat) (hT : Γ[i]? = some (some (mlT a Ts))) (hk : G X Γ k (intT n)) (he : G X Γ e T) (hj : ixN Ts.length n = some j) (ha : H0.e a = none) (hS : StbC a (Γ.set i none))
    (h : Bd X (Γ.set i (some (mlT a (Ts.set j T)))) rest H0 D) {p' : Pos} (hN : X.N[i]? = some x := by rfl) (hv : Vis X.env.scope x := by first | exact Or.inl rfl | exact Or.inr (Or.inl rfl) | exact Or.inr (Or.inr rfl)) (hd : (x == ("__debug__" : Str)) = false := by decide) (hcd : (x == ("__classdict__" : Str)) = false := by decide)
    (hs : swapsWithSole [.Subscript (.Name x p2) k p'] e pos.line X.env = pure false := by rfl) (hw : swappedStores [.Subscript (.Name x p2) k p'] e X.env = pure none := by rfl)
    (h1 : (assignEach [.Subscript (.Name x p2) k p'] X.env).map (·.2) = [assign (.Subscript (.Name x p2) k p') X.env] := by rfl)
    (has : ∀ v, assign (.Subscript (.Name x p2) k p') X.env v = (do
      let ov ← holding [v] (eval (.Name x p2) X.env)
      let iv ← holding [v, ov] (eval k X.env)
      standAt p'
      holding [v, ov, iv] (setItem ov iv v)
      release [v, ov, iv] []) := by intro _; rfl) : Bd X Γ (.Assign [.Subscript (.Name x p2) k p'] e pos :: rest) H0 D :=
  b_cons fun σ H e0 t => toS (ps_asg (pe e) (pg_sub (pe_var (i := i) hN hv hd hcd) (pe k) set_list has) hs hw h1) (he σ H t _ fun v1 H1 e1 h1 => by
    obtain ⟨w, hw, ew, vs, hH, h3⟩ := (t.up e1).get i hT
    refine ⟨w, hw, hk σ H1 (t.up e1) _ fun y H2 e2 h2 => ?_⟩
    have h2' : y = .int n := h2
    subst h2'
    have hH2 := e2 _ _ hH
    refine ⟨a, vs, n, j, ew, rfl, hH2, by rw [← h3.len]; exact hj, h _ _ ((e0.trans (e1.trans e2)).mut ha hH2 trivial) (Typed.put (((t.up (e1.trans e2)).drop i).mut hS hH2 trivial) ?_ hw ⟨ew, _, upd_same, ?_⟩)⟩
    · exact (List.getElem?_eq_some_iff.mp hT).1
    · exact All2.set (hTs.le (Le.mut hH2 trivial) (h3.up e2)) (hSt.le (Le.mut hH2 trivial) (T.up e2 h1)))
end

/-! ### reading -/
section
variable {X : Cx} {Γ : Ctx} {e o a b c : Expr} {T U : Ty} {Ts : List Ty} {pos p p2 : Pos} {x : Str} {kvs : List (Key × V)}
theorem All2.atI {H : Hp} {Ts : List Ty} {vs : List V} {n : Int} {T : Ty} (h : All2 Ts vs H) (g : L2.atI Ts n = some T) : ∃ v, L2.atI vs n = some v ∧ T v H := by
  unfold L2.atI at g ⊢
  rw [← h.len]
  cases q : ixN Ts.length n with
  | none => rw [q] at g; cases g
  | some j => rw [q] at g; exact h.get g
/-- l[n], l a list that is read -/
theorem g_ixL {n : Int} (ho : G X Γ o (rlT X.K Ts)) (hk : G X Γ e (intT n)) (hT : L2.atI Ts n = some T := by rfl) (hs : PlainIx e := by exact fun _ _ => rfl) : G X Γ (.Subscript o e pos) T := fun σ H t Q q =>
  toE (pe_ix ix_list (pe o) (pe e) hs) (ho σ H t _ fun v H1 e1 h1 => hk σ H1 (t.up e1) _ fun w H2 e2 h2 => by
    obtain ⟨l, vs, ev, hl, ha⟩ := (rlT X.K Ts).up e2 h1
    have h2' : w = .int n := h2
    subst h2'
    obtain ⟨y, hy, ty⟩ := ha.atI hT
    exact ⟨l, vs, n, y, ev, rfl, hl, hy, q y H2 (e1.trans e2) ty⟩)
theorem g_ixT {n : Int} (ho : G X Γ o (tupT X.K Ts)) (hk : G X Γ e (intT n)) (hT : L2.atI Ts n = some T := by rfl) (hs : PlainIx e := by exact fun _ _ => rfl) : G X Γ (.Subscript o e pos) T := fun σ H t Q q =>
  toE (pe_ix ix_tup (pe o) (pe e) hs) (ho σ H t _ fun v H1 e1 h1 => hk σ H1 (t.up e1) _ fun w H2 e2 h2 => by
    obtain ⟨l, vs, ev, hl, ha⟩ := (tupT X.K Ts).up e2 h1
    have h2' : w = .int n := h2
    subst h2'
    obtain ⟨y, hy, ty⟩ := ha.atI hT
    exact ⟨l, vs, n, y, ev, rfl, hl.sq, hy, q y H2 (e1.trans e2) ty⟩)
/-- len -/
theorem g_lenR (h : G X Γ e (rdT kvs)) (hm : X.mg "len" = none) (hg : Gl X "len" := by rfl) (he : starEach [e] X.env = (false, eval e X.env) :: starEach [] X.env := by first | exact se_cons rfl | exact se_one rfl | exact se_two rfl rfl | rfl) : G X Γ (.Call (.Name "len" p) [e] [] pos) (intT kvs.length) :=
  g_callB call_lenF hm (by decide +kernel) (ga_cons h ga_nil he) (fun vs H h2 Q q => by
    obtain ⟨v, ev, a, hv, ha⟩ := one2 h2
    subst ev; subst hv
    exact ⟨a, kvs, rfl, ha, q _ H (Ex.refl H) rfl⟩) hg (he := he)
theorem g_lenRL (h : G X Γ e (rlT X.K Ts)) (hm : X.mg "len" = none) (hg : Gl X "len" := by rfl) (he : starEach [e] X.env = (false, eval e X.env) :: starEach [] X.env := by first | exact se_cons rfl | exact se_one rfl | exact se_two rfl rfl | rfl) : G X Γ (.Call (.Name "len" p) [e] [] pos) (intT Ts.length) :=
  g_callB call_len hm (by decide +kernel) (ga_cons h ga_nil he) (fun vs H h2 Q q => by
    obtain ⟨v, ev, a, ws, e2, f, h3⟩ := one2 h2
    subst ev; subst e2
    exact ⟨_, ws.length, rfl, .inl ⟨ws, f, rfl⟩, q _ H (Ex.refl H) (by show V.int _ = V.int _; rw [h3.len])⟩) hg (he := he)
theorem g_lenT (h : G X Γ e (tupT X.K Ts)) (hm : X.mg "len" = none) (hg : Gl X "len" := by rfl) (he : starEach [e] X.env = (false, eval e X.env) :: starEach [] X.env := by first | exact se_cons rfl | exact se_one rfl | exact se_two rfl rfl | rfl) : G X Γ (.Call (.Name "len" p) [e] [] pos) (intT Ts.length) :=
  g_callB call_len hm (by decide +kernel) (ga_cons h ga_nil he) (fun vs H h2 Q q => by
    obtain ⟨v, ev, a, ws, e2, f, h3⟩ := one2 h2
    subst ev; subst e2
    exact ⟨_, ws.length, rfl, .inr ⟨ws, f.sq, rfl⟩, q _ H (Ex.refl H) (by show V.int _ = V.int _; rw [h3.len])⟩) hg (he := he)
end
end RL

set_option Elab.async false
set_option linter.all false
set_option maxRecDepth 100000
set_option maxHeartbeats 4000000
/-! RLenum: enumerate of a tuple, of a frozen list -/
namespace RL
open PySem PySem.Spec PyProof.Rows L2
theorem enumNew1 {v : Value} {o : Obj} {Hb : Heap → Prop} (B : Begins v o Hb) :
    Meets (Builtin.«enumerate.__new__» ⟨[.type "enumerate", v], []⟩) (fun _ R s => Hb s.heap ∧
      R (.ok (.ret (.ref (s.heap.push o).objs.size))) { s with heap := (s.heap.push o).push { cls := .type "enumerate", data := .fields #[.none, .bool false, .ref s.heap.objs.size, rawInt 0, .none, .none] } }) :=
  .of_wp fun prog w A R s h => by
    obtain ⟨hp, g, d, tk, os⟩ := s
    obtain ⟨h1, h⟩ := h
    have hsub := sub_enumerate
    have bi : ∀ {A' : Around} {E Q : Value → Shared → Prop}, Q (.ref hp.objs.size) ⟨hp.push o, g, d, tk, os⟩ → wpAny (model prog w) A' (pyIter v) Q E ⟨hp, g, d, tk, os⟩ := fun q => B.iter prog w _ _ ⟨hp, g, d, tk, os⟩ _ h1 q
    wp_walk using bi
    refine wpAny_stack_any fun st => wpAny_pure ?_
    split
    · rename_i c _ _ _ _ _
      cases (c == Value.type "enumerate") <;> (wp_walk using bi; exact ⟨_, rfl, h⟩)
    · wp_walk using bi
      exact ⟨_, rfl, h⟩
theorem enumCall1 {prog : Program} {w : World} {A : Around} {E : Value → Shared → Prop} {s : Shared} {v : Value} {o : Obj} {Hb : Heap → Prop} {Q : Value → Shared → Prop} (B : Begins v o Hb) (h1 : Hb s.heap)
    (h : ∀ h', IsEnum h' (s.heap.objs.size + 1) s.heap.objs.size ((0 : Nat) : Int) .none → h'.get? s.heap.objs.size = some o → (∀ b o, s.heap.get? b = some o → h'.get? b = some o) → Q (.ref (s.heap.objs.size + 1)) { s with heap := h' }) :
    wpAny (model prog w) A (call (.type "enumerate") [v]) Q E s := by
  refine callType_new F.called_enumerate (by decide) (F.typeCall_enumerate_1 _) (F.newCall_enumerate_1 _) (fun obj => F.args_object_init_2 obj _) F.entry_enumerate_new (enumNew1 B) ⟨h1, ?_⟩
  have sz : (s.heap.push o).objs.size = s.heap.objs.size + 1 := Heap.size_push ..
  have he : ∀ e : Obj, e.isFreed = false → ((s.heap.push o).push e).get? (s.heap.objs.size + 1) = some e := fun e fr => by
    have q := Heap.get?_push_size (s.heap.push o) (o := e) fr
    rwa [sz] at q
  show _ ∧ _
  rw [sz]
  exact ⟨⟨_, he _ rfl, rfl⟩, h _ (he _ rfl) (Heap.get?_push_of_some _ (Heap.get?_push_size _ B.free)) fun b u x => Heap.get?_push_of_some _ (Heap.get?_push_of_some _ x)⟩
/-- what enumerate of the tuple at a gives: pairs, newly laid -/
def ItP (K : PySem.W.Frag) (a : Addr) : It :=
  ⟨fun i H => ∃ xs x, SqT K H a xs ∧ xs[i]? = some x, fun i H v H' => ∃ t x, v = .ref t ∧ H t = none ∧ H' = upd H t (.tup [.int (i : Nat), x]) ∧ ∀ xs, SqT K H a xs → xs[i]? = some x, fun i H => ∃ xs, SqT K H a xs ∧ xs.length = i⟩
theorem turnP {P : Program} {w : World} {K : PySem.W.Frag} {elts : List Expr} {kk : Nat} {tpos : Pos} (a e it : Addr) (hai : a ≠ it) :
    Turn P w K (.Tuple elts kk tpos) (ItP K a) [e, it] e (fun i h => (∃ old, IsEnum h e it ((i : Nat) : Int) old) ∧ h.IsTupleIter it a i ∧ e ≠ it ∧ e ≠ a) where
  mem := List.mem_cons_self
  obj := fun i h ⟨⟨old, he⟩, ⟨o, ho, hc, hd⟩, _⟩ b hb => by
    rcases List.mem_cons.mp hb with rfl | hb
    · exact ⟨_, he, fun v q => nomatch q⟩
    · rw [List.mem_singleton.mp hb]
      exact ⟨o, ho, fun v q => by rw [hd] at q; cases q⟩
  keep := fun i h h' ⟨⟨old, he⟩, hi, hne⟩ k => ⟨⟨old, k e (by simp) _ he⟩, hi.at fun o q => k it (by simp) o q, hne⟩
  item := by
    intro X hP hw hK hc i pins s σ H E I hf ⟨⟨old, he⟩, hit, hne, hea⟩ ⟨xs, x, hq, hx⟩
    subst hP hw hK
    obtain ⟨its, rv, p, _⟩ := I.tuple hq
    obtain ⟨u, hu, ru⟩ := rv.get hx
    have D := Draws.tuple (prog := X.prog) (w := X.w) (A := X.A.in1) (I.ok.hd hc) it a hai its.toArray
    have lt_e : e < s.heap.objs.size := Heap.lt_size he
    have lt_i : it < s.heap.objs.size := by obtain ⟨_, q, _⟩ := hit; exact Heap.lt_size q
    refine wpAny_pyNext_enum_itemD D he ⟨hit, p⟩ (by simp; exact (List.getElem?_eq_some_iff.mp hu).1) hne (by simp [hne, hea]) fun y h' tk hy ho ⟨hit', _⟩ hT _ hk => ?_
    have ey : y = u := by
      have z : its[i]? = some y := by simpa using hy
      rw [hu] at z
      exact (Option.some.inj z).symm
    subst ey
    refine ⟨_, rfl, wpAny_letOwnedTupleGo_enum (s := { s with heap := h', toks := tk + 1 }) ho fun h2 he2 sb => ?_⟩
    have hT2 := (sb.2 _ (Nat.ne_of_gt lt_e)).trans hT
    have new : ObjOk X.prog X.w (upd H s.heap.objs.size (.tup [.int (i : Nat), x])) h2 s.heap.objs.size (.tup [.int (i : Nat), x]) :=
      ⟨(by decide : 2 ≤ sizeLine), [.int i tk, y], .cons ⟨_, rfl⟩ (.cons ru .nil), ⟨_, hT2, rfl, _, rfl⟩⟩
    have J : Inv X pins σ (upd H s.heap.objs.size (.tup [.int (i : Nat), x])) { s with heap := h2, toks := tk + 1 } :=
      I.turnedNew (ch := [e, it]) (fun b ob hb q => (sb.2 b (fun z => hb (by simp [z]))).trans (hk b ob (fun z => hb (by simp [z])) (fun z => hb (by simp [z])) q)) hf (Nat.le_refl _) new
    refine ⟨.ref s.heap.objs.size, _, J, rfl, ⟨_, x, rfl, I.hok.fresh (Nat.le_refl _), rfl, fun ys hy => by rw [I.tuple_inj hy hq]; exact hx⟩, ⟨⟨y, by rw [show ((i + 1 : Nat) : Int) = (i : Int) + 1 by omega]; exact he2⟩, hit'.at fun o q => (sb.2 it (Ne.symm hne)).trans q, hne, hea⟩, fun b hb => ?_⟩
    have lt_b : b < s.heap.objs.size := by
      rcases List.mem_cons.mp hb with rfl | hb
      · exact lt_e
      · rw [List.mem_singleton.mp hb]; exact lt_i
    rw [upd_ne (Nat.ne_of_lt lt_b)]
    exact (hf b hb).1
  done := by
    intro X hP hw hK hc i pins s σ H E I hf ⟨⟨old, he⟩, hit, hne, hea⟩ ⟨xs, hq, hx⟩
    subst hP hw hK
    obtain ⟨its, rv, p, _⟩ := I.tuple hq
    obtain ⟨f0, f1, f2, f3, f4, f5⟩ := hf it (by simp)
    have D := Draws.tuple (prog := X.prog) (w := X.w) (A := X.A.in1) (I.ok.hd hc) it a hai its.toArray
    have ei : i = its.toArray.size := by rw [← hx, List.size_toArray]; exact rv.length
    exact wpAny_pyNext_enum_endD D he ⟨by rw [← ei]; exact hit, p⟩ fun h' eb => ⟨rfl, I.turned (t' := s.toks) (fun b o hb q => eb b o hb q) f0 f1 f3 f4 f5⟩
  self := fun A i s Q E ⟨⟨_, he⟩, _⟩ h => wpAny_pyIter_enum he h
/-- enumerate(t): pairs of an index and an item -/
def enumT (K : PySem.W.Frag) (Ts : List Ty) : List Ty := Ts.mapIdx fun i T => tupT K [intT (i : Nat), T]
theorem enumT_len {K : PySem.W.Frag} {Ts : List Ty} : (enumT K Ts).length = Ts.length := by simp [enumT]
theorem enumT_get {K : PySem.W.Frag} {Ts : List Ty} {i : Nat} {T : Ty} (h : Ts[i]? = some T) : (enumT K Ts)[i]? = some (tupT K [intT (i : Nat), T]) := by simp [enumT, List.getElem?_mapIdx, h]
section
variable {X : Cx} {Γ : Ctx} {e : Expr} {Ts : List Ty} {p pos tpos : Pos} {elts : List Expr} {kk : Nat}
theorem gi_enumT [hS : Stbs Ts] (h : G X Γ e (tupT X.K Ts)) (hm : X.mg "enumerate" = none) (hg : Gl X "enumerate" := by rfl) (hs : starEach [e] X.env = (false, eval e X.env) :: starEach [] X.env := by first | exact se_cons rfl | exact se_one rfl | exact se_two rfl rfl | rfl) (hs2 : starEach [e] X.env = [(false, eval e X.env)] := by first | exact se_cons rfl | exact se_one rfl | exact se_two rfl rfl | rfl) :
    GI X Γ (.Tuple elts kk tpos) (.Call (.Name "enumerate" p) [e] [] pos) (enumT X.K Ts) := fun σ H t Q q => by
  refine ⟨fun pins s I => ?_⟩
  have hA : tA X [e] σ H fun vs H2 => ∃ a xs, vs = [V.ref a] ∧ PerT X.K H2 a xs ∧ All2 Ts xs H2 ∧ Ex H H2 := ga_cons h ga_nil hs σ H t _ fun vs H2 e2 h2 => by
    obtain ⟨v, ev, a, xs, ev2, hp, ha⟩ := one2 h2
    subst ev; subst ev2
    exact ⟨a, xs, rfl, hp, ha, e2⟩
  refine Call_ (ld_blt I hg hm boot_enumerate (PyProof.Rows.callWith_type1 (thn (hA.run pos pins s I) fun us s1 z => ?_) hs2 rfl))
  obtain ⟨vs, H1, I1, r1, a, xs, ev, hp, ha, e1⟩ := z
  subst ev
  cases r1 with
  | cons r rr =>
    cases rr
    cases r
    obtain ⟨its, rv, ht, hz⟩ := I1.tuple hp.sq
    have ht' : s1.heap.IsTuple a its.toArray := ht
    have lt_a : a < s1.heap.objs.size := by obtain ⟨o, q, _⟩ := ht'; exact Heap.lt_size q
    refine enumCall1 (begins_tuple a its.toArray) ht' fun h' he hit hk => wpAny_pyIter_enum he ?_
    have I2 : Inv X pins σ H1 { s1 with heap := h' } := I1.kept (t' := s1.toks) hk
    refine ⟨s1.heap.objs.size + 1, [s1.heap.objs.size + 1, s1.heap.objs.size], _, _, H1, rfl, I2, turnP a (s1.heap.objs.size + 1) s1.heap.objs.size (Nat.ne_of_lt lt_a), ⟨⟨.none, he⟩, ⟨_, hit, rfl, rfl⟩, Nat.succ_ne_self _, Nat.ne_of_gt (Nat.lt_succ_of_lt lt_a)⟩, fun b hb => ?_, q _ H1 e1 fun i H' e => ⟨fun hi => ?_, fun hi => ⟨xs, (hp.le e).sq, by rw [hi, enumT_len, ha.len]⟩⟩⟩
    · have hle : s1.heap.objs.size ≤ b := by
        rcases List.mem_cons.mp hb with rfl | hb
        · exact Nat.le_succ _
        · rw [List.mem_singleton.mp hb]; exact Nat.le_refl _
      exact I1.fpOk hle (I1.hok.fresh hle)
    · rw [enumT_len] at hi
      obtain ⟨v, hv, tv⟩ := (hS.le e ha).get (List.getElem?_eq_getElem hi)
      refine ⟨⟨xs, v, (hp.le e).sq, hv⟩, fun x H2 hy => ?_⟩
      obtain ⟨T, y, ex, hn, eH, hx⟩ := hy
      subst ex; subst eH
      have hy' := hx xs (hp.le e).sq
      rw [hv] at hy'
      cases hy'
      exact ⟨Ex.new hn, _, enumT_get (List.getElem?_eq_getElem hi), T, _, rfl, .inl upd_same, rfl, Ts[i].up (Ex.new hn) tv, trivial⟩
end
end RL

/-! NumMath: plain mathematics of numbers as lists of pairs; core Lean only -/
namespace NM
/-- whether n is a prime, by trial division -/
def isPB (n : Int) : Bool := decide (2 ≤ n) && (List.range n.toNat).all fun d => decide (d < 2) || decide (n < (d : Int) * d) || decide (n % (d : Int) ≠ 0)
theorem isPB_hit {n d : Int} (h2 : 2 ≤ d) (hd : d * d ≤ n) (h0 : n % d = 0) : isPB n = false := by
  unfold isPB
  have hdn : d < n := by
    have : d * 2 ≤ d * d := Int.mul_le_mul_of_nonneg_left h2 (by omega)
    omega
  rw [Bool.and_eq_false_iff]
  right
  rw [List.all_eq_false]
  refine ⟨d.toNat, List.mem_range.mpr (by omega), ?_⟩
  have e : ((d.toNat : Nat) : Int) = d := by omega
  rw [e]
  simp only [Bool.or_eq_true, decide_eq_true_eq, not_or]
  refine ⟨⟨by omega, by omega⟩, by simpa using h0⟩
theorem isPB_none {n d : Int} (h2 : 2 ≤ n) (hd2 : 2 ≤ d) (hd : n < d * d) (hno : ∀ c : Int, 2 ≤ c → c < d → n % c ≠ 0) : isPB n = true := by
  unfold isPB
  rw [Bool.and_eq_true, decide_eq_true_eq]
  refine ⟨h2, List.all_eq_true.mpr fun c hc => ?_⟩
  rw [List.mem_range] at hc
  simp only [Bool.or_eq_true, decide_eq_true_eq]
  by_cases c1 : c < 2
  · exact .inl (.inl c1)
  by_cases c2 : n < (c : Int) * c
  · exact .inl (.inr c2)
  right
  refine hno c (by omega) ?_
  have c2 : (c : Int) * c ≤ n := by omega
  have c1 : (2 : Int) ≤ c := by omega
  refine Int.lt_of_not_ge fun h => ?_
  have : d * d ≤ (c : Int) * c := Int.mul_le_mul h h (by omega) (by omega)
  omega
theorem isPB_small {n : Int} (h : n < 2) : isPB n = false := by
  unfold isPB
  rw [Bool.and_eq_false_iff]
  left
  simpa using h

abbrev NK := List (Int × Int)
def look (l : NK) (p : Int) : Int := ((l.find? fun q => decide (q.1 = p)).map (·.2)).getD 0
structure Canon (l : NK) : Prop where
  asc : (l.map (·.1)).Pairwise (· < ·)
  pos : ∀ q ∈ l, 0 < q.2
/-! ascending lists without duplicates -/
def insU (p : Int) : List Int → List Int
  | [] => [p]
  | q :: r => if p < q then p :: q :: r else if p = q then q :: r else q :: insU p r
def sortU (l : List Int) : List Int := l.foldr insU []
theorem insU_mem {p a : Int} : ∀ {l : List Int}, a ∈ insU p l ↔ a = p ∨ a ∈ l
  | [] => by simp [insU]
  | q :: r => by
    unfold insU
    split
    · simp
    · split
      · rename_i h; subst h; simp
      · rw [List.mem_cons, insU_mem, List.mem_cons]
        constructor
        · rintro (h | h | h)
          · exact .inr (.inl h)
          · exact .inl h
          · exact .inr (.inr h)
        · rintro (h | h | h)
          · exact .inr (.inl h)
          · exact .inl h
          · exact .inr (.inr h)
theorem insU_pw {p : Int} : ∀ {l : List Int}, l.Pairwise (· < ·) → (insU p l).Pairwise (· < ·)
  | [], _ => by simp [insU]
  | q :: r, h => by
    unfold insU
    obtain ⟨h1, h2⟩ := List.pairwise_cons.mp h
    split
    · rename_i c
      refine List.pairwise_cons.mpr ⟨fun x hx => ?_, h⟩
      rcases List.mem_cons.mp hx with rfl | hx
      · exact c
      · have := h1 x hx; omega
    · split
      · exact h
      · refine List.pairwise_cons.mpr ⟨fun x hx => ?_, insU_pw h2⟩
        rcases insU_mem.mp hx with rfl | hx
        · omega
        · exact h1 x hx
theorem sortU_mem {l : List Int} {a : Int} : a ∈ sortU l ↔ a ∈ l := by
  unfold sortU
  induction l with
  | nil => simp
  | cons p l ih => rw [List.foldr_cons, insU_mem, ih, List.mem_cons]
theorem pw_lt {l : List Int} (h : l.Pairwise (· ≤ ·)) (nd : l.Nodup) : l.Pairwise (· < ·) := by
  have := List.Pairwise.and h nd
  exact this.imp fun h => by omega
theorem sortU_pw (l : List Int) : (sortU l).Pairwise (· < ·) := by
  unfold sortU
  induction l with
  | nil => exact List.Pairwise.nil
  | cons p l ih => exact insU_pw ih
theorem insU_len (p : Int) : ∀ l : List Int, (insU p l).length ≤ l.length + 1
  | [] => by simp [insU]
  | q :: r => by
    unfold insU
    have := insU_len p r
    split
    · simp
    · split
      · simp
      · simpa using this
theorem sortU_len (l : List Int) : (sortU l).length ≤ l.length := by
  unfold sortU
  induction l with
  | nil => simp
  | cons p l ih =>
    rw [List.foldr_cons, List.length_cons]
    exact Nat.le_trans (insU_len _ _) (by omega)
theorem nodup_of_lt {l : List Int} (h : l.Pairwise (· < ·)) : l.Nodup := h.imp fun h e => by omega
theorem eq_of_lt {a b : List Int} (ha : a.Pairwise (· < ·)) (hb : b.Pairwise (· < ·)) (h : ∀ x, x ∈ a ↔ x ∈ b) : a = b := by
  have p : a.Perm b := (List.perm_ext_iff_of_nodup (nodup_of_lt ha) (nodup_of_lt hb)).mpr h
  exact List.Perm.eq_of_pairwise (le := (· < ·)) (fun x y _ _ h1 h2 => by omega) ha hb p
theorem sortU_is {l ys : List Int} (h : ys.Pairwise (· < ·)) (m : ∀ x, x ∈ ys ↔ x ∈ l) : ys = sortU l := eq_of_lt h (sortU_pw l) fun x => by rw [m, sortU_mem]
theorem sortU_perm {l ys : List Int} (p : ys.Perm l) (h : ys.Pairwise (· ≤ ·)) (nd : l.Nodup) : ys = sortU l := sortU_is (pw_lt h (p.nodup_iff.mpr nd)) fun x => p.mem_iff
/-! look -/
theorem look_cons {q : Int × Int} {l : NK} {p : Int} : look (q :: l) p = if q.1 = p then q.2 else look l p := by
  unfold look
  by_cases h : q.1 = p <;> simp [List.find?_cons, h]
theorem look_none {l : NK} {p : Int} (h : p ∉ l.map (·.1)) : look l p = 0 := by
  induction l with
  | nil => rfl
  | cons q l ih =>
    rw [List.map_cons, List.mem_cons, not_or] at h
    rw [look_cons, if_neg (fun e => h.1 e.symm), ih h.2]
theorem look_mem {l : NK} {q : Int × Int} (nd : (l.map (·.1)).Nodup) (h : q ∈ l) : look l q.1 = q.2 := by
  induction l with
  | nil => cases h
  | cons r l ih =>
    rw [List.map_cons, List.nodup_cons] at nd
    rw [look_cons]
    rcases List.mem_cons.mp h with rfl | h
    · rw [if_pos rfl]
    · rw [if_neg (fun e => nd.1 (by rw [e]; exact List.mem_map_of_mem h)), ih nd.2 h]
theorem Canon.nodup {l : NK} (c : Canon l) : (l.map (·.1)).Nodup := nodup_of_lt c.asc
theorem Canon.look_pos {l : NK} (c : Canon l) {p : Int} : 0 < look l p ↔ p ∈ l.map (·.1) := by
  constructor
  · intro h
    by_cases m : p ∈ l.map (·.1)
    · exact m
    · rw [look_none m] at h; omega
  · intro h
    obtain ⟨q, hq, rfl⟩ := List.mem_map.mp h
    rw [look_mem c.nodup hq]
    exact c.pos q hq
theorem Canon.nonneg {l : NK} (c : Canon l) (p : Int) : 0 ≤ look l p := by
  by_cases m : p ∈ l.map (·.1)
  · exact Int.le_of_lt (c.look_pos.mpr m)
  · rw [look_none m]; exact Int.le_refl 0
theorem canon_map {l : NK} (c : Canon l) : l = (l.map (·.1)).map fun p => (p, look l p) := by
  rw [List.map_map]
  conv => lhs; rw [← List.map_id l]
  refine List.map_congr_left fun q hq => ?_
  show q = (q.1, look l q.1)
  rw [look_mem c.nodup hq]
theorem canon_ext {a b : NK} (ca : Canon a) (cb : Canon b) (h : ∀ p, look a p = look b p) : a = b := by
  have e : a.map (·.1) = b.map (·.1) := eq_of_lt ca.asc cb.asc fun p => by rw [← ca.look_pos, ← cb.look_pos, h]
  rw [canon_map ca, canon_map cb, e]
  exact List.map_congr_left fun p _ => by rw [h]
/-! what number_of makes of a dict -/
def normK (l : NK) : NK := (sortU (l.map (·.1))).filterMap fun p => if 0 < look l p then some (p, look l p) else none
theorem normK_keys {l : NK} : (normK l).map (·.1) = (sortU (l.map (·.1))).filter fun p => decide (0 < look l p) := by
  unfold normK
  induction sortU (l.map (·.1)) with
  | nil => rfl
  | cons p r ih =>
    by_cases h : 0 < look l p
    · rw [List.filterMap_cons_some (by rw [if_pos h]), List.map_cons, ih, List.filter_cons_of_pos (by simpa using h)]
    · rw [List.filterMap_cons_none (by rw [if_neg h]), ih, List.filter_cons_of_neg (by simpa using h)]
theorem normK_canon (l : NK) : Canon (normK l) := by
  refine ⟨?_, ?_⟩
  · rw [normK_keys]
    exact (sortU_pw _).filter _
  · intro q hq
    unfold normK at hq
    obtain ⟨p, _, e⟩ := List.mem_filterMap.mp hq
    split at e
    · cases e; assumption
    · cases e
theorem normK_look {l : NK} (h : ∀ p, 0 ≤ look l p) (p : Int) : look (normK l) p = look l p := by
  by_cases m : p ∈ (normK l).map (·.1)
  · obtain ⟨q, hq, rfl⟩ := List.mem_map.mp m
    rw [look_mem (normK_canon l).nodup hq]
    unfold normK at hq
    obtain ⟨p, _, e⟩ := List.mem_filterMap.mp hq
    split at e
    · cases e; rfl
    · cases e
  · rw [look_none m]
    rw [normK_keys, List.mem_filter, sortU_mem] at m
    by_cases k : p ∈ l.map (·.1)
    · have := h p
      simp only [k, true_and, decide_eq_true_eq] at m
      omega
    · rw [look_none k]
theorem normK_sub {l : NK} {q : Int × Int} (h : q ∈ normK l) : q.1 ∈ l.map (·.1) := by
  have : q.1 ∈ (normK l).map (·.1) := List.mem_map_of_mem h
  rw [normK_keys, List.mem_filter, sortU_mem] at this
  exact this.1
theorem look_mapf {ks : List Int} {f : Int → Int} {p : Int} : look (ks.map fun p => (p, f p)) p = if p ∈ ks then f p else 0 := by
  induction ks with
  | nil => rfl
  | cons k ks ih =>
    rw [List.map_cons, look_cons, ih]
    by_cases h : k = p
    · subst h; simp
    · have : ¬ p = k := fun e => h e.symm
      simp [h, this]
/-- what a table over the primes of two numbers makes -/
def joinK (a b : NK) : List Int := sortU (a.map (·.1) ++ b.map (·.1))
def opK (f : Int → Int → Int) (a b : NK) : NK := normK ((joinK a b).map fun p => (p, f (look a p) (look b p)))
theorem opK_canon (f : Int → Int → Int) (a b : NK) : Canon (opK f a b) := normK_canon _
theorem opK_look {f : Int → Int → Int} {a b : NK} (h0 : f 0 0 = 0) (hf : ∀ p, 0 ≤ f (look a p) (look b p)) (p : Int) : look (opK f a b) p = f (look a p) (look b p) := by
  unfold opK
  rw [normK_look]
  · rw [look_mapf]
    by_cases m : p ∈ joinK a b
    · rw [if_pos m]
    · rw [if_neg m]
      unfold joinK at m
      rw [sortU_mem, List.mem_append, not_or] at m
      rw [look_none m.1, look_none m.2, h0]
  · intro p
    rw [look_mapf]
    split
    · exact hf p
    · exact Int.le_refl 0
theorem map_map1 {a : NK} {f : Int × Int → Int} : a.map (fun q => (q.1, f q)) = (a.map fun q => (q.1, f q)) := rfl
def overK (a b : NK) : NK := normK (a.map fun q => (q.1, q.2 - look b q.1))
def raisedK (a : NK) (t : Int) : NK := normK (a.map fun q => (q.1, q.2 * t))
theorem look_mapq {a : NK} (nd : (a.map (·.1)).Nodup) {f : Int → Int → Int} {p : Int} (h0 : p ∉ a.map (·.1) → f p 0 = 0) : look (a.map fun q => (q.1, f q.1 q.2)) p = f p (look a p) := by
  induction a with
  | nil => exact (h0 (by simp)).symm
  | cons q a ih =>
    rw [List.map_cons, List.nodup_cons] at nd
    rw [List.map_cons, look_cons, look_cons]
    by_cases h : q.1 = p
    · rw [if_pos h, if_pos h, h]
    · rw [if_neg h, if_neg h]
      refine ih nd.2 fun m => h0 ?_
      rw [List.map_cons, List.mem_cons, not_or]
      exact ⟨fun e => h e.symm, m⟩
theorem overK_look {a b : NK} (ca : Canon a) (hb : ∀ p, look b p ≤ look a p) (cb : Canon b) (p : Int) : look (overK a b) p = look a p - look b p := by
  have e : ∀ p, look (a.map fun q => (q.1, q.2 - look b q.1)) p = look a p - look b p := fun p =>
    look_mapq (f := fun p e => e - look b p) ca.nodup (fun m => by
      have := hb p
      rw [look_none m] at this
      have := cb.nonneg p
      show (0 : Int) - look b p = 0
      omega)
  unfold overK
  rw [normK_look (fun p => by rw [e]; have := hb p; omega), e]
theorem raisedK_look {a : NK} (ca : Canon a) {t : Int} (ht : 0 ≤ t) (p : Int) : look (raisedK a t) p = look a p * t := by
  have e : ∀ p, look (a.map fun q => (q.1, q.2 * t)) p = look a p * t := fun p => look_mapq (f := fun _ e => e * t) ca.nodup (fun _ => Int.zero_mul t)
  unfold raisedK
  rw [normK_look (fun p => by rw [e]; exact Int.mul_nonneg (ca.nonneg p) ht), e]
end NM

set_option Elab.async false
set_option linter.all false
set_option maxRecDepth 100000
set_option maxHeartbeats 4000000
/-! RLnum: numbers as values -/
namespace RL
open PySem PySem.Spec PyProof.Rows L2 NM
section
variable {X : Cx} {Γ : Ctx} {e o a b c d : Expr} {es : List Expr} {T U : Ty} {Ts Us : List Ty} {pos p p2 pos2 apos : Pos} {x m : Str}
/-- {k: v for ..}, frozen at once -/
theorem g_dc {kx vx tg iter : Expr} {ifs : List Expr} {scope : Scope} {own : List (Str × Nat)} {g : TG} (rs : List (Option (Key × V))) (hi : GI X Γ tg iter Ts) (ok : BlkOk X.N X.env.scope scope own)
    (hg : ∀ (s : Shared) (H : Hp) (C : Addr) (cl : List (Str × Addr)) (fp : List Addr), PG (X.blk s H scope (compEnvC scope cl C X.env) fp) tg g)
    (hl : rs.length = Ts.length) (hz : Ts.length ≤ sizeLine)
    (hw : ∀ (i : Nat) (T : Ty), Ts[i]? = some T → ∃ Δ2, Tgt g T ((own.map (·.2)).foldr (fun v G => G.set v none) Γ) Δ2 ∧
      ((rs[i]? = some none ∧ GCTs X scope Δ2 ifs false) ∨ ∃ k v, rs[i]? = some (some (k, v)) ∧ GCTs X scope Δ2 ifs true ∧ GC X scope Δ2 kx (valT (kV k)) ∧ GC X scope Δ2 vx (valT v)))
    (hwipe : OwnTgt g own) (hnd : ((rs.filterMap id).map (·.1)).Nodup) {T' : Ty} (hR : dicT (rs.filterMap id) = T')
    (hc : X.calm = true := by rfl) (hN : X.N.Nodup := by first | assumption | decide) (hf : ∀ x, foldedSetIterable iter X.env x = pure x := by intro _; rfl) : G X Γ (.DictComp kx vx [⟨tg, iter, ifs, 0⟩] scope pos) T' := hR ▸ fun σ H t Q q =>
  tE_frz (g_dcU rs hi ok hg hl hz hw hwipe hnd hc hN hf t fun D H' e hD hd => ⟨D, _, hd, trivial, fun od => q _ _ (e.mut hD) ⟨D, od, rfl, upd_same⟩⟩)
/-- what is always kept -/
theorem kept_all {α : Type} {β : Type u} (ks : List α) (g : α → β) : (ks.map fun p => some (g p)).filterMap id = ks.map g := by
  induction ks with
  | nil => rfl
  | cons p r ih =>
    rw [List.map_cons, List.map_cons, ← ih]
    rfl
/-- [e for x in it] -/
theorem g_lcM {α : Type} {x : Str} {i : Nat} {elt iter : Expr} {scope : Scope} {px : Pos} (ks : List α) (A R : α → Ty) [hSt : ∀ a, Stb (R a)] (hi : GI X Γ (.Name x px) iter (ks.map A)) (hz : ks.length ≤ sizeLine)
    (hv : ∀ p ∈ ks, GC X scope ((Γ.set i none).set i (some (A p))) elt (R p)) (ok : BlkOk X.N X.env.scope scope [(x, i)] := by first | exact blkOk_by rfl | exact blkOk_by (by decide +kernel))
    (hg : ∀ (s : Shared) (H : Hp) (C : Addr) (cl : List (Str × Addr)) (fp : List Addr), PG (X.blk s H scope (compEnvC scope cl C X.env) fp) (.Name x px) (gName i) := by exact fun _ _ _ _ _ => pg_name (by assumption) rfl (Or.inl rfl))
    {T' : Ty} (hR : lstT (ks.map R) = T' := by rfl) (hc : X.calm = true := by rfl) (hN : X.N.Nodup := by first | assumption | decide) (hf : ∀ x, foldedSetIterable iter X.env x = pure x := by intro _; rfl) : G X Γ (.ListComp elt [⟨.Name x px, iter, [], 0⟩] scope pos) T' := by
  subst hR
  refine g_lc (ks.map fun p => some (R p)) hi ok hg (by rw [List.length_map, List.length_map]) (by rw [List.length_map]; exact hz) (fun j T hT => ?_) (fun U hU => by obtain ⟨a, _, e⟩ := List.mem_map.mp hU; cases e; exact hSt a) own_name (by unfold keptT; rw [kept_all]) hc hN hf
  rw [List.getElem?_map] at hT
  cases hp : ks[j]? with
  | none => rw [hp] at hT; cases hT
  | some p =>
    rw [hp] at hT
    cases hT
    exact ⟨_, tgt_name, .inr ⟨R p, by rw [List.getElem?_map, hp]; rfl, gct_nil, hv p (List.mem_of_getElem? hp)⟩⟩
/-- {k: v for x in it}, of different keys -/
theorem g_dcM {α : Type} {x : Str} {i : Nat} {kx vx iter : Expr} {scope : Scope} {px : Pos} (ks : List α) (A : α → Ty) (kf : α → Key) (vf : α → V) (hi : GI X Γ (.Name x px) iter (ks.map A)) (hz : ks.length ≤ sizeLine) (hnd : (ks.map kf).Nodup)
    (hk : ∀ p ∈ ks, GC X scope ((Γ.set i none).set i (some (A p))) kx (valT (kV (kf p)))) (hv : ∀ p ∈ ks, GC X scope ((Γ.set i none).set i (some (A p))) vx (valT (vf p)))
    {T' : Ty} (hR : dicT (ks.map fun p => (kf p, vf p)) = T') (ok : BlkOk X.N X.env.scope scope [(x, i)] := by first | exact blkOk_by rfl | exact blkOk_by (by decide +kernel))
    (hg : ∀ (s : Shared) (H : Hp) (C : Addr) (cl : List (Str × Addr)) (fp : List Addr), PG (X.blk s H scope (compEnvC scope cl C X.env) fp) (.Name x px) (gName i) := by exact fun _ _ _ _ _ => pg_name (by assumption) rfl (Or.inl rfl))
    (hc : X.calm = true := by rfl) (hN : X.N.Nodup := by first | assumption | decide) (hf : ∀ x, foldedSetIterable iter X.env x = pure x := by intro _; rfl) : G X Γ (.DictComp kx vx [⟨.Name x px, iter, [], 0⟩] scope pos) T' := by
  subst hR
  refine g_dc (ks.map fun p => some (kf p, vf p)) hi ok hg (by rw [List.length_map, List.length_map]) (by rw [List.length_map]; exact hz) (fun j T hT => ?_) own_name ?_ (by rw [kept_all]) hc hN hf
  · rw [List.getElem?_map] at hT
    cases hp : ks[j]? with
    | none => rw [hp] at hT; cases hT
    | some p =>
      rw [hp] at hT
      cases hT
      exact ⟨_, tgt_name, .inr ⟨kf p, vf p, by rw [List.getElem?_map, hp]; rfl, gct_nil, hk p (List.mem_of_getElem? hp), hv p (List.mem_of_getElem? hp)⟩⟩
  · rw [kept_all, List.map_map]
    exact hnd
/-- min, max of two ints -/
theorem g_min2 {i j : Int} (ha : G X Γ a (intT i)) (hb : G X Γ b (intT j)) (hm : X.mg "min" = none) (hc : X.calm = true := by rfl) (hg : Gl X "min" := by rfl) (he : starEach [a, b] X.env = (false, eval a X.env) :: starEach [b] X.env := by first | exact se_cons rfl | exact se_one rfl | exact se_two rfl rfl | rfl) (he2 : starEach [b] X.env = (false, eval b X.env) :: starEach [] X.env := by first | exact se_cons rfl | exact se_one rfl | exact se_two rfl rfl | rfl) (hpl : (backTo pos (starEach [b] X.env)).any (·.1) = false := by first | exact se_any rfl | rfl) :
    G X Γ (.Call (.Name "min" p) [a, b] [] pos) (intT (if j < i then j else i)) :=
  g_callB (call_min2 hc) hm (by decide +kernel) (ga_cons ha (ga_cons hb ga_nil he2) he) (fun vs H h Q q => ⟨i, j, vals2 h, q _ _ (Ex.refl H) rfl⟩) hg (by decide) (by decide) he hpl
theorem g_max2 {i j : Int} (ha : G X Γ a (intT i)) (hb : G X Γ b (intT j)) (hm : X.mg "max" = none) (hc : X.calm = true := by rfl) (hg : Gl X "max" := by rfl) (he : starEach [a, b] X.env = (false, eval a X.env) :: starEach [b] X.env := by first | exact se_cons rfl | exact se_one rfl | exact se_two rfl rfl | rfl) (he2 : starEach [b] X.env = (false, eval b X.env) :: starEach [] X.env := by first | exact se_cons rfl | exact se_one rfl | exact se_two rfl rfl | rfl) (hpl : (backTo pos (starEach [b] X.env)).any (·.1) = false := by first | exact se_any rfl | rfl) :
    G X Γ (.Call (.Name "max" p) [a, b] [] pos) (intT (if j > i then j else i)) :=
  g_callB (call_max2 hc) hm (by decide +kernel) (ga_cons ha (ga_cons hb ga_nil he2) he) (fun vs H h Q q => ⟨i, j, vals2 h, q _ _ (Ex.refl H) rfl⟩) hg (by decide) (by decide) he hpl
/-- set(l) of a frozen list of ints -/
theorem cr_setL (hc : X.calm = true) : CallR X (.type "set") (fun vs H Q => ∃ (l : Addr) (ns : List Int), vs = [V.ref l] ∧ FrzL H l (ns.map V.int) ∧ ns.length ≤ 1000 ∧ ∀ (q : Addr) (n : Nat), n ≤ ns.length → H q = none → Q (.ref q) (upd H q (SetO X.w q (fun j => decide (j ∈ ns)) n))) := by
  intro pins s σ H vs us Q I r h
  obtain ⟨l, ns, ev, ⟨o, hf⟩, hn, q⟩ := h
  subst ev
  match us, r with
  | [u], .cons ru .nil =>
    obtain rfl : u = Value.ref l := ru
    obtain ⟨_, z, its, c, hv, hl⟩ := I.hok l _ hf
    refine set_of_list (items := its.toArray) ns (I.ok.hd hc) ⟨_, hl, rfl, c, rfl⟩ (ints_of_vals hv) (by unfold scanBound; omega) fun h' tk n hR hle k => ?_
    exact ⟨.ref s.heap.objs.size, _, I.laid k (Nat.le_refl _) (setO_new hR), rfl, q _ n hle (I.hok.fresh (Nat.le_refl _))⟩
/-- sorted(set(l)) -/
theorem g_sortedSet {ns : List Int} (h : G X Γ e (lstT (ns.map fun z => intT z))) (hm : X.mg "sorted" = none) (hm2 : X.mg "set" = none) (h64 : ns.length < 64) (hc : X.calm = true := by rfl) (hg : Gl X "sorted" := by rfl) (hg2 : Gl X "set" := by rfl)
    (he : starEach [e] X.env = (false, eval e X.env) :: starEach [] X.env := by first | exact se_cons rfl | exact se_one rfl | exact se_two rfl rfl | rfl) : G X Γ (.Call (.Name "sorted" p) [.Call (.Name "set" p2) [e] [] pos2] [] pos) (lstT ((sortU ns).map fun z => intT z)) := fun σ H t Q q =>
  tE_frz (toE (pe_callB (cr_sortedSet hc) hg hm (by decide +kernel) (pa_cons (pe_callTy (cr_setL hc) hg2 hm2 (by decide +kernel) (pa_cons (pe e) pa_nil he) (he := he)) pa_nil)) (h σ H t _ fun v H1 e1 ⟨l, vs, ev, hf, h2⟩ => by
    subst ev
    have hv : vs = ns.map V.int := All2.vals (H := H1) (by rw [List.map_map]; exact h2)
    subst hv
    refine ⟨l, ns, rfl, hf, by omega, fun s n hn hs => ⟨s, _, n, rfl, upd_same, by omega, fun out d hd hmem hlen hfree => ?_⟩⟩
    have hout : out = sortU ns := sortU_is hd fun x => by rw [hmem x, decide_eq_true_eq]
    subst hout
    refine ⟨d, _, upd_same, trivial, fun od => ?_⟩
    rw [upd_upd]
    have hsd : H1 d = none := by
      by_cases c : d = s
      · subst c; exact hs
      · rw [upd_ne c] at hfree; exact hfree
    refine q _ _ ?_ ⟨d, _, rfl, ⟨od, upd_same⟩, ?_⟩
    · exact (e1.trans (Ex.new hs)).trans (Ex.new hfree)
    · have z := All2.of_vals (H := upd (upd H1 s (SetO X.w s (fun j => decide (j ∈ ns)) n)) d (.frz od (.lst ((sortU ns).map V.int)))) (ws := (sortU ns).map V.int)
      rwa [List.map_map] at z))
end
/-! ### numbers -/
def numCs : List Str := ["Number", "MadeNumber"]
def kvN (l : NK) : List (Key × V) := l.map fun q => (Sum.inl q.1, V.int q.2)
theorem kvN_keys (l : NK) : (kvN l).map (·.1) = (l.map (·.1)).map Sum.inl := by simp [kvN]
theorem kvN_val (l : NK) (p : Int) : (valV (kvN l) (Sum.inl p : Key)).getD (.int 0) = .int (look l p) := by
  induction l with
  | nil => rfl
  | cons q l ih =>
    unfold valV kvN at *
    rw [List.map_cons, List.find?_cons, look_cons]
    by_cases h : q.1 = p
    · subst h; simp
    · have h' : ¬ (Sum.inl q.1 : Key) = Sum.inl p := fun z => h (Sum.inl.inj z)
      simp only [h, h', decide_false, if_false]
      exact ih
theorem kvN_val' {l : NK} {p : Int} (h : p ∈ l.map (·.1)) : valV (kvN l) (Sum.inl p : Key) = some (.int (look l p)) := by
  have z := kvN_val l p
  cases e : valV (kvN l) (Sum.inl p : Key) with
  | some v => rw [e] at z; exact congrArg some z
  | none =>
    exfalso
    obtain ⟨q, hq, rfl⟩ := List.mem_map.mp h
    unfold valV kvN at e
    rw [Option.map_eq_none_iff, List.find?_eq_none] at e
    exact e (Sum.inl q.1, V.int q.2) (List.mem_map_of_mem (f := fun q : Int × Int => ((Sum.inl q.1, V.int q.2) : Key × V)) hq) (by simp)
/-- the number of these pairs -/
def numT (K : PySem.W.Frag) (k : NK) : Ty := ⟨fun v H => ∃ a C dx p o, v = .ref a ∧ H a = some (.ins C dx [("powers", .ref p)]) ∧ NamesC K numCs C ∧ H p = some (.frz o (.dK (kvN k))),
  fun {v H H'} e ⟨a, C, dx, p, o, h1, h2, h3, h4⟩ => ⟨a, C, dx, p, o, h1, e a _ h2, h3, e p _ h4⟩⟩
instance (K : PySem.W.Frag) (k : NK) : Stb (numT K k) := ⟨fun e ⟨a, C, dx, p, o, h1, h2, h3, h4⟩ => ⟨a, C, dx, p, o, h1, e a _ (fun z => z) h2, h3, e p _ (fun z => z) h4⟩⟩
theorem num_any {K : PySem.W.Frag} {k : NK} {v : V} {H : Hp} (h : numT K k v H) : InsAny (NamesC K numCs) v H := by
  obtain ⟨a, C, dx, p, o, h1, h2, h3, _⟩ := h
  exact ⟨a, C, dx, _, h1, h2, h3⟩
theorem num_of {K : PySem.W.Frag} {k : NK} {m : Str} (hm : List.lookup m [(("powers" : Str), V.ref 0)] = none) {v : V} {H : Hp} (h : numT K k v H) : InsOf (NamesC K numCs) m v H := by
  obtain ⟨a, C, dx, p, o, h1, h2, h3, _⟩ := h
  refine ⟨a, C, dx, _, h1, h2, h3, ?_⟩
  rw [List.lookup_cons] at hm ⊢
  split at hm
  · cases hm
  · rfl
end RL

set_option Elab.async false
set_option linter.all false
set_option maxRecDepth 100000
set_option maxHeartbeats 4000000
/-! RLbag: the laws' bag of choices, hidden in one word -/
namespace RL
open PySem PySem.Spec PyProof.Rows L2
/-- what stands in a bag -/
structure BagS where
  i : Int
  c : Int
  m : Int
def BagS.ok (z : BagS) : Prop := 0 ≤ z.i ∧ 0 ≤ z.c ∧ 0 ≤ z.m ∧ z.m < 2 ^ 40
def bagL (row : Addr) (z : BagS) : HO := .lst [.ref row, .int z.i, .int z.c, .int z.m]
/-- a bag at b, its row at row, its state hidden -/
def bagH (b row : Addr) : HO := .ext fun h => ∃ z : BagS, z.ok ∧ ∃ (t1 t2 t3 : Tok) (n : Nat), h.get? b = some { cls := .type "list", data := .seq #[.ref row, .int z.i t1, .int z.c t2, .int z.m t3] n }
def bagT : Ty := ⟨fun v H => ∃ (b row : Addr) (cells : List Int), v = .ref b ∧ H b = some (bagH b row) ∧ FrzL H row (cells.map V.int), fun e ⟨b, row, cells, h1, h2, h3⟩ => ⟨b, row, cells, h1, e _ _ h2, h3.up e⟩⟩
instance : Stb bagT := ⟨fun e ⟨b, row, cells, h1, h2, h3⟩ => ⟨b, row, cells, h1, e _ _ (fun z => z) h2, h3.le e⟩⟩
theorem bag_close {b row : Addr} {z : BagS} (h : z.ok) : ∀ (P : Program) (w : World) (H H' : Hp) (hp : Heap), ObjOk P w H hp b (bagL row z) → ObjOk P w H' hp b (bagH b row) := fun P w H H' hp ⟨_, its, n, r, e⟩ => by
  cases r with
  | cons r0 r =>
  cases r with
  | cons r1 r =>
  cases r with
  | cons r2 r =>
  cases r with
  | cons r3 r =>
  cases r
  cases r0
  obtain ⟨t1, rfl⟩ := r1
  obtain ⟨t2, rfl⟩ := r2
  obtain ⟨t3, rfl⟩ := r3
  exact ⟨⟨z, h, t1, t2, t3, n, e⟩, ⟨_, e⟩, fun h1 h2 ⟨z', k, u1, u2, u3, n', e'⟩ s => ⟨z', k, u1, u2, u3, n', s _ e'⟩⟩
theorem bag_open {b row : Addr} : ∀ (P : Program) (w : World) (hp : Heap), (∃ z : BagS, z.ok ∧ ∃ (t1 t2 t3 : Tok) (n : Nat), hp.get? b = some { cls := .type "list", data := .seq #[.ref row, .int z.i t1, .int z.c t2, .int z.m t3] n }) → ∃ z : { z : BagS // z.ok }, ∀ H', ObjOk P w H' hp b (bagL row z.1) := fun P w hp ⟨z, h, t1, t2, t3, n, e⟩ =>
  ⟨⟨z, h⟩, fun H' => ⟨(by decide : 4 ≤ sizeLine), [.ref row, .int z.i t1, .int z.c t2, .int z.m t3], n, .cons rfl (.cons ⟨_, rfl⟩ (.cons ⟨_, rfl⟩ (.cons ⟨_, rfl⟩ .nil))), e⟩⟩
/-- the row of an opened bag -/
def rowT (row : Addr) (cells : List Int) : Ty := ⟨fun v H => v = .ref row ∧ FrzL H row (cells.map V.int), fun e ⟨h1, h2⟩ => ⟨h1, h2.up e⟩⟩
instance (row : Addr) (cells : List Int) : Stb (rowT row cells) := ⟨fun e ⟨h1, h2⟩ => ⟨h1, h2.le e⟩⟩
theorem row_lst {row : Addr} {cells : List Int} {v : V} {H : Hp} (h : rowT row cells v H) : lstT (cells.map fun z => intT z) v H := by
  obtain ⟨h1, h2⟩ := h
  refine ⟨row, _, h1, h2, ?_⟩
  have z := All2.of_vals (H := H) (ws := cells.map V.int)
  rwa [List.map_map] at z
abbrev bagTs (row : Addr) (cells : List Int) (z : BagS) : List Ty := [rowT row cells, intT z.i, intT z.c, intT z.m]
def hide (b : Addr) (H : Hp) : Hp := fun a => if a = b then none else H a
theorem hide_none {b : Addr} {H : Hp} : hide b H b = none := by simp [hide]
theorem hide_ex {b : Addr} {H : Hp} {o : HO} : Ex (hide b H) (upd H b o) := fun a u h => by
  unfold hide at h
  split at h
  · cases h
  · rename_i ne
    rw [upd_ne ne]; exact h
/-- the bag is closed again -/
theorem unhide {b row : Addr} {H H' : Hp} (e : Ex (hide b H) H') (hb : H b = some (bagH b row)) : Ex H (upd H' b (bagH b row)) := fun a u h => by
  by_cases c : a = b
  · subst c
    rw [hb] at h; cases h
    exact upd_same
  · rw [upd_ne c]
    exact e a u (by unfold hide; rw [if_neg c]; exact h)
section
variable {X : Cx} {Γ : Ctx} {e : Expr} {T : Ty} {H0 : Bs} {D : Ends} {rest : List Stmt} {pos : Pos}
theorem g_pow {a b : Expr} {i j : Int} (ha : G X Γ a (intT i)) (hb : G X Γ b (intT j)) (h : CPow i j) : G X Γ (.BinOp a .Pow b pos) (intT (i ^ j.toNat)) := g_op op_pow ha hb (r_I (g := fun i j => V.int (i ^ j.toNat)) (C := CPow) h)
theorem g_intI {i : Int} {p : Pos} (h : G X Γ e (intT i)) (hm : X.mg "int" = none) (hg : Gl X "int" := by rfl) (he : starEach [e] X.env = (false, eval e X.env) :: starEach [] X.env := by first | exact se_cons rfl | exact se_one rfl | exact se_two rfl rfl | rfl) : G X Γ (.Call (.Name "int" p) [e] [] pos) (intT i) :=
  g_callTy call_int1 hm (by decide +kernel) (ga_cons h ga_nil he) (fun vs H h2 Q q => .inl ⟨i, vals1' h2, q _ H (Ex.refl H) rfl⟩) hg (he := he)
/-- return e, a thing told anew behind it -/
theorem b_retR (he : G X Γ e T) (h : ∀ σ v H', H0.ok H' → Typed σ Γ H' → T v H' → ∃ d u u', H' d = some u ∧ Retr d u u' ∧ D.rt v (upd H' d u')) : Bd X Γ (.Return (some e) pos :: rest) H0 D := b_cons fun σ H e0 t => toS (ps_ret (pe e)) (tE_retr (he σ H t _ fun v H1 e1 h1 => h σ v H1 (e0.trans e1) (t.up e1) h1))
end
end RL

set_option Elab.async false
set_option linter.all false
set_option maxRecDepth 100000
set_option maxHeartbeats 4000000
/-! RLx: values of which only a property is known; tests with several answers -/
namespace RL
open PySem PySem.Spec PyProof.Rows L2
/-- an int with this property -/
abbrev inT (p : Int → Prop) : Ty := exT fun i : { i : Int // p i } => intT i.1
/-- one of these -/
abbrev oneT (Ts : List Ty) : Ty := exT fun i : Fin Ts.length => Ts[i.1]
section
variable {X : Cx} {Γ : Ctx} {e o a b c d : Expr} {es : List Expr} {T U : Ty} {Ts Us : List Ty} {pos pos2 : Pos} {x : Str} {p q r : Int → Prop}
theorem G.ofI {i : Int} (h : G X Γ e (intT i)) (hp : p i) : G X Γ e (inT p) := h.imp fun v H k => ⟨⟨i, hp⟩, k⟩
theorem G.inI (h : G X Γ e (inT p)) (k : ∀ i, p i → q i) : G X Γ e (inT q) := h.imp fun v H ⟨i, hv⟩ => ⟨⟨i.1, k _ i.2⟩, hv⟩
theorem G.ex {α : Sort u} {F : α → Ty} (z : α) (h : G X Γ e (F z)) : G X Γ e (exT F) := h.imp fun v H k => ⟨z, k⟩
theorem r_exI {g : Int → Int → Int} {C : Int → Int → Prop} (hc : ∀ i j, p i → q j → C i j ∧ r (g i j)) : ∀ x y H, inT p x H → inT q y H → ∀ Q : VK, (∀ v H', Ex H H' → inT r v H' → Q v H') → rI C (fun i j => V.int (g i j)) x y H Q := fun x y H ⟨i, hx⟩ ⟨j, hy⟩ Q k =>
  ⟨i.1, j.1, hx, hy, (hc _ _ i.2 j.2).1, k _ H (Ex.refl H) ⟨⟨_, (hc _ _ i.2 j.2).2⟩, rfl⟩⟩
theorem r_exI0 {g : Int → Int → Int} (hc : ∀ i j, p i → q j → r (g i j)) : ∀ x y H, inT p x H → inT q y H → ∀ Q : VK, (∀ v H', Ex H H' → inT r v H' → Q v H') → rI0 (fun i j => V.int (g i j)) x y H Q := fun x y H ⟨i, hx⟩ ⟨j, hy⟩ Q k =>
  ⟨i.1, j.1, hx, hy, k _ H (Ex.refl H) ⟨⟨_, hc _ _ i.2 j.2⟩, rfl⟩⟩
theorem gx_add (ha : G X Γ a (inT p)) (hb : G X Γ b (inT q)) (hc : ∀ i j, p i → q j → r (i + j)) : G X Γ (.BinOp a .Add b pos) (inT r) := g_op op_add ha hb (r_exI0 (g := fun i j => i + j) hc)
theorem gx_sub (ha : G X Γ a (inT p)) (hb : G X Γ b (inT q)) (hc : ∀ i j, p i → q j → r (i - j)) : G X Γ (.BinOp a .Sub b pos) (inT r) := g_op op_sub ha hb (r_exI0 (g := fun i j => i - j) hc)
theorem gx_mod (ha : G X Γ a (inT p)) (hb : G X Γ b (inT q)) (hc : ∀ i j, p i → q j → 0 < j ∧ r (i % j)) : G X Γ (.BinOp a .Mod b pos) (inT r) := g_op op_mod ha hb (r_exI (g := fun i j => i % j) (C := fun _ j => 0 < j) hc)
theorem gx_mul {n k : Nat} (ha : G X Γ a (inT p)) (hb : G X Γ b (inT q)) (hc : ∀ i j, p i → q j → (i.natAbs < 2 ^ n ∧ j.natAbs < 2 ^ k) ∧ r (i * j)) (hn : 0 < n := by decide) (hk : 0 < k := by decide) (h : n + k ≤ 1000000 := by decide) : G X Γ (.BinOp a .Mult b pos) (inT r) :=
  g_op op_mulW ha hb (r_exI (g := fun i j => i * j) fun i j hi hj => ⟨wide_mul (hc i j hi hj).1.1 (hc i j hi hj).1.2 hn hk h, (hc i j hi hj).2⟩)
theorem all2_2 {T0 T1 : Ty} {vs : List V} {H : Hp} (h : All2 [T0, T1] vs H) : ∃ v0 v1, vs = [v0, v1] ∧ T0 v0 H ∧ T1 v1 H := by
  match vs, h with
  | [a, b], ⟨h0, h1, _⟩ => exact ⟨a, b, rfl, h0, h1⟩
theorem all2_3 {T0 T1 T2 : Ty} {vs : List V} {H : Hp} (h : All2 [T0, T1, T2] vs H) : ∃ v0 v1 v2, vs = [v0, v1, v2] ∧ T0 v0 H ∧ T1 v1 H ∧ T2 v2 H := by
  match vs, h with
  | [a, b, c], ⟨h0, h1, h2, _⟩ => exact ⟨a, b, c, rfl, h0, h1, h2⟩
theorem all2_4 {T0 T1 T2 T3 : Ty} {vs : List V} {H : Hp} (h : All2 [T0, T1, T2, T3] vs H) : ∃ v0 v1 v2 v3, vs = [v0, v1, v2, v3] ∧ T0 v0 H ∧ T1 v1 H ∧ T2 v2 H ∧ T3 v3 H := by
  match vs, h with
  | [a, b, c, d], ⟨h0, h1, h2, h3, _⟩ => exact ⟨a, b, c, d, rfl, h0, h1, h2, h3⟩
/-! tests -/
/-- e asked for its truth says one of p -/
def GP (X : Cx) (Γ : Ctx) (e : Expr) (p : Bool → Prop) : Prop := ∀ σ H, Typed σ Γ H → ∀ Q : Bool → Hp → Prop, (∀ b H', Ex H H' → p b → Q b H') → tT X e σ H Q
theorem GT.gp {k : Bool} (h : GT X Γ e k) : GP X Γ e (· = k) := fun σ H t Q q => h σ H t _ fun H1 e1 => q k H1 e1 rfl
theorem GP.imp {p q : Bool → Prop} (h : GP X Γ e p) (k : ∀ b, p b → q b) : GP X Γ e q := fun σ H t Q w => h σ H t Q fun b H1 e1 hb => w b H1 e1 (k b hb)
theorem GP.any {p : Bool → Prop} (h : GP X Γ e p) : GP X Γ e fun _ => True := h.imp fun _ _ => trivial
theorem gp_bl {p : Bool → Prop} (h : G X Γ e T) (ht : ∀ v H, T v H → ∃ b, v = .bl b ∧ p b) (he : ∀ whole, isTrue e X.env whole = (do let v ← whole; standAt e.pos; holding [v] (truthy v)) := by intro _; rfl) : GP X Γ e p := fun σ H t Q q =>
  toT (pt_val (pe e) he) (h σ H t _ fun v H1 e1 h1 => by
    obtain ⟨b, ev, hb⟩ := ht v H1 h1
    exact ⟨b, ev, q b H1 e1 hb⟩)
theorem gp_not {p : Bool → Prop} (h : GP X Γ e p) : GP X Γ (.UnaryOp .Not e pos) fun b => p (!b) := fun σ H t Q q => toT (pt_not (pt e)) (h σ H t _ fun b H1 e1 hb => q _ H1 e1 (by simpa using hb))
theorem gp_and2 {p q : Bool → Prop} (ha : GP X Γ a p) (hb : p true → GP X Γ b q) : GP X Γ (.BoolOp .And [a, b] pos) fun r => (r = false ∧ p false) ∨ (p true ∧ q r) := fun σ H t Q w => toT (PW.pt (pw_and (pt a) (pw_and1 (pt b)))) (ha σ H t _ fun k H1 e1 hk => by
  cases k with
  | true => exact iteT (hb hk σ H1 (t.up e1) _ fun b H2 e2 hb => w b H2 (e1.trans e2) (.inr ⟨hk, hb⟩))
  | false => exact iteF (w _ H1 e1 (.inl ⟨rfl, hk⟩)))
theorem gp_or2 {p q : Bool → Prop} (ha : GP X Γ a p) (hb : p false → GP X Γ b q) : GP X Γ (.BoolOp .Or [a, b] pos) fun r => (r = true ∧ p true) ∨ (p false ∧ q r) := fun σ H t Q w => toT (PW.pt (pw_or (pt a) (pw_or1 (pt b)))) (ha σ H t _ fun k H1 e1 hk => by
  cases k with
  | true => exact iteT (w _ H1 e1 (.inl ⟨rfl, hk⟩))
  | false => exact iteF (hb hk σ H1 (t.up e1) _ fun b H2 e2 hb => w b H2 (e1.trans e2) (.inr ⟨hk, hb⟩)))
theorem gp_cmp {op : CmpOp} {r : R2} {k : Bool → Prop} (ho : OpR X (compareOp op) r) (ha : G X Γ a T) (hb : G X Γ b U) (hr : ∀ x y H, T x H → U y H → ∀ Q : VK, (∀ b, k b → Q (.bl b) H) → r x y H Q) (hm : behindInMarks op b = false := by rfl) : GP X Γ (.Compare a [op] [b] pos) k := fun σ H t Q q =>
  toT (pt_cmpR ho (pe a) (pe b) hm) (ha σ H t _ fun v H1 e1 h1 => hb σ H1 (t.up e1) _ fun u H2 e2 h2 => hr v u H2 (T.up e2 h1) h2 _ fun b hb => ⟨b, rfl, q b H2 (e1.trans e2) hb⟩)
theorem r_exB {g : Int → Int → Bool} {k : Bool → Prop} (hc : ∀ i j, p i → q j → k (g i j)) : ∀ x y H, inT p x H → inT q y H → ∀ Q : VK, (∀ b, k b → Q (.bl b) H) → rI0 (fun i j => V.bl (g i j)) x y H Q := fun x y H ⟨i, hx⟩ ⟨j, hy⟩ Q w => ⟨i.1, j.1, hx, hy, w _ (hc _ _ i.2 j.2)⟩
theorem gp_lt {k : Bool → Prop} (ha : G X Γ a (inT p)) (hb : G X Γ b (inT q)) (hc : ∀ i j, p i → q j → k (decide (i < j))) : GP X Γ (.Compare a [.Lt] [b] pos) k := gp_cmp op_lt ha hb (r_exB (g := fun i j => decide (i < j)) hc) (nomark _)
theorem gp_gt {k : Bool → Prop} (ha : G X Γ a (inT p)) (hb : G X Γ b (inT q)) (hc : ∀ i j, p i → q j → k (decide (j < i))) : GP X Γ (.Compare a [.Gt] [b] pos) k := gp_cmp op_gt ha hb (r_exB (g := fun i j => decide (j < i)) hc) (nomark _)
theorem gp_eqI {k : Bool → Prop} (ha : G X Γ a (inT p)) (hb : G X Γ b (inT q)) (hc : ∀ i j, p i → q j → k (decide (i = j))) : GP X Γ (.Compare a [.Eq] [b] pos) k := gp_cmp op_eq ha hb (fun x y H ⟨i, hx⟩ ⟨j, hy⟩ Q w => by
  have hx' : x = .int i.1 := hx
  have hy' : y = .int j.1 := hy
  subst hx'; subst hy'
  refine ⟨rfl, w _ ?_⟩
  have := hc _ _ i.2 j.2
  simpa using this) (nomark _)
/-! things[n] -/
theorem ixN_nat {n : Nat} {i : Int} (h0 : 0 ≤ i) (h : i < n) : ixN n i = some i.toNat := by
  unfold ixN
  first
    | simp only [h0, h, if_true]
    | (rw [if_pos ⟨h0, h⟩])
    | (simp [h0, h]; omega)
theorem atI_one {i : Int} (h0 : 0 ≤ i) (h : i < Ts.length) : L2.atI Ts i = some (Ts[i.toNat]'(by omega)) := by
  unfold L2.atI
  rw [ixN_nat h0 h]
  exact List.getElem?_eq_getElem _
theorem g_ixLX (ho : G X Γ o (rlT X.K Ts)) (hk : G X Γ e (inT fun i => 0 ≤ i ∧ i < Ts.length)) (hs : PlainIx e := by exact fun _ _ => rfl) : G X Γ (.Subscript o e pos) (oneT Ts) := fun σ H t Q q =>
  toE (pe_ix ix_list (pe o) (pe e) hs) (ho σ H t _ fun v H1 e1 h1 => hk σ H1 (t.up e1) _ fun w H2 e2 ⟨i, h2⟩ => by
    obtain ⟨l, vs, ev, hl, ha⟩ := (rlT X.K Ts).up e2 h1
    obtain ⟨y, hy, ty⟩ := ha.atI (atI_one i.2.1 i.2.2)
    exact ⟨l, vs, i.1, y, ev, h2, hl, hy, q y H2 (e1.trans e2) ⟨⟨i.1.toNat, by have := i.2; omega⟩, ty⟩⟩)
/-! slices, frozen at once -/
theorem All2.drop {H : Hp} : ∀ {Ts : List Ty} {vs : List V} (n : Nat), All2 Ts vs H → All2 (Ts.drop n) (vs.drop n) H
  | _, _, 0, h => h
  | [], [], _ + 1, _ => trivial
  | _ :: _, _ :: _, n + 1, ⟨_, b⟩ => All2.drop n b
  | [], _ :: _, _, h => h.elim
  | _ :: _, [], _, h => h.elim
theorem All2.take {H : Hp} : ∀ {Ts : List Ty} {vs : List V} (n : Nat), All2 Ts vs H → All2 (Ts.take n) (vs.take n) H
  | _, _, 0, _ => trivial
  | [], [], _ + 1, _ => trivial
  | _ :: _, _ :: _, n + 1, ⟨a, b⟩ => ⟨a, All2.take n b⟩
  | [], _ :: _, _, h => h.elim
  | _ :: _, [], _, h => h.elim
def cutT (Ts : List Ty) (lo hi : Option Int) : List Ty := (Ts.drop (HT.sIx Ts.length 0 lo)).take (HT.sIx Ts.length Ts.length hi - HT.sIx Ts.length 0 lo)
theorem All2.cut {H : Hp} {Ts : List Ty} {vs : List V} {lo hi : Option Int} (h : All2 Ts vs H) : All2 (cutT Ts lo hi) (cutV vs lo hi) H := by
  unfold cutT cutV
  rw [h.len]
  exact (h.drop _).take _
/-- l[:n], n of a family -/
theorem g_cutTo {α : Type} {n : α → Int} (ho : G X Γ o (rlT X.K Ts)) (hk : G X Γ e (exT fun z => intT (n z))) : G X Γ (.Subscript o (.Slice none (some e) none pos2) pos) (exT fun z => lstT (cutT Ts none (some (n z)))) := fun σ H t Q q =>
  tE_frz (toE (pe_slice sl_list (pe o) po_none (po_some (pe e))) (ho σ H t _ fun v H1 e1 h1 => hk σ H1 (t.up e1) _ fun w H2 e2 ⟨z, h2⟩ => by
    obtain ⟨l, vs, ev, hl, ha⟩ := (rlT X.K Ts).up e2 h1
    refine ⟨n z, h2, l, vs, ev, hl, fun d hd => ⟨d, _, upd_same, trivial, fun od => ?_⟩⟩
    rw [upd_upd]
    exact q _ _ ((e1.trans e2).trans (Ex.new hd)) ⟨z, d, _, rfl, ⟨od, upd_same⟩, ha.cut.up (Ex.new hd)⟩))
theorem g_cutFrom {α : Type} {n : α → Int} (ho : G X Γ o (rlT X.K Ts)) (hk : G X Γ e (exT fun z => intT (n z))) : G X Γ (.Subscript o (.Slice (some e) none none pos2) pos) (exT fun z => lstT (cutT Ts (some (n z)) none)) := fun σ H t Q q =>
  tE_frz (toE (pe_slice sl_list (pe o) (po_some (pe e)) po_none) (ho σ H t _ fun v H1 e1 h1 => hk σ H1 (t.up e1) _ fun w H2 e2 ⟨z, h2⟩ => by
    obtain ⟨l, vs, ev, hl, ha⟩ := (rlT X.K Ts).up e2 h1
    refine ⟨n z, h2, l, vs, ev, hl, fun d hd => ⟨d, _, upd_same, trivial, fun od => ?_⟩⟩
    rw [upd_upd]
    exact q _ _ ((e1.trans e2).trans (Ex.new hd)) ⟨z, d, _, rfl, ⟨od, upd_same⟩, ha.cut.up (Ex.new hd)⟩))
theorem cutT_to {n : Int} (h : 0 ≤ n) : cutT Ts none (some n) = Ts.take n.toNat := by
  have e1 : HT.sIx Ts.length 0 none = 0 := rfl
  have e2 : HT.sIx Ts.length Ts.length (some n) = min n.toNat Ts.length := by
    unfold HT.sIx
    first
      | (simp only [h, if_true]; omega)
      | (split <;> omega)
      | (simp; omega)
  unfold cutT
  rw [e1, e2, List.drop_zero, Nat.sub_zero, List.take_eq_take_iff]
  omega
theorem cutT_from {n : Int} (h : 0 ≤ n) : cutT Ts (some n) none = Ts.drop n.toNat := by
  have e1 : HT.sIx Ts.length Ts.length none = Ts.length := rfl
  have e2 : HT.sIx Ts.length 0 (some n) = min n.toNat Ts.length := by
    unfold HT.sIx
    first
      | (simp only [h, if_true]; omega)
      | (split <;> omega)
      | (simp; omega)
  unfold cutT
  rw [e1, e2]
  by_cases c : n.toNat ≤ Ts.length
  · rw [Nat.min_eq_left c, List.take_of_length_le (by rw [List.length_drop]; exact Nat.le_refl _)]
  · rw [Nat.min_eq_right (by omega), List.drop_length, List.drop_of_length_le (by omega), List.take_nil]
/-! statements -/
variable {H0 : Bs} {D : Ends} {st : Stmt} {rest body orelse : List Stmt}
theorem b_ifP {p : Bool → Prop} (hc : GP X Γ c p) (h1 : p true → Bd X Γ body H0 { D with nx := tB X rest D }) (h2 : p false → Bd X Γ orelse H0 { D with nx := tB X rest D }) : Bd X Γ (.If c body orelse pos :: rest) H0 D :=
  b_cons fun σ H e0 t => toS (ps_if (pt c) (pb body) (pb orelse)) (hc σ H t _ fun k H1 e1 hk => by
    cases k with
    | true => exact iteT (h1 hk _ _ (e0.trans e1) (t.up e1))
    | false => exact iteF (h2 hk _ _ (e0.trans e1) (t.up e1)))
/-- no else, nothing done: what follows -/
theorem b_skip (h : Bd X Γ rest H0 D) {D' : Ends} (hD : D'.nx = tB X rest D := by rfl) : Bd X Γ [] H0 D' := b_nil fun σ H e t => by rw [hD]; exact h σ H e t
/-- what a slot holds is taken apart -/
theorem b_openS {α : Sort u} {F : α → Ty} (i : Nat) (hT : Γ[i]? = some (some (exT F))) (h : ∀ z, Bd X (Γ.set i (some (F z))) rest H0 D) : Bd X Γ rest H0 D := fun σ H e t => by
  obtain ⟨v, hv, z, tz⟩ := t.get i hT
  refine h z σ H e ?_
  have hi := (List.getElem?_eq_some_iff.mp hT).1
  exact Typed.put (t.drop i) hi hv tz
/-- for x in .., what is walked of a family -/
def GIX {β : Type} (X : Cx) (Γ : Ctx) (tg iter : Expr) (Ts : β → List Ty) : Prop := ∀ σ H, Typed σ Γ H → ∀ Q : It → Hp → Prop, (∀ z J H1, Ex H H1 → Turns J H1 (Ts z) → Q J H1) → tI X tg iter σ H Q
theorem gix_list {β : Type} {Ts : β → List Ty} [hS : ∀ z, Stbs (Ts z)] {tg it : Expr} (h : G X Γ it (exT fun z => lstT (Ts z))) : GIX X Γ tg it Ts := fun σ H t Q q => toI (pi_list (pe it)) (h σ H t _ fun v H1 e1 ⟨z, a, vs, ev, hl, h2⟩ => by
  subst ev
  have up : ∀ {H'}, Le H1 H' → SqL X.K H' a vs := fun e => (hl.le e).sq
  refine ⟨a, rfl, ⟨vs, hl.sq⟩, q z _ H1 e1 fun i H' e => ⟨fun hi => ?_, fun hi => ⟨vs, up e, by rw [hi, h2.len]; exact Nat.le_refl _⟩⟩⟩
  obtain ⟨v, hv, tv⟩ := ((hS z).le e h2).get (List.getElem?_eq_getElem hi)
  refine ⟨⟨vs, v, up e, hv⟩, fun x H2 hy => ?_⟩
  obtain ⟨eH, hx⟩ := hy
  subst eH
  have hx' := hx vs (up e)
  rw [hv] at hx'; cases hx'
  exact ⟨Ex.refl _, _, List.getElem?_eq_getElem hi, tv⟩)
theorem b_forX {β : Type} {Ts : β → List Ty} {it tg : Expr} {g : TG} (Ok : β → Nat → Ctx → Prop) (hi : GIX X Γ tg it Ts) (hg : PG X tg g) (h0 : ∀ z, Ok z 0 Γ)
    (hs : ∀ z (H1 : Hp) (i : Nat) (T : Ty) (Δ : Ctx), H0.ok H1 → (Ts z)[i]? = some T → Ok z i Δ → ∃ Δ2, Tgt g T Δ Δ2 ∧ Bd X Δ2 body (H0.at H1) (turnD D X rest (H0.at H1) (Ok z (i + 1))))
    (hd : ∀ z Δ, Ok z (Ts z).length Δ → Bd X Δ rest H0 D) (hc : X.calm = true := by rfl) (hp : PassesOwn (model X.prog X.w) X.A X.env X.xe := by exact PassesOwn.never) (hf : ∀ x, foldedSetIterable it X.env x = pure x := by intro _; rfl) : Bd X Γ (.For tg it body [] pos :: rest) H0 D :=
  b_cons fun σ H e0 t => toS (ps_for hp hc pi hg (pb body) hf) (hi σ H t _ fun z J H1 e1 tn => by
    have b1 : H0.ok H1 := Bs.up e0 e1
    refine ⟨fun i m σ H => i ≤ (Ts z).length ∧ m = (Ts z).length - i ∧ ∃ Δ, Ok z i Δ ∧ (H0.at H1).ok H ∧ Typed σ Δ H, ⟨_, Nat.zero_le _, rfl, Γ, h0 z, Bs.here b1, t.up e1⟩, ?_⟩
    rintro i m σ H ⟨hi, rfl, Δ, ok, e2, t2⟩
    obtain ⟨t3, t4⟩ := tn i H e2.2
    by_cases c : i < (Ts z).length
    · obtain ⟨go, yl⟩ := t3 c
      refine .inr ⟨go, fun σ H => ∃ Δ, Ok z (i + 1) Δ ∧ (H0.at H1).ok H ∧ Typed σ Δ H, fun σ' H' h => ⟨(Ts z).length - (i + 1), by omega, by omega, rfl, h⟩, fun x H' hy => ?_⟩
      obtain ⟨e3, T, hT, hx⟩ := yl x H' hy
      obtain ⟨Δ2, tg, bd⟩ := hs z H1 i T Δ b1 hT ok
      exact tg x σ H' _ hx (t2.up e3) fun σ2 t3 => bd σ2 H' (Bs.up e2 e3) t3
    · have hi' : i = (Ts z).length := by omega
      refine .inl ⟨t4 hi', ?_⟩
      rw [hi'] at ok
      exact hd z Δ ok σ H (Bs.back b1 e2) t2)
/-- a, b, c = a list of three -/
theorem tgtl3 {K : PySem.W.Frag} {i j l : Nat} {Δ : Ctx} {T1 T2 T3 : Ty} : Tgt (gLst K 3 (gCons (gName i) (gCons (gName j) (gCons (gName l) gNil)))) (lstT [T1, T2, T3]) Δ (((Δ.set i (some T1)).set j (some T2)).set l (some T3)) := fun v σ H Q h t q => by
  obtain ⟨a, vs, ev, ht, h2⟩ := h
  match vs, h2 with
  | [v1, v2, v3], ⟨h1, h2, h3, _⟩ => exact ⟨a, _, ev, ht.sq, rfl, _, _, rfl, _, _, rfl, _, _, rfl, rfl, q _ (((t.set i h1).set j h2).set l h3)⟩
theorem b_asgT {tg : Expr} {g : TG} {Δ : Ctx} (hg : PG X tg g) (he : G X Γ e T) (ht : Tgt g T Γ Δ) (h : Bd X Δ rest H0 D) (hs : swapsWithSole [tg] e pos.line X.env = pure false := by rfl) (hw : swappedStores [tg] e X.env = pure none := by rfl)
    (h1 : (assignEach [tg] X.env).map (·.2) = [assign tg X.env] := by rfl) : Bd X Γ (.Assign [tg] e pos :: rest) H0 D :=
  b_cons fun σ H e0 t => toS (ps_asg (pe e) hg hs hw h1) (he σ H t _ fun v1 H1 e1 hv => ht v1 σ H1 _ hv (t.up e1) fun σ2 t2 => h σ2 H1 (e0.trans e1) t2)
end
end RL
namespace RL
open PySem PySem.Spec PyProof.Rows L2
section
variable {X : Cx} {Γ : Ctx} {e o a b c d : Expr} {es : List Expr} {T U : Ty} {Ts Us : List Ty} {pos pos2 p : Pos} {x : Str} {α : Type} {A : α → List Ty} {R : α → Ty} {k : Nat} {ps : List Str}
/-- a call whose arguments are some of the promise's -/
theorem g_callE {T' : Ty} (C : α → Prop) (F : FnG X.prog X.w X.K X.mg X.base k x ps (spG A R)) (hr : Room k X.A) (ha : GA X Γ (e :: es) Ts) (hT : ∀ vs H, All2 Ts vs H → ∃ i, All2 (A i) vs H ∧ C i) (hR : ∀ i, C i → ∀ v H, R i v H → T' v H)
    (hg : Gl X x := by rfl) (hdb : (x == ("__debug__" : Str)) = false := by decide) (he : starEach (e :: es) X.env = (false, eval e X.env) :: starEach es X.env := by first | exact se_cons rfl | exact se_one rfl | exact se_two rfl rfl | rfl) (hpl : (backTo pos (starEach es X.env)).any (·.1) = false := by first | exact se_any rfl | rfl) :
    G X Γ (.Call (.Name x p) (e :: es) [] pos) T' := fun σ H t Q q => by
  obtain ⟨f, fd, F, hm, hk, hb⟩ := F.ex
  refine toE (pe_call F hr hg hm hk hb .nil pass0 (pa _) hdb he hpl) (ha σ H t _ fun vs H1 e1 h1 => ?_)
  rw [List.append_nil]
  obtain ⟨i, hi, ci⟩ := hT _ _ h1
  exact ⟨i, hi, fun v H2 e2 h2 => q v H2 (e1.trans e2) (hR i ci v H2 h2)⟩
/-- list(l), a new list frozen at once -/
theorem g_listL {β : Type} {Ts : β → List Ty} (h : G X Γ e (exT fun z => lstT (Ts z))) (hm : X.mg "list" = none) (hg : Gl X "list" := by rfl) (he : starEach [e] X.env = (false, eval e X.env) :: starEach [] X.env := by first | exact se_cons rfl | exact se_one rfl | exact se_two rfl rfl | rfl) : G X Γ (.Call (.Name "list" p) [e] [] pos) (exT fun z => lstT (Ts z)) := fun σ H t Q q =>
  tE_frz (toE (pe_callTy call_list_of hg hm (by decide +kernel) (pa_cons (pe e) pa_nil he) (he := he)) (h σ H t _ fun v H1 e1 ⟨z, l, vs, ev, hf, h2⟩ => ⟨l, vs, by rw [ev], .inl hf.sq, fun d hd => ⟨d, _, upd_same, trivial, fun od => by
    rw [upd_upd]
    exact q _ _ (e1.trans (Ex.new hd)) ⟨z, d, vs, rfl, ⟨od, upd_same⟩, h2.up (Ex.new hd)⟩⟩⟩))
theorem one_in {ns : List Int} {p : Int → Prop} (h : ∀ n ∈ ns, p n) {v : V} {H : Hp} (hv : oneT (ns.map fun z => intT z) v H) : inT p v H := by
  obtain ⟨⟨i, hi⟩, hv⟩ := hv
  have hi' : i < ns.length := by simpa using hi
  refine ⟨⟨ns[i], h _ (List.getElem_mem hi')⟩, ?_⟩
  simpa using hv
theorem G.one {F : Unit → Ty} (h : G X Γ e (exT F)) : G X Γ e (F ()) := h.imp fun v H ⟨_, k⟩ => k
theorem G.un (h : G X Γ e T) : G X Γ e (exT fun _ : Unit => T) := h.imp fun v H k => ⟨(), k⟩
/-- sorted(l), l a frozen list of ints -/
theorem g_sortedL {ks : List Int} (h : G X Γ e (lstT (ks.map fun z => intT z))) (hm : X.mg "sorted" = none) (ys : List Int) (hy : ∀ zs : List Int, zs.Perm ks → zs.Pairwise (· ≤ ·) → zs = ys) (hg : Gl X "sorted" := by rfl) (he : starEach [e] X.env = (false, eval e X.env) :: starEach [] X.env := by first | exact se_cons rfl | exact se_one rfl | exact se_two rfl rfl | rfl) :
    G X Γ (.Call (.Name "sorted" p) [e] [] pos) (lstT (ys.map fun z => intT z)) :=
  g_callBL cr_sortedI hm (by decide +kernel) (ga_cons h ga_nil he) (fun vs H h2 Q q => by
    obtain ⟨v, ev, a, ws, e2, f, h3⟩ := one2 h2
    subst ev; subst e2
    have z : ws = ks.map V.int := All2.vals (H := H) (by rw [List.map_map]; exact h3)
    subst z
    refine ⟨a, ks, rfl, f.sq, fun zs p hp hs hn => ?_⟩
    rw [hy zs hp hs]
    exact q _ p hn (by have z := All2.of_vals (H := H) (ws := ys.map V.int); rwa [List.map_map] at z)) hg (he := he)
end
end RL
namespace RL
open PySem PySem.Spec PyProof.Rows L2
section
variable {X : Cx} {Γ : Ctx} {e o k c : Expr} {T U : Ty} {Ts : List Ty} {pos p p2 p3 p4 : Pos} {x : Str} {kvs : List (Key × V)} {H0 : Bs} {D : Ends} {rest : List Stmt} {i : Nat} {a : Addr}
/-- x[k] = e, e of a family -/
theorem b_dputX {β : Sort u} {F : β → V} (i : Nat) {kk : Key} (hT : Γ[i]? = some (some (mdT a kvs))) (hk : G X Γ k (valT (kV kk))) (he : G X Γ e (exT fun z => valT (F z))) (ha : H0.e a = none) (hl : kvs.length < sizeLine) (hS : StbC a (Γ.set i none)) (hu : X.A.units + 1 < cLine)
    (h : ∀ z, Bd X (Γ.set i (some (mdT a (putK kvs kk (F z))))) rest H0 D) {p' : Pos} (hN : X.N[i]? = some x := by rfl) (hv : Vis X.env.scope x := by first | exact Or.inl rfl | exact Or.inr (Or.inl rfl) | exact Or.inr (Or.inr rfl)) (hd : (x == ("__debug__" : Str)) = false := by decide) (hcd : (x == ("__classdict__" : Str)) = false := by decide)
    (hs : swapsWith e (some (.Subscript (.Name x p2) k p')) pos.line X.env = pure false := by rfl) : Bd X Γ (.Assign [.Subscript (.Name x p2) k p'] e pos :: rest) H0 D :=
  b_cons fun σ H e0 t => toS (ps_dput hu (pe_var (i := i) hN hv hd hcd) (pe k) (pe e) hs) (he σ H t _ fun v1 H1 e1 ⟨z, h1⟩ => by
    obtain ⟨w, hw, ew, hH⟩ := (t.up e1).get i hT
    refine ⟨w, hw, hk σ H1 (t.up e1) _ fun y H2 e2 h2 => ?_⟩
    have h1' : v1 = F z := h1
    have h2' : y = kV kk := h2
    subst h1'; subst h2'
    have hH2 := e2 _ _ hH
    refine ⟨a, _, ew, DPut.k hH2 hl, h z _ _ ((e0.trans (e1.trans e2)).mut ha hH2 trivial) (Typed.put (((t.up (e1.trans e2)).drop i).mut hS hH2 trivial) ?_ hw ⟨ew, upd_same⟩)⟩
    exact (List.getElem?_eq_some_iff.mp hT).1)
end
end RL

set_option Elab.async false
set_option linter.all false
set_option maxRecDepth 100000
set_option maxHeartbeats 4000000
/-! RLtxt: texts, tuples, lists of data -/
namespace RL
open PySem PySem.Spec PyProof.Rows L2
section
variable {X : Cx} {Γ : Ctx} {e o a b c d : Expr} {es : List Expr} {T U : Ty} {Ts Us : List Ty} {pos p p2 pos2 apos : Pos} {x : Str}
/-! texts -/
theorem g_addS {y z : Str} (ha : G X Γ a (strT y)) (hb : G X Γ b (strT z)) (hz : y.length + z.length ≤ sizeLine) : G X Γ (.BinOp a .Add b pos) (strT (y ++ z)) := g_op op_add_str ha hb (fun v w H hv hw Q q => ⟨y, z, hv, hw, hz, q _ H (Ex.refl H) rfl⟩)
theorem g_strI {i : Int} (h : G X Γ e (intT i)) (hi : i.natAbs.log2 < 1920) (hm : X.mg "str" = none) (hg : Gl X "str" := by rfl) (he : starEach [e] X.env = (false, eval e X.env) :: starEach [] X.env := by exact se_cons rfl) : G X Γ (.Call (.Name "str" p) [e] [] pos) (strT (toString i)) :=
  g_callTy call_str_int hm (by decide +kernel) (ga_cons h ga_nil he) (fun vs H h2 Q q => ⟨i, vals1' h2, hi, q _ H (Ex.refl H) rfl⟩) hg (he := he)
theorem g_absI {i : Int} (h : G X Γ e (intT i)) (hm : X.mg "abs" = none) (hg : Gl X "abs" := by rfl) (he : starEach [e] X.env = (false, eval e X.env) :: starEach [] X.env := by exact se_cons rfl) : G X Γ (.Call (.Name "abs" p) [e] [] pos) (intT (if i < 0 then -i else i)) :=
  g_callB call_abs hm (by decide +kernel) (ga_cons h ga_nil he) (fun vs H h2 Q q => ⟨i, vals1' h2, q _ H (Ex.refl H) rfl⟩) hg (he := he)
theorem g_fmtS {y : Str} (h : G X Γ e (strT y)) (hz : y.length ≤ sizeLine) : G X Γ (.FormattedValue e (-1) none pos) (strT y) := fun σ H t Q q => toE (pe_fmt (pe e)) (h σ H t _ fun v H1 e1 h1 => .inl ⟨y, h1, hz, q _ H1 e1 rfl⟩)
theorem g_fmtI {i : Int} (h : G X Γ e (intT i)) (hi : i.natAbs.log2 < 1920) : G X Γ (.FormattedValue e (-1) none pos) (strT (toString i)) := fun σ H t Q q => toE (pe_fmt (pe e)) (h σ H t _ fun v H1 e1 h1 => .inr ⟨i, h1, hi, q _ H1 e1 rfl⟩)
/-- the parts of an f-text -/
def GJ (X : Cx) (Γ : Ctx) (es : List Expr) (xs : List Str) : Prop := ∃ ts, PJ X es ts ∧ ∀ σ H, Typed σ Γ H → ∀ (acc : Str) (Q : Str → Hp → Prop), acc.length + (xs.map Str.length).sum ≤ sizeLine → (∀ H', Ex H H' → Q (xs.foldl (· ++ ·) acc) H') → tJs ts acc σ H Q
theorem gj_nil : GJ X Γ [] [] := ⟨[], .nil, fun σ H t acc Q hz q => q H (Ex.refl H)⟩
theorem str_len_append (y z : Str) : (y ++ z).length = y.length + z.length := by
  show (y.cps ++ z.cps).size = y.cps.size + z.cps.size
  exact Array.size_append
theorem gj_cons {y : Str} {xs : List Str} (h : G X Γ e (strT y)) (r : GJ X Γ es xs) : GJ X Γ (e :: es) (y :: xs) := by
  obtain ⟨ts, h1, h2⟩ := r
  refine ⟨tE X e :: ts, .cons (pe e) h1, fun σ H t acc Q hz q => ?_⟩
  rw [List.map_cons, List.sum_cons] at hz
  refine h σ H t _ fun v H1 e1 hv => ⟨y, hv, by rw [str_len_append]; omega, h2 σ H1 (t.up e1) (acc ++ y) Q (by rw [str_len_append]; omega) fun H2 e2 => q H2 (e1.trans e2)⟩
theorem g_joined {e2 : Expr} {xs : List Str} {r : Str} (h : GJ X Γ (e :: e2 :: es) xs) (hz : (xs.map Str.length).sum ≤ sizeLine) (hR : xs.foldl (· ++ ·) Str.empty = r := by rfl) : G X Γ (.JoinedStr (e :: e2 :: es) pos) (strT r) := fun σ H t Q q => by
  obtain ⟨ts, h1, h2⟩ := h
  refine toE (pe_joined h1) (h2 σ H t Str.empty _ (by show 0 + _ ≤ _; omega) fun H' e' => q _ H' e' ?_)
  rw [hR]
  rfl
/-- sep.join(l), l a frozen list of texts, a tuple of texts -/
theorem g_join {sep : Str} {ys : List Str} (ho : G X Γ o (strT sep)) (ha : G X Γ e (lstT (ys.map fun z => strT z))) (hz : (ys.map (·.length)).sum + ys.length * sep.length ≤ 16777216)
    (hbase : attributeBase o "join" X.env (eval o X.env) = eval o X.env := by rfl)
    (hfew : ((backTo pos (starEach [e] X.env)).all (fun x => !x.1) && (backToKw pos (keywordEach [] X.env)).all (fun x => x.1.isSome)
      && decide ([e].length + ([] : List Keyword).length + (if ([] : List Keyword).isEmpty then 0 else 1) < 30)) = true := by first | rfl | (rw [se_one rfl]; rfl))
    (hline : (apos.endLine == pos.line) = true := by rfl) (hs : starEach [e] X.env = (false, eval e X.env) :: starEach [] X.env := by exact se_cons rfl) :
    G X Γ (.Call (.Attribute o "join" apos) [e] [] pos) (strT (Txt.join sep ys)) := fun σ H t Q q =>
  toE (pe_bm PySem.F.plainAttrs_str PySem.F.slot_str_join PySem.F.type_str_join mt_join (pe o) (pa [e]) hbase hfew hline hs (se_any rfl)) (ho σ H t _ fun v H1 e1 h1 => by
    have h1' : v = .str sep := h1
    subst h1'
    refine ⟨rfl, ga_cons ha ga_nil hs σ H1 (t.up e1) _ fun vs H2 e2 h2 => ?_⟩
    obtain ⟨u, rfl, l, ws, rfl, hl, h3⟩ := one2 h2
    have z : ws = ys.map V.str := All2.vals (H := H2) (by rw [List.map_map]; exact h3)
    subst z
    exact ⟨sep, l, ys, rfl, rfl, .inl hl.sq, hz, q _ H2 (e1.trans e2) rfl⟩)
theorem g_joinT {sep : Str} {ys : List Str} (ho : G X Γ o (strT sep)) (ha : G X Γ e (tupT X.K (ys.map fun z => strT z))) (hz : (ys.map (·.length)).sum + ys.length * sep.length ≤ 16777216)
    (hbase : attributeBase o "join" X.env (eval o X.env) = eval o X.env := by rfl)
    (hfew : ((backTo pos (starEach [e] X.env)).all (fun x => !x.1) && (backToKw pos (keywordEach [] X.env)).all (fun x => x.1.isSome)
      && decide ([e].length + ([] : List Keyword).length + (if ([] : List Keyword).isEmpty then 0 else 1) < 30)) = true := by first | rfl | (rw [se_one rfl]; rfl))
    (hline : (apos.endLine == pos.line) = true := by rfl) (hs : starEach [e] X.env = (false, eval e X.env) :: starEach [] X.env := by exact se_cons rfl) :
    G X Γ (.Call (.Attribute o "join" apos) [e] [] pos) (strT (Txt.join sep ys)) := fun σ H t Q q =>
  toE (pe_bm PySem.F.plainAttrs_str PySem.F.slot_str_join PySem.F.type_str_join mt_join (pe o) (pa [e]) hbase hfew hline hs (se_any rfl)) (ho σ H t _ fun v H1 e1 h1 => by
    have h1' : v = .str sep := h1
    subst h1'
    refine ⟨rfl, ga_cons ha ga_nil hs σ H1 (t.up e1) _ fun vs H2 e2 h2 => ?_⟩
    obtain ⟨u, rfl, l, ws, rfl, hl, h3⟩ := one2 h2
    have z : ws = ys.map V.str := All2.vals (H := H2) (by rw [List.map_map]; exact h3)
    subst z
    exact ⟨sep, l, ys, rfl, rfl, .inr hl.sq, hz, q _ H2 (e1.trans e2) rfl⟩)
/-! tuples -/
/-- t[lo:hi] -/
theorem g_cutT {te : Option Expr} {to : Option Expr} {lo hi : Option Int} {tl th : TO} (ho : G X Γ o (tupT X.K Ts)) (hl : PO X te tl) (hh : PO X to th) (h1 : ∀ σ H, Typed σ Γ H → ∀ Q : Option Int → Hp → Prop, (∀ H', Ex H H' → Q lo H') → tl σ H Q) (h2 : ∀ σ H, Typed σ Γ H → ∀ Q : Option Int → Hp → Prop, (∀ H', Ex H H' → Q hi H') → th σ H Q) {T' : Ty} (hR : tupT X.K (cutT Ts lo hi) = T' := by rfl) :
    G X Γ (.Subscript o (.Slice te to none pos2) pos) T' := hR ▸ fun σ H t Q q =>
  toE (pe_slice sl_tupA (pe o) hl hh) (ho σ H t _ fun v H1 e1 k1 => h1 σ H1 (t.up e1) _ fun H2 e2 => h2 σ H2 (t.up (e1.trans e2)) _ fun H3 e3 => by
    obtain ⟨l, vs, ev, hp, ha⟩ := (tupT X.K Ts).up (e2.trans e3) k1
    subst ev
    refine ⟨l, vs, rfl, hp.sq, fun hw => ?_, fun hw d hd => ?_⟩
    · refine q _ H3 (e1.trans (e2.trans e3)) ⟨l, vs, rfl, hp, ?_⟩
      have h := ha.cut (lo := lo) (hi := hi)
      have hz : cutV vs lo hi = vs := by
        unfold cutV
        rw [hw.1, hw.2, List.drop_zero, Nat.sub_zero, List.take_length]
      rwa [hz] at h
    · exact q _ _ ((e1.trans (e2.trans e3)).trans (Ex.new hd)) ⟨d, _, rfl, .inl upd_same, ha.cut.up (Ex.new hd)⟩)
theorem g_cutFromT {n : Int} (ho : G X Γ o (tupT X.K Ts)) (hk : G X Γ e (intT n)) (hn : 0 ≤ n) {T' : Ty} (hR : tupT X.K (Ts.drop n.toNat) = T' := by rfl) : G X Γ (.Subscript o (.Slice (some e) none none pos2) pos) T' :=
  g_cutT (lo := some n) (hi := none) ho (po_some (pe e)) po_none (fun σ H t Q q => hk σ H t _ fun v H1 e1 h1 => ⟨n, h1, q H1 e1⟩) (fun σ H t Q q => q H (Ex.refl H)) (by rw [cutT_from hn]; exact hR)
theorem g_cutToT {n : Int} (ho : G X Γ o (tupT X.K Ts)) (hk : G X Γ e (intT n)) (hn : 0 ≤ n) {T' : Ty} (hR : tupT X.K (Ts.take n.toNat) = T' := by rfl) : G X Γ (.Subscript o (.Slice none (some e) none pos2) pos) T' :=
  g_cutT (lo := none) (hi := some n) ho po_none (po_some (pe e)) (fun σ H t Q q => q H (Ex.refl H)) (fun σ H t Q q => hk σ H t _ fun v H1 e1 h1 => ⟨n, h1, q H1 e1⟩) (by rw [cutT_to hn]; exact hR)
theorem g_addT (ha : G X Γ a (tupT X.K Ts)) (hb : G X Γ b (tupT X.K Us)) (hz : Ts.length + Us.length ≤ sizeLine) : G X Γ (.BinOp a .Add b pos) (tupT X.K (Ts ++ Us)) := g_op op_catA ha hb (fun v w H hv hw Q q => by
  obtain ⟨l, vs, rfl, hl, h1⟩ := hv
  obtain ⟨m, ws, rfl, hm, h2⟩ := hw
  refine ⟨l, m, vs, ws, rfl, rfl, hl.sq, hm.sq, by rw [← h1.len, ← h2.len]; exact hz, fun e => ?_, fun e1 e2 => ?_, fun e1 e2 d hd => ?_⟩
  · refine q _ H (Ex.refl H) ⟨m, ws, rfl, hm, ?_⟩
    subst e
    have := h1.len
    have e : Ts = [] := List.length_eq_zero_iff.mp this
    rw [e]
    exact h2
  · refine q _ H (Ex.refl H) ⟨l, vs, rfl, hl, ?_⟩
    subst e2
    have e : Us = [] := List.length_eq_zero_iff.mp h2.len
    rw [e, List.append_nil]
    exact h1
  · exact q _ _ (Ex.new hd) ⟨d, _, rfl, .inl upd_same, (h1.append h2).up (Ex.new hd)⟩)
/-- tuple(l) -/
theorem g_tupleL {α : Sort u} {Ts : α → List Ty} (h : G X Γ e (exT fun z => lstT (Ts z))) (hm : X.mg "tuple" = none) (hg : Gl X "tuple" := by rfl) (he : starEach [e] X.env = (false, eval e X.env) :: starEach [] X.env := by exact se_cons rfl) : G X Γ (.Call (.Name "tuple" p) [e] [] pos) (exT fun z => tupT X.K (Ts z)) :=
  g_callTy call_tuple_of hm (by decide +kernel) (ga_cons h ga_nil he) (fun vs H h2 Q q => by
    obtain ⟨v, rfl, z, l, ws, rfl, hl, h3⟩ := one2 h2
    exact ⟨l, ws, rfl, .inl ⟨hl.sq, fun d hd => q _ _ (Ex.new hd) ⟨z, d, ws, rfl, .inl upd_same, h3.up (Ex.new hd)⟩⟩⟩) hg (he := he)
/-- list(t), t a tuple -/
theorem g_listT (h : G X Γ e (tupT X.K Ts)) (hm : X.mg "list" = none) (hg : Gl X "list" := by rfl) (he : starEach [e] X.env = (false, eval e X.env) :: starEach [] X.env := by exact se_cons rfl) : G X Γ (.Call (.Name "list" p) [e] [] pos) (lstT Ts) := fun σ H t Q q =>
  tE_frz (toE (pe_callTy call_list_of hg hm (by decide +kernel) (pa_cons (pe e) pa_nil he) (he := he)) (h σ H t _ fun v H1 e1 ⟨l, vs, ev, hf, h2⟩ => ⟨l, vs, by rw [ev], .inr hf.sq, fun d hd => ⟨d, _, upd_same, trivial, fun od => by
    rw [upd_upd]
    exact q _ _ (e1.trans (Ex.new hd)) ⟨d, vs, rfl, ⟨od, upd_same⟩, h2.up (Ex.new hd)⟩⟩⟩))
/-! in, not in -/
/-- x in (.., ..), texts -/
theorem g_inS {y : Str} {zs : List Str} (ha : G X Γ a (strT y)) (hb : G X Γ b (tupT X.K (zs.map fun z => strT z))) (hm : behindInMarks .In b = false := by rfl) : GT X Γ (.Compare a [.In] [b] pos) (zs.any fun z => z == y) :=
  gt_cmp op_in_seq ha hb (fun v w H hv hw Q q => by
    obtain ⟨l, ws, rfl, hl, h3⟩ := hw
    have z : ws = zs.map V.str := All2.vals (H := H) (by rw [List.map_map]; exact h3)
    subst z
    have hv' : v = .str y := hv
    subst hv'
    refine ⟨l, _, rfl, .inr hl.sq, rfl, by rw [List.all_map]; exact List.all_eq_true.mpr fun _ _ => rfl, q _ H (Ex.refl H) ?_⟩
    show V.bl (L2.inV _ _) = V.bl _
    unfold L2.inV
    rw [List.any_map]
    rfl) hm
theorem g_inSL {y : Str} {zs : List Str} (ha : G X Γ a (strT y)) (hb : G X Γ b (lstT (zs.map fun z => strT z))) (hm : behindInMarks .In b = false := by rfl) : GT X Γ (.Compare a [.In] [b] pos) (zs.any fun z => z == y) :=
  gt_cmp op_in_seq ha hb (fun v w H hv hw Q q => by
    obtain ⟨l, ws, rfl, hl, h3⟩ := hw
    have z : ws = zs.map V.str := All2.vals (H := H) (by rw [List.map_map]; exact h3)
    subst z
    have hv' : v = .str y := hv
    subst hv'
    refine ⟨l, _, rfl, .inl hl.sq, rfl, by rw [List.all_map]; exact List.all_eq_true.mpr fun _ _ => rfl, q _ H (Ex.refl H) ?_⟩
    show V.bl (L2.inV _ _) = V.bl _
    unfold L2.inV
    rw [List.any_map]
    rfl) hm
theorem gt_eqS {y z : Str} (ha : G X Γ a (strT y)) (hb : G X Γ b (strT z)) : GT X Γ (.Compare a [.Eq] [b] pos) (decide (y = z)) := (gt_cmp op_eq ha hb (r_Eq rfl) (nomark _)).is (by simp)
theorem gt_neS {y z : Str} (ha : G X Γ a (strT y)) (hb : G X Γ b (strT z)) : GT X Γ (.Compare a [.NotEq] [b] pos) (decide (y ≠ z)) :=
  gt_cmp op_ne ha hb (k := decide (y ≠ z)) (fun v w H hv hw Q q => by
    have hv' : v = .str y := hv
    have hw' : w = .str z := hw
    subst hv'; subst hw'
    refine ⟨rfl, q _ H (Ex.refl H) ?_⟩
    show V.bl _ = V.bl _
    by_cases h : y = z <;> simp [h]) (nomark _)
/-! == of data -/
theorem gt_eqD {d d' : PyData} (hu : X.A.units + 64 < cLine) (ha : G X Γ a T) (hb : G X Γ b U) (h1 : IsDp X.K T d) (h2 : IsDp X.K U d') (s1 : SeqAt.shaped d = true) (s2 : SeqAt.shaped d' = true) : GT X Γ (.Compare a [.Eq] [b] pos) (PyData.eqv d d') :=
  gt_cmp (op_eqD hu) ha hb (fun v w H hv hw Q q => ⟨d, d', h1 v H hv, h2 w H hw, s1, s2, q _ H (Ex.refl H) rfl⟩) (nomark _)
theorem gt_neD {d d' : PyData} (hu : X.A.units + 64 < cLine) (ha : G X Γ a T) (hb : G X Γ b U) (h1 : IsDp X.K T d) (h2 : IsDp X.K U d') (s1 : SeqAt.shaped d = true) (s2 : SeqAt.shaped d' = true) : GT X Γ (.Compare a [.NotEq] [b] pos) (!PyData.eqv d d') :=
  gt_cmp (op_neD hu) ha hb (fun v w H hv hw Q q => ⟨d, d', h1 v H hv, h2 w H hw, s1, s2, q _ H (Ex.refl H) rfl⟩) (nomark _)
end
end RL

set_option Elab.async false
set_option linter.all false
set_option maxRecDepth 100000
set_option maxHeartbeats 2000000
/-! RLpar: a, b = e, f with plain local names; calls with keywords; zip -/
namespace RL
open PySem PySem.Spec PyProof.Rows L2
section
variable {X : Cx} {Γ : Ctx} {e o a b c d : Expr} {es : List Expr} {T U : Ty} {Ts Us : List Ty} {pos pos2 : Pos} {x y : Str} {H0 : Bs} {D : Ends} {rest : List Stmt}
def tPar2 (i j : Nat) (ta : TA) : TS := fun D σ H => ta σ H fun vs H1 => ∃ u v, vs = [u, v] ∧ D.nx ((σ.set i (some u)).set j (some v)) H1
theorem ps_par2 {i j : Nat} {ta : TA} {px py pt : Pos} {kt k2 pt2} (hc : X.calm = true) (hN : X.N.Nodup) (hi : X.N[i]? = some x) (hj : X.N[j]? = some y) (hij : i ≠ j)
    (hx : X.env.scope.names.lookup x = some .local) (hy : X.env.scope.names.lookup y = some .local) (ha : PA X [a, b] ta)
    (hw : swappedStores [.Tuple [.Name x px, .Name y py] kt pt] (.Tuple [a, b] k2 pt2) X.env = pure (some [x, y]))
    (hs : swapsWithSole [.Tuple [.Name x px, .Name y py] kt pt] (.Tuple [a, b] k2 pt2) pos.line X.env = pure false) :
    PS X (.Assign [.Tuple [.Name x px, .Name y py] kt pt] (.Tuple [a, b] k2 pt2) pos) (tPar2 i j ta) := by
  refine ⟨fun pins s0 σ H D I0 hyp => ?_⟩
  rw [exec_Assign_arm]
  refine wpAny_bind (wpAny_standAt ?_)
  rw [hs]
  refine wpAny_bind (wpAny_pure ?_)
  rw [if_neg (by decide)]
  refine wpAny_bind (Tuple_ (thn (ha.run _ pins s0 σ H _ I0 hyp) fun us s1 ⟨vs, H1, I1, rr, v1, v2, ee, hq⟩ => ?_))
  subst ee
  obtain ⟨u1, u2, rfl, ra, rb⟩ : ∃ u1 u2, us = [u1, u2] ∧ RelV v1 u1 ∧ RelV v2 u2 := by
    cases rr with
    | cons ra rq =>
      cases rq with
      | cons rb rz =>
        cases rz
        exact ⟨_, _, rfl, ra, rb⟩
  refine wpAny_newObj_type ?_ (by show 2 ≤ sizeLine; decide)
  have J : Inv X pins σ H1 { s1 with heap := s1.heap.push { cls := .type "tuple", data := .seq [u1, u2].toArray } } := I1.kept (t' := s1.toks) fun b ob he => Heap.get?_push_of_some _ he
  rw [hw]
  refine wpAny_bind (wpAny_pure ?_)
  show wpAny (model X.prog X.w) X.A (do rule "assign.swapped-stores"; let items ← unpackItems (.ref s1.heap.objs.size) 2 none; assignInOrder [fun v => bindName X.env y v, fun v => bindName X.env x v] items.reverse; pure Flow.next) _ _ _
  refine wpAny_bind (wpAny_rule (wpAny_bind (unpackItems_tuple (items := #[u1, u2]) (I0.ok.hd hc) (IsTup.new s1.heap _) fun h' hh => ?_)))
  have J2 := J.kept (h' := h') (t' := s1.toks) fun b ob he => hh b ob (Nat.ne_of_lt (Heap.lt_size he)) he
  show wpAny _ _ (assignInOrder [fun v => bindName X.env y v, fun v => bindName X.env x v] [u2, u1] >>= fun _ => pure Flow.next) _ _ _
  refine wpAny_bind (assignInOrder_cons (wpAny_bindName (store_ok J2 hN hj (.inl hy) rb (fun s2 J3 => ?_) (.inr hy))))
  refine assignInOrder_cons (wpAny_bindName (store_ok J3 hN hi (.inl hx) ra (fun s3 J4 => assignInOrder_nil (wpAny_pure ?_)) (.inr hx)))
  rw [List.set_comm _ _ (Ne.symm hij)] at J4
  exact ⟨_, H1, J4, hq⟩
/-- x, y = e, f -/
theorem b_par2 {px py pt : Pos} {kt k2 pt2} (i j : Nat) (ha : G X Γ a T) (hb : G X Γ b U) (h : Bd X ((Γ.set i (some T)).set j (some U)) rest H0 D) (hij : i ≠ j := by decide) (hi : X.N[i]? = some x := by rfl) (hj : X.N[j]? = some y := by rfl) (hN : X.N.Nodup := by first | assumption | decide)
    (hx : X.env.scope.names.lookup x = some .local := by rfl) (hy : X.env.scope.names.lookup y = some .local := by rfl) (hc : X.calm = true := by rfl)
    (hw : swappedStores [.Tuple [.Name x px, .Name y py] kt pt] (.Tuple [a, b] k2 pt2) X.env = pure (some [x, y]) := by rfl)
    (hs : swapsWithSole [.Tuple [.Name x px, .Name y py] kt pt] (.Tuple [a, b] k2 pt2) pos.line X.env = pure false := by rfl)
    (h1 : starEach [a, b] X.env = (false, eval a X.env) :: starEach [b] X.env := by exact se_cons rfl) (h2 : starEach [b] X.env = (false, eval b X.env) :: starEach [] X.env := by exact se_cons rfl) : Bd X Γ (.Assign [.Tuple [.Name x px, .Name y py] kt pt] (.Tuple [a, b] k2 pt2) pos :: rest) H0 D :=
  b_cons fun σ H e0 t => toS (ps_par2 (i := i) (j := j) hc hN hi hj hij hx hy (RL.pa [a, b]) hw hs) (ga_cons ha (ga_cons hb ga_nil h2) h1 σ H t _ fun vs H1 e1 hv => by
    obtain ⟨v0, v1, rfl, k0, k1⟩ := all2_2 hv
    exact ⟨v0, v1, rfl, h _ _ (e0.trans e1) (((t.up e1).set i k0).set j k1)⟩)
end
end RL
namespace RL
open PySem PySem.Spec PyProof.Rows L2
theorem g_neg {X : Cx} {Γ : Ctx} {e : Expr} {i : Int} {pos : Pos} (h : G X Γ e (intT i)) : G X Γ (.UnaryOp .USub e pos) (intT (-i)) := fun σ H t Q q => toE (pe_un un_neg (pe e)) (h σ H t _ fun v H1 e1 h1 => ⟨i, h1, q _ H1 e1 rfl⟩)
end RL

set_option Elab.async false
set_option linter.all false
set_option maxRecDepth 100000
set_option maxHeartbeats 1000000
/-! SayL: sayings as values -/
namespace RL
open PySem PySem.Spec PyProof.Rows L2
abbrev PowL := List (Str × Int)
abbrev Trm := PowL × Int
abbrev Cmpn := PowL × Str × Int
inductive Way where
  | least (n : Int) | exact (n : Int) | rest (m r : Int)
inductive Say where
  | cmp (eq : Bool) (t1 t2 : Trm)
  | cnt (rows : List Cmpn) (way : Way)
  | neg (s : Say)
  | con (conj : Bool) (l : List Say)
  | qu (ex : Bool) (x : Str) (s : Say)
  | use (name : Str) (xs : List Str)
section
variable (K : PySem.W.Frag)
abbrev pwT (q : Str × Int) : Ty := tupT K [strT q.1, intT q.2]
abbrev powT (l : PowL) : Ty := tupT K (l.map (pwT K))
abbrev trmT (t : Trm) : Ty := tupT K [powT K t.1, intT t.2]
abbrev cmpnT (r : Cmpn) : Ty := tupT K [powT K r.1, strT r.2.1, intT r.2.2]
def wayTs : Way → List Ty
  | .least n => [strT "least", intT n]
  | .exact n => [strT "exact", intT n]
  | .rest m r => [strT "rest", tupT K [intT m, intT r]]
mutual
def sayT : Say → Ty
  | .cmp e t1 t2 => tupT K [strT (if e then "equal" else "divides"), trmT K t1, trmT K t2]
  | .cnt rows way => tupT K (strT "count" :: tupT K (rows.map (cmpnT K)) :: wayTs K way)
  | .neg s => tupT K [strT "not", sayT s]
  | .con c l => tupT K (strT (if c then "and" else "or") :: saysT l)
  | .qu e x s => tupT K [strT (if e then "some" else "all"), strT x, sayT s]
  | .use n xs => tupT K [strT "use", strT n, tupT K (xs.map fun z => strT z)]
def saysT : List Say → List Ty
  | [] => []
  | s :: l => sayT s :: saysT l
end
theorem saysT_map (l : List Say) : saysT K l = l.map (sayT K) := by
  induction l with
  | nil => rfl
  | cons s l ih => rw [saysT, ih, List.map_cons]
instance (w : Way) : Stbs (wayTs K w) := by cases w <;> (unfold wayTs; infer_instance)
mutual
theorem stb_say : ∀ s : Say, Stb (sayT K s)
  | .cmp e t1 t2 => by rw [sayT]; infer_instance
  | .cnt rows way => by rw [sayT]; infer_instance
  | .neg s => by
    have := stb_say s
    rw [sayT]; infer_instance
  | .con c l => by
    have := stb_says l
    rw [sayT]; infer_instance
  | .qu e x s => by
    have := stb_say s
    rw [sayT]; infer_instance
  | .use n xs => by rw [sayT]; infer_instance
theorem stb_says : ∀ l : List Say, Stbs (saysT K l)
  | [] => by rw [saysT]; infer_instance
  | s :: l => by
    have := stb_say s
    have := stb_says l
    rw [saysT]; infer_instance
end
instance (s : Say) : Stb (sayT K s) := stb_say K s
end
def Say.word : Say → Str
  | .cmp e _ _ => if e then "equal" else "divides"
  | .cnt _ _ => "count"
  | .neg _ => "not"
  | .con c _ => if c then "and" else "or"
  | .qu e _ _ => if e then "some" else "all"
  | .use _ _ => "use"
/-- what stands behind the word -/
def tailT (K : PySem.W.Frag) : Say → List Ty
  | .cmp _ t1 t2 => [trmT K t1, trmT K t2]
  | .cnt rows way => tupT K (rows.map (cmpnT K)) :: wayTs K way
  | .neg s => [sayT K s]
  | .con _ l => l.map (sayT K)
  | .qu _ x s => [strT x, sayT K s]
  | .use n xs => [strT n, tupT K (xs.map fun z => strT z)]
theorem sayT_eq (K : PySem.W.Frag) (s : Say) : sayT K s = tupT K (strT s.word :: tailT K s) := by
  cases s <;> rw [sayT] <;> first | rfl | (rw [saysT_map]; rfl)
/-! what the generators make -/
def allNames : List Str := ["x", "y", "z", "a", "ab", "b", "far", "low", "top", "m", "n", "xyz", "u", "v", "w"]
def allSigns : List Str := ["<=", ">=", "="]
def allUses : List Str := ["near", "pair", "fact", "abcdefgh"]
structure TrmOk (t : Trm) : Prop where
  few : t.1.length ≤ 3
  pw : ∀ q ∈ t.1, q.1 ∈ allNames ∧ 1 ≤ q.2 ∧ q.2 ≤ 4
  con : 1 ≤ t.2 ∧ t.2 ≤ 9
structure CmpnOk (r : Cmpn) : Prop where
  few : 1 ≤ r.1.length ∧ r.1.length ≤ 2
  pw : ∀ q ∈ r.1, q.1 ∈ allNames ∧ q.2 ≠ 0 ∧ -4 ≤ q.2 ∧ q.2 ≤ 4
  sign : r.2.1 ∈ allSigns
  bnd : -9 ≤ r.2.2 ∧ r.2.2 ≤ 9
def WayOk : Way → Prop
  | .least n => 1 ≤ n ∧ n ≤ 3
  | .exact n => 0 ≤ n ∧ n ≤ 3
  | .rest m r => 2 ≤ m ∧ m ≤ 4 ∧ 0 ≤ r ∧ r < m
inductive SayOk : Nat → Say → Prop
  | cmp {d : Nat} {e : Bool} {t1 t2 : Trm} : TrmOk t1 → TrmOk t2 → SayOk d (.cmp e t1 t2)
  | cnt {d : Nat} {rows : List Cmpn} {way : Way} : (1 ≤ rows.length ∧ rows.length ≤ 2) → (∀ r ∈ rows, CmpnOk r) → WayOk way → SayOk d (.cnt rows way)
  | neg {d : Nat} {s : Say} : SayOk d s → SayOk (d + 1) (.neg s)
  | con {d : Nat} {c : Bool} {l : List Say} : (2 ≤ l.length ∧ l.length ≤ 3) → (∀ s ∈ l, SayOk d s) → SayOk (d + 1) (.con c l)
  | qu {d : Nat} {e : Bool} {x : Str} {s : Say} : x ∈ allNames → SayOk d s → SayOk (d + 1) (.qu e x s)
  | use {d : Nat} {n : Str} {xs : List Str} : n ∈ allUses → xs.length ≤ 3 → (∀ x ∈ xs, x ∈ allNames) → SayOk d (.use n xs)
end RL

set_option Elab.async false
set_option linter.all false
set_option maxRecDepth 100000
set_option maxHeartbeats 1000000
namespace K10
open PySem PySem.Spec PyProof.Rows L2 RL StX
section
variable {P : Program} {w : World} {K : PySem.W.Frag} {mg : Str → Option Value} {base : Heap}
/-- a choice below -/
abbrev Below (n : Int) := { r : Int // 0 ≤ r ∧ r < n }
abbrev choT (n : Int) : RL.Ty := exT fun r : Below n => intT r.1
abbrev Many := { n : Int // 0 < n ∧ n < 2 ^ 100 }
theorem sc_take : FnScope ["_law_bag_here", "_law_many", "_law_cell", "_law_mixed", "_law_found"] ["_law_bag_here", "_law_many"] (defScope s__law_take) := ⟨rfl, rfl, rfl, by decide +kernel, rfl, by decide +kernel, by decide +kernel⟩
theorem mod_lt {a : Int} {n : Int} (h : 0 < n) : 0 ≤ a % n ∧ a % n < n := ⟨Int.emod_nonneg _ (by omega), Int.emod_lt_of_pos _ h⟩
theorem bag_list {b row : Addr} {cells : List Int} {z : BagS} {v : V} {H : Hp} (h : mlT b (bagTs row cells z) v H) : H b = some (bagL row z) := by
  obtain ⟨_, vs, hb, h2⟩ := h
  obtain ⟨v0, v1, v2, v3, rfl, ⟨h0, _⟩, h1, h2, h3⟩ := all2_4 h2
  have h1' : v1 = V.int z.i := h1
  have h2' : v2 = V.int z.c := h2
  have h3' : v3 = V.int z.m := h3
  subst h0; subst h1'; subst h2'; subst h3'
  exact hb
/-- what is chosen, the bag closed behind it -/
theorem b_chosen {X : Cx} {Γ : RL.Ctx} {e : Expr} {b row : Addr} {cells : List Int} {z : BagS} {n r : Int} {H : Hp} {B : Bs} {D : Ends} {rest : List Stmt} {pos : Pos} {Q : VK} (hB : B.e = hide b H) (hb : H b = some (bagH b row)) (hz : z.ok) (h0 : Γ[0]? = some (some (mlT b (bagTs row cells z))))
    (he : G X Γ e (intT r)) (hr : 0 ≤ r ∧ r < n) (hD : D.rt = Q) (q : ∀ v H', Ex H H' → choT n v H' → Q v H') : Bd X Γ (.Return (some e) pos :: rest) B D :=
  b_retR he fun σ v H' ok t hv => by
    obtain ⟨v0, _, hv0⟩ := t.get 0 h0
    refine ⟨b, _, bagH b row, bag_list hv0, ⟨trivial, bag_close hz⟩, ?_⟩
    rw [hD]
    exact q _ _ (unhide (by rw [← hB]; exact ok.1) hb) ⟨⟨r, hr⟩, hv⟩
theorem f_take (T : Tx fa fn ex K mg) : FnG P w K mg base 1 "_law_take" ["_law_bag_here", "_law_many"] (spG (fun n : Many => [bagT, intT n.1]) fun n => choT n.1) := by
  refine T.fn d__law_take i__law_take "_law_take" rfl q_glo__law_take rfl (fun _ _ _ _ _ _ us hl => match us, hl with | [_, _], _ => rfl) fun f fd F => ?_
  refine fn_sp F sc_take (fun vs H Q E ⟨a, h2, _⟩ => h2.len.symm) fun cdv Ar outer s H vs Q E hr ⟨n, h2, q⟩ => ?_
  have nd : (BX P w K mg base ["_law_bag_here", "_law_many", "_law_cell", "_law_mixed", "_law_found"] d__law_take.qual d__law_take.scope f cdv Ar outer s H E).N.Nodup := by
    show List.Nodup [_, _, _, _, _]
    decide +kernel
  obtain ⟨n, hn0, hn1⟩ := n
  obtain ⟨v, y, rfl, ⟨b, row, cells, ev, hb, hrow⟩, hy⟩ := all2_2 h2
  · skip
    have hy' : y = V.int n := hy
    subst ev; subst hy'
    refine tB_open (u := fun z : { z : BagS // z.ok } => bagL row z.1) hb bag_open fun z => ?_
    obtain ⟨z, hz⟩ := z
    have hne : row ≠ b := fun e => by
      obtain ⟨o, h⟩ := hrow
      rw [e, hb] at h; cases h
    have t0 : Typed (L2.start ["_law_bag_here", "_law_many", "_law_cell", "_law_mixed", "_law_found"] [.ref b, .int n]) (ctx0 ["_law_bag_here", "_law_many", "_law_cell", "_law_mixed", "_law_found"] [mlT b (bagTs row cells z), intT n]) (upd H b (bagL row z)) :=
      typed0 ⟨⟨rfl, _, upd_same, ⟨⟨rfl, by obtain ⟨o, h⟩ := hrow; exact ⟨o, by rw [upd_ne hne]; exact h⟩⟩, rfl, rfl, rfl, trivial⟩⟩, rfl, trivial⟩
    suffices hB : Bd (BX P w K mg base ["_law_bag_here", "_law_many", "_law_cell", "_law_mixed", "_law_found"] d__law_take.qual d__law_take.scope f cdv Ar outer s H E) (ctx0 ["_law_bag_here", "_law_many", "_law_cell", "_law_mixed", "_law_found"] [mlT b (bagTs row cells z), intT n]) (defBody s__law_take) ⟨hide b H, upd H b (bagL row z)⟩ { nx := fun _ H' => Q .non H', rt := Q } from hB _ _ ⟨hide_ex, Le.refl _⟩ t0
    have hint := T.free _ q_free_int
    have hlen := T.free _ q_free_len
    have he : (⟨hide b H, upd H b (bagL row z)⟩ : Bs).e b = none := hide_none
    generalize hB : (⟨hide b H, upd H b (bagL row z)⟩ : Bs) = B at he
    have hBe : B.e = hide b H := by rw [← hB]
    -- behind the first if
    have fin : ∀ z : BagS, z.ok → Bd (BX P w K mg base ["_law_bag_here", "_law_many", "_law_cell", "_law_mixed", "_law_found"] d__law_take.qual d__law_take.scope f cdv Ar outer s H E) [some (mlT b (bagTs row cells z)), some (intT n), none, none, none] ((defBody s__law_take).drop 1) B { nx := fun _ H' => Q .non H', rt := Q } := fun z hz => by
      obtain ⟨z0, z1, z2, z3⟩ := hz
      refine b_if (gt_gt (g_ixL (T := intT z.c) (g_var 0).rlm g_int) g_int) (fun h => ?_) fun h => b_nil fun σ H1 e1 t1 => Bd.nx ?_ σ H1 e1 t1
      · refine b_asg 4 (g_mod (g_intI (g_ixL (T := intT z.c) (g_var 0).rlm g_int) hint) (g_var 1) hn0) ?_
        refine b_setL (T := intT (z.c / n)) 0 2 (by exact rfl) g_int (g_fdiv (k := 100) (g_ixL (T := intT z.c) (by exact (g_var 0).rlm) g_int) (g_var 1) hn0 (by omega)) (by exact rfl) he (by repeat (first | exact stbC_nil | refine stbC_none ?_ | refine stbC_some inferInstance ?_)) ?_
        exact b_chosen (z := ⟨z.i, z.c / n, z.m⟩) hBe hb ⟨z0, Int.ediv_nonneg z1 (by omega), z2, z3⟩ rfl (g_var 4) (mod_lt hn0) rfl q
      · have m1 := mod_lt (a := z.m * 48271009 + 31) (n := 2147483629) (by decide)
        generalize hm : (z.m * 48271009 + 31) % 2147483629 = m' at m1
        refine b_setL (T := intT m') 0 3 (by exact rfl) (by exact g_int) (by
          rw [← hm]
          exact g_mod (g_intI (g_add (g_mul (n := 64) (k := 64) (g_ixL (T := intT z.m) (g_var 0).rlm g_int) g_int (by omega) (by decide)) g_int) hint) g_int (by decide)) (by exact rfl) he (by repeat (first | exact stbC_nil | refine stbC_none ?_ | refine stbC_some inferInstance ?_)) ?_
        exact b_chosen (z := ⟨z.i, z.c, m'⟩) hBe hb ⟨z0, z1, m1.1, by show m' < _; omega⟩ rfl
          (g_mod (g_intI (g_fdiv (k := 64) (g_mod (g_intI (g_mul (n := 64) (k := 64) (g_ixL (T := intT m') (g_var 0).rlm g_int) (g_ixL (T := intT m') (g_var 0).rlm g_int) (by omega) (by omega)) hint) g_int (by decide)) g_int (by decide) (by decide)) hint) (g_var 1) hn0) (mod_lt hn0) rfl q
    obtain ⟨z0, z1, z2, z3⟩ := hz
    refine b_if (gt_and2 (gt_eqI (g_ixL (T := intT z.c) (g_var 0).rlm g_int) g_int) (fun _ => gt_lt (g_ixL (T := intT z.i) (g_var 0).rlm g_int) (g_lenRL (Ts := cells.map fun z => intT z) (((g_ixL (T := rowT row cells) (g_var 0).rlm g_int).imp fun _ _ h => row_lst h).rl) hlen))) (fun h => ?_) fun h => b_skip (fin z ⟨z0, z1, z2, z3⟩)
    have hi : z.i < (cells.length : Int) := by
      rw [Bool.and_eq_true, decide_eq_true_eq, decide_eq_true_eq, List.length_map] at h
      exact h.2
    have hi' : z.i.toNat < cells.length := by omega
    refine b_asg 2 (T := intT cells[z.i.toNat]) (g_ixL (Ts := cells.map fun z => intT z) (((g_ixL (T := rowT row cells) (g_var 0).rlm g_int).imp fun _ _ h => row_lst h).rl) (g_ixL (T := intT z.i) (g_var 0).rlm g_int) (by
      rw [atI_one z0 (by rw [List.length_map]; exact hi)]
      simp)) ?_
    generalize cells[z.i.toNat] = c
    refine b_setL (T := intT (z.i + 1)) 0 1 (by exact rfl) (by exact g_int) (by exact g_add (g_ixL (T := intT z.i) (g_var 0).rlm g_int) g_int) (by exact rfl) he (by repeat (first | exact stbC_nil | refine stbC_none ?_ | refine stbC_some inferInstance ?_)) ?_
    change Bd _ [some (mlT b (bagTs row cells ⟨z.i + 1, z.c, z.m⟩)), some (intT n), some (intT c), none, none] _ _ _
    refine b_if (gt_ge (g_var 2) (g_pow (i := 10) (j := 18) g_int g_int ⟨by decide, by decide, by decide⟩)) (fun h => ?_) fun h => ?_
    · refine b_setL (T := intT c) 0 2 (by exact rfl) (by exact g_int) (by exact g_var 2) (by exact rfl) he (by repeat (first | exact stbC_nil | refine stbC_none ?_ | refine stbC_some inferInstance ?_)) ?_
      have hc : 0 ≤ c := by
        rw [decide_eq_true_eq] at h
        have : (0 : Int) ≤ 10 ^ (18 : Int).toNat := by decide
        omega
      refine b_skip ?_
      refine b_skip ?_
      exact b_weak (fin ⟨z.i + 1, c, z.m⟩ ⟨by show 0 ≤ z.i + 1; omega, hc, z2, z3⟩) fun σ H1 t1 => t1.drop 2
    · refine b_asg 3 (g_add (g_mul (n := 64) (k := 64) (g_ixL (T := intT z.m) (g_var 0).rlm g_int) g_int (by omega) (by decide)) (g_mod (g_intI (g_var 2) hint) g_int (by decide))) ?_
      have m1 := mod_lt (a := z.m * 40031 + c % 1999999943 + (z.i + 1)) (n := 2147483629) (by decide)
      generalize hm : (z.m * 40031 + c % 1999999943 + (z.i + 1)) % 2147483629 = m' at m1
      refine b_setL (T := intT m') 0 3 (by exact rfl) (by exact g_int) (by
          rw [← hm]
          exact g_mod (g_intI (g_add (g_var 3) (g_ixL (T := intT (z.i + 1)) (g_var 0).rlm g_int)) hint) g_int (by decide)) (by exact rfl) he (by repeat (first | exact stbC_nil | refine stbC_none ?_ | refine stbC_some inferInstance ?_)) ?_
      refine b_skip ?_
      refine b_skip ?_
      exact b_weak (fin ⟨z.i + 1, z.c, m'⟩ ⟨by show 0 ≤ z.i + 1; omega, z1, m1.1, by show m' < _; omega⟩) fun σ H1 t1 => (t1.drop 2).drop 3
theorem sc_of : FnScope ["_law_bag_here", "_law_things"] ["_law_bag_here", "_law_things"] (defScope s__law_of) := ⟨rfl, rfl, rfl, by decide +kernel, rfl, by decide +kernel, by decide +kernel⟩
abbrev Few := { Ts : List RL.Ty // 0 < Ts.length ∧ Ts.length < 1000 }
theorem f_of (T : Tx fa fn ex K mg) : FnG P w K mg base 2 "_law_of" ["_law_bag_here", "_law_things"] (spG (fun Ts : Few => [bagT, lstT Ts.1]) fun Ts => oneT Ts.1) := by
  have FT : FnG P w K mg base 1 "_law_take" ["_law_bag_here", "_law_many"] _ := f_take T
  refine T.fn d__law_of i__law_of "_law_of" rfl q_glo__law_of rfl (fun _ _ _ _ _ _ us hl => match us, hl with | [_, _], _ => rfl) fun f fd F => ?_
  refine fn_G F sc_of (fun _ => rfl) fun z cdv Ar outer s H E hr nd D hD _ => ?_
  obtain ⟨Ts, h0, h1⟩ := z
  have b : (0 : Int) < (Ts.length : Int) ∧ (Ts.length : Int) < 2 ^ 100 := ⟨by omega, by omega⟩
  refine b_ret (g_ixLX (g_var 1).rl ((g_call FT hr ⟨(Ts.length : Int), b⟩ (ga_cons (g_var 0) (ga_cons (g_lenL (g_var 1) (T.free _ q_free_len)) ga_nil))).imp fun v H h => h)) hD
/-! the bag -/
theorem sc_bag : FnScope ["_law_script", "_law_row", "_law_mark", "_law_cell"] ["_law_script"] (defScope s__law_bag) := ⟨rfl, rfl, rfl, by decide +kernel, rfl, by decide +kernel, by decide +kernel⟩
theorem f_bag (T : Tx fa fn ex K mg) : FnG P w K mg base 1 "_law_bag" ["_law_script"] (spG (fun ns : List Int => [rlT K (ns.map fun z => intT z)]) fun _ => bagT) := by
  have hint := T.free _ q_free_int
  refine T.fn d__law_bag i__law_bag "_law_bag" rfl q_glo__law_bag rfl (fun _ _ _ _ _ _ us hl => match us, hl with | [_], _ => rfl) fun f fd F => ?_
  refine fn_G F sc_bag (fun _ => rfl) fun ns cdv Ar outer s H E hr nd D hD _ => ?_
  have hcut : cutT (ns.map fun z => intT z) none (some 63) = (ns.take 63).map fun z => intT z := by rw [cutT_to (by decide), List.map_take]; rfl
  refine b_asg 1 (T := lstT ((ns.take 63).map fun z => intT z)) (G.is (g_listL (g_cutTo (α := Unit) (n := fun _ => 63) (g_var 0) (g_int.un)) (T.free _ q_free_list)).one (by rw [hcut])) ?_
  refine b_asgX (F := fun z : { m : Int // 0 ≤ m ∧ m < 2 ^ 40 } => intT z.1) 2 (g_add g_int (g_mul (n := 64) (k := 64) g_int (g_lenL (g_var 1) (T.free _ q_free_len)) (by decide) ?_) |>.ofI ?_) fun z => ?_
  · rw [List.length_map]
    have := List.length_take_le 63 ns
    omega
  · rw [List.length_map]
    have := List.length_take_le 63 ns
    omega
  refine b_for (g := gName 3) (fun i Δ => ∃ (z : { m : Int // 0 ≤ m ∧ m < 2 ^ 40 }) (u : Option RL.Ty), Δ = [some (rlT K (ns.map fun z => intT z)), some (lstT ((ns.take 63).map fun z => intT z)), some (intT z.1), u]) (gi_list (g_var 1)) (pg_name nd rfl (Or.inl rfl)) ⟨z, none, rfl⟩ (fun H1 i T1 Δ b1 hT hΔ => ?_) fun Δ hΔ => ?_
  · obtain ⟨⟨z, z0, z1⟩, u, rfl⟩ := hΔ
    rw [List.getElem?_map] at hT
    cases hq : (ns.take 63)[i]? with
    | none => rw [hq] at hT; cases hT
    | some c =>
      rw [hq] at hT
      cases hT
      refine ⟨_, tgt_name, ?_⟩
      refine b_asg 2 (g_mod (g_intI (g_add (g_add (g_mul (n := 64) (k := 64) (g_var 2) g_int (by show z.natAbs < _; omega) (by decide)) (g_mod (g_intI (g_var 3) hint) g_int (by decide))) g_int) hint) g_int (by decide)) ?_
      have := mod_lt (a := z * 48611 + c % 2147483249 + 7) (n := 2147483587) (by decide)
      exact turn_nx ⟨⟨_, this.1, by omega⟩, _, rfl⟩
  · obtain ⟨⟨z, z0, z1⟩, u, rfl⟩ := hΔ
    refine b_cons fun σ H1 e1 t1 => toS (ps_ret (pe _)) (tE_retr (toE (pe_lst (pa _)) ?_))
    refine (ga_cons (g_var 1) (ga_cons g_int (ga_cons g_int (ga_cons (g_var 2) ga_nil)))) σ H1 t1 _ fun vs H2 e2 h2 => ⟨by rw [← h2.len]; show 4 ≤ sizeLine; decide, fun b hb => ?_⟩
    obtain ⟨v0, v1, v2, v3, rfl, ⟨row, ws, ev, hrow, hws⟩, h1, h2, h3⟩ := all2_4 h2
    · skip
      have h1' : v1 = V.int 0 := h1
      have h2' : v2 = V.int 0 := h2
      have h3' : v3 = V.int z := h3
      subst ev; subst h1'; subst h2'; subst h3'
      have hws' : ws = (ns.take 63).map V.int := All2.vals (H := H2) (by rw [List.map_map]; exact hws)
      subst hws'
      refine ⟨b, _, bagH b row, upd_same, ⟨trivial, bag_close (z := ⟨0, 0, z⟩) ⟨Int.le_refl _, Int.le_refl _, z0, z1⟩⟩, ?_⟩
      rw [upd_upd]
      refine hD _ _ (Bs.up e1 (e2.trans (Ex.new hb))) ⟨b, row, ns.take 63, rfl, upd_same, ?_⟩
      obtain ⟨o, ho⟩ := hrow
      exact ⟨o, by rw [upd_ne (ne_of_none ho hb)]; exact ho⟩
end
end K10

set_option Elab.async false
set_option linter.all false
set_option maxRecDepth 100000
set_option maxHeartbeats 1000000
/-! RLgen: lists whose items are only known to be of a family; slices, sorted texts, append -/
namespace RL
open PySem PySem.Spec PyProof.Rows L2
/-- related one by one -/
inductive Pw2 {α : Type u} {β : Type v} (C : α → β → Prop) : List α → List β → Prop
  | nil : Pw2 C [] []
  | cons {a : α} {b : β} {l : List α} {m : List β} : C a b → Pw2 C l m → Pw2 C (a :: l) (b :: m)
theorem Pw2.len {α : Type u} {β : Type v} {C : α → β → Prop} {l : List α} {m : List β} (h : Pw2 C l m) : l.length = m.length := by
  induction h with
  | nil => rfl
  | cons _ _ ih => rw [List.length_cons, List.length_cons, ih]
theorem Pw2.right {α : Type u} {β : Type v} {C : α → β → Prop} {D : β → Prop} {l : List α} {m : List β} (h : Pw2 C l m) (k : ∀ a ∈ l, ∀ b, C a b → D b) : ∀ b ∈ m, D b := by
  induction h with
  | nil => intro b hb; simp at hb
  | cons c _ ih =>
    intro b hb
    rcases List.mem_cons.mp hb with rfl | hb
    · exact k _ List.mem_cons_self _ c
    · exact ih (fun a ha => k a (List.mem_cons_of_mem _ ha)) b hb
theorem all2_cons {T : Ty} {Ts : List Ty} {vs : List V} {H : Hp} (h : All2 (T :: Ts) vs H) : ∃ v ws, vs = v :: ws ∧ T v H ∧ All2 Ts ws H := by
  cases vs with
  | nil => exact h.elim
  | cons v ws => exact ⟨v, ws, rfl, h.1, h.2⟩
theorem all2_nil {vs : List V} {H : Hp} (h : All2 [] vs H) : vs = [] := by
  cases vs with
  | nil => rfl
  | cons v ws => exact h.elim
theorem all2_ex {α : Type u} {β : Type v} {C : α → β → Prop} {E : β → Ty} {H : Hp} : ∀ {ks : List α} {vs : List V}, All2 (ks.map fun k => exT fun z : { z : β // C k z } => E z.1) vs H → ∃ zs : List β, Pw2 C ks zs ∧ All2 (zs.map E) vs H
  | [], vs, h => ⟨[], .nil, h⟩
  | k :: ks, vs, h => by
    obtain ⟨v, ws, rfl, ⟨z, hz⟩, h2⟩ := all2_cons h
    obtain ⟨zs, h3, h4⟩ := all2_ex h2
    exact ⟨z.1 :: zs, .cons z.2 h3, hz, h4⟩
section
variable {X : Cx} {Γ : Ctx} {e o a b c d : Expr} {es : List Expr} {T U : Ty} {Ts Us : List Ty} {pos p p2 pos2 apos : Pos} {x : Str}
/-- a list of items of families is of a family -/
theorem G.lstEx {α : Type u} {β : Type} {C : α → β → Prop} {E : β → Ty} {ks : List α} {D : List β → Prop} (h : G X Γ e (lstT (ks.map fun k => exT fun z : { z : β // C k z } => E z.1))) (hD : ∀ zs, Pw2 C ks zs → D zs) : G X Γ e (exT fun zs : { zs : List β // D zs } => lstT (zs.1.map E)) := h.imp fun v H ⟨a, vs, ev, hf, h2⟩ => by
  obtain ⟨zs, h3, h4⟩ := all2_ex h2
  exact ⟨⟨zs, hD zs h3⟩, a, vs, ev, hf, h4⟩
theorem g_from {n : Int} (ho : G X Γ o (lstT Ts)) (hk : G X Γ e (intT n)) (hn : 0 ≤ n) : G X Γ (.Subscript o (.Slice (some e) none none pos2) pos) (lstT (Ts.drop n.toNat)) :=
  (g_cutFrom (α := Unit) (n := fun _ => n) ho.rl hk.un).one.is (by rw [cutT_from hn])
theorem g_to {n : Int} (ho : G X Γ o (lstT Ts)) (hk : G X Γ e (intT n)) (hn : 0 ≤ n) : G X Γ (.Subscript o (.Slice none (some e) none pos2) pos) (lstT (Ts.take n.toNat)) :=
  (g_cutTo (α := Unit) (n := fun _ => n) ho.rl hk.un).one.is (by rw [cutT_to hn])
/-- sorted(l), l a frozen list of texts -/
theorem g_sortedS {ys : List Str} (D : List Str → Prop) (h : G X Γ e (lstT (ys.map fun z => strT z))) (hm : X.mg "sorted" = none) (h64 : ys.length < 64) (hD : ∀ zs : List Str, zs.Perm ys → sortedS zs = true → D zs) (hg : Gl X "sorted" := by rfl) (he : starEach [e] X.env = (false, eval e X.env) :: starEach [] X.env := by exact se_cons rfl) :
    G X Γ (.Call (.Name "sorted" p) [e] [] pos) (exT fun zs : { zs : List Str // D zs } => lstT (zs.1.map fun z => strT z)) := fun σ H t Q q =>
  tE_frz (toE (pe_callB cr_sortedS hg hm (by decide +kernel) (pa_cons (pe e) pa_nil he) (he := he)) (h σ H t _ fun v H1 e1 ⟨l, vs, ev, hf, h2⟩ => by
    subst ev
    have hv : vs = ys.map V.str := All2.vals (H := H1) (by rw [List.map_map]; exact h2)
    subst hv
    refine ⟨l, ys, rfl, hf.sq, h64, fun zs d hp hs hd => ⟨d, _, upd_same, trivial, fun od => ?_⟩⟩
    rw [upd_upd]
    refine q _ _ (e1.trans (Ex.new hd)) ⟨⟨zs, hD zs hp hs⟩, d, _, rfl, ⟨od, upd_same⟩, ?_⟩
    have z := All2.of_vals (H := upd H1 d (.frz od (.lst (zs.map V.str)))) (ws := zs.map V.str)
    rwa [List.map_map] at z))
/-! append -/
variable {H0 : Bs} {D : Ends} {rest : List Stmt}
theorem b_append [hTs : Stbs Ts] [hSt : Stb T] (i : Nat) {aa : Addr} (hT : Γ[i]? = some (some (mlT aa Ts))) (he : G X Γ e T) (hl : Ts.length < sizeLine) (ha : H0.e aa = none) (hS : StbC aa (Γ.set i none))
    (h : Bd X (Γ.set i (some (mlT aa (Ts ++ [T])))) rest H0 D) (hN : X.N[i]? = some x := by rfl) (hv : Vis X.env.scope x := by first | exact Or.inl rfl | exact Or.inr (Or.inl rfl) | exact Or.inr (Or.inr rfl)) (hd : (x == ("__debug__" : Str)) = false := by decide) (hcd : (x == ("__classdict__" : Str)) = false := by decide)
    (hbase : attributeBase (.Name x p) "append" X.env (eval (.Name x p) X.env) = eval (.Name x p) X.env := by rfl)
    (hfew : ((backTo pos (starEach [e] X.env)).all (fun x => !x.1) && (backToKw pos (keywordEach [] X.env)).all (fun x => x.1.isSome)
      && decide ([e].length + ([] : List Keyword).length + (if ([] : List Keyword).isEmpty then 0 else 1) < 30)) = true := by first | rfl | (rw [se_one rfl]; rfl))
    (hline : (apos.endLine == pos.line) = true := by rfl) (hs : starEach [e] X.env = (false, eval e X.env) :: starEach [] X.env := by exact se_cons rfl) {pos3 : Pos}
    (hsw : swapsWith (.Call (.Attribute (.Name x p) "append" apos) [e] [] pos) none pos3.line X.env = pure false := by rfl) : Bd X Γ (.Expr (.Call (.Attribute (.Name x p) "append" apos) [e] [] pos) pos3 :: rest) H0 D :=
  b_cons fun σ H e0 t => toS (ps_expr (pe_bm PySem.F.plainAttrs_list PySem.F.slot_list_append PySem.F.type_list_append mt_append (pe_var (i := i) hN hv hd hcd) (RL.pa [e]) hbase hfew hline hs (se_any rfl)) hsw) (by
    obtain ⟨w, hw, ew, vs, hH, h3⟩ := t.get i hT
    subst ew
    refine ⟨_, hw, .inl ⟨rfl, vs, .inl (.inl hH)⟩, ga_cons he ga_nil hs σ H t _ fun us H1 e1 h1 => ?_⟩
    obtain ⟨u, rfl, hu⟩ := one2 h1
    have hH1 := e1 _ _ hH
    refine ⟨aa, vs, u, rfl, rfl, hH1, by rw [← h3.len]; exact hl, h _ _ ((e0.trans e1).mut ha hH1 trivial) (Typed.put (((t.up e1).drop i).mut hS hH1 trivial) ?_ hw ⟨rfl, _, upd_same, ?_⟩)⟩
    · exact (List.getElem?_eq_some_iff.mp hT).1
    · exact (hTs.le (Le.mut hH1 trivial) (h3.up e1)).append ⟨hSt.le (Le.mut hH1 trivial) hu, trivial⟩)
/-- x = [] -/
theorem b_newL (i : Nat) (h : ∀ a, H0.e a = none → Bd X (Γ.set i (some (mlT a []))) rest H0 D) {p' : Pos} (hN : X.N.Nodup := by first | assumption | decide) (hi : X.N[i]? = some x := by rfl) (hx : Loc X.env.scope x := by first | exact Or.inl rfl | exact Or.inr rfl)
    (hs : swapsWith (.List [] p2) (some (.Name x p')) pos.line X.env = pure false := by rfl) (hf : X.fn x = true ∨ X.env.scope.names.lookup x = some .local := by first | exact .inl rfl | exact .inr rfl) : Bd X Γ (.Assign [.Name x p'] (.List [] p2) pos :: rest) H0 D :=
  b_cons fun σ H e0 t => toS (ps_set (i := i) hN hi hx (pe_lst pa_nil) hs hf) ⟨by show 0 ≤ sizeLine; exact Nat.zero_le _, fun q hq => h q (e0.1.free hq) _ _ (e0.trans (Ex.new hq)) ((t.up (Ex.new hq)).set i ⟨rfl, _, upd_same, trivial⟩)⟩
end

/-! x = [e for y in it] -/
section
variable {X : Cx} {Γ : Ctx} {e o a b c d : Expr} {es : List Expr} {T U : Ty} {Ts Us : List Ty} {pos p p2 pos2 apos : Pos} {x : Str} {H0 : Bs} {D : Ends} {rest : List Stmt}
/-- what a list comprehension does, as a reading -/
theorem g_lcR {elt tg iter : Expr} {ifs : List Expr} {scope : Scope} {own : List (Str × Nat)} {g : TG} (rs : List (Option Ty)) (hi : GI X Γ tg iter Ts) (ok : BlkOk X.N X.env.scope scope own)
    (hg : ∀ (s : Shared) (H : Hp) (C : Addr) (cl : List (Str × Addr)) (fp : List Addr), PG (X.blk s H scope (compEnvC scope cl C X.env) fp) tg g)
    (hl : rs.length = Ts.length) (hz : Ts.length ≤ sizeLine)
    (hw : ∀ (i : Nat) (T : Ty), Ts[i]? = some T → ∃ Δ2, Tgt g T ((own.map (·.2)).foldr (fun v G => G.set v none) Γ) Δ2 ∧
      ((rs[i]? = some none ∧ GCTs X scope Δ2 ifs false) ∨ ∃ R, rs[i]? = some (some R) ∧ GCTs X scope Δ2 ifs true ∧ GC X scope Δ2 elt R))
    (hS : ∀ R, some R ∈ rs → Stb R)
    (hwipe : OwnTgt g own)
    (hc : X.calm = true := by rfl) (hN : X.N.Nodup := by first | assumption | decide) (hf : ∀ x, foldedSetIterable iter X.env x = pure x := by intro _; rfl) {σ : L2.St} {H : Hp} (t : Typed σ Γ H) {Q : VK}
    (q : ∀ D H' acc, Ex H H' → H D = none → H' D = some (.lst acc) → All2 (keptT rs) acc H' → Q (.ref D) H') : tLc (tI X tg iter) g (tCT X scope ifs) (tCE X scope elt) (own.map (·.2)) σ H Q := by
  refine hi σ H t _ fun J H1 e1 tn => ?_
  intro Da hD
  have e1D : Ex H1 (upd H1 Da (.lst [])) := Ex.new hD
  refine ⟨fun i m H' => i ≤ Ts.length ∧ m = Ts.length - i ∧ Ex H1 H' ∧ ∃ acc, H' Da = some (.lst acc) ∧ All2 (keptT (rs.take i)) acc H', ⟨_, Nat.zero_le _, rfl, e1D, [], upd_same, by simp [keptT, All2]⟩, ?_⟩
  rintro i m H' ⟨hi', rfl, e2, acc, hacc, hA⟩
  obtain ⟨t3, t4⟩ := tn i H' e2.le
  by_cases c : i < Ts.length
  · obtain ⟨go, yl⟩ := t3 c
    refine .inr ⟨go, fun H' => Ex H1 H' ∧ ∃ acc, H' Da = some (.lst acc) ∧ All2 (keptT (rs.take (i + 1))) acc H', fun H' h => ⟨Ts.length - (i + 1), by omega, by omega, rfl, h⟩, fun v Hy hy => ?_⟩
    obtain ⟨ey, T, hT, hv⟩ := yl v Hy hy
    obtain ⟨Δ2, tg, alt⟩ := hw i T hT
    have tσ : Typed (L2.wipe σ (own.map (·.2))) ((own.map (·.2)).foldr (fun v G => G.set v none) Γ) Hy := Typed.wipe _ (t.up ((e1.trans e2).trans ey))
    refine hwipe v σ Hy _ (tg v _ Hy _ hv tσ fun σ2 t2 => ?_)
    have hlen : acc.length < sizeLine := by
      rw [← hA.len]
      exact Nat.lt_of_le_of_lt (keptT_len rs i) (Nat.lt_of_lt_of_le c hz)
    rcases alt with ⟨hr, hT⟩ | ⟨R, hr, hT, hE⟩
    · intro s0 H0 C cl fp
      refine hT s0 H0 C cl fp σ2 Hy t2 _ fun H3 e3 => ?_
      refine iteF ⟨e2.trans (ey.trans e3), acc, e3 _ _ (ey _ _ hacc), ?_⟩
      rw [keptT_take hr]
      simpa using hA.up (ey.trans e3)
    · intro s0 H0 C cl fp
      refine hT s0 H0 C cl fp σ2 Hy t2 _ fun H3 e3 => iteT ?_
      intro s1 H1' C1 cl1 fp1
      refine hE s1 H1' C1 cl1 fp1 σ2 H3 (t2.up e3) _ fun y H4 e4 hy => ⟨acc, e4 _ _ (e3 _ _ (ey _ _ hacc)), hlen, (e2.trans (ey.trans (e3.trans e4))).mut hD, acc ++ [y], upd_same, ?_⟩
      rw [keptT_take hr]
      have hm := Le.mut (o := .lst (acc ++ [y])) (e4 _ _ (e3 _ _ (ey _ _ hacc))) trivial
      exact All2.append ((keptT_stb hS i).le ((ey.trans (e3.trans e4)).le.trans hm) hA) ⟨(hS R (List.mem_of_getElem? hr)).le hm hy, trivial⟩
  · have hi2 : i = Ts.length := by omega
    refine .inl ⟨t4 hi2, ?_⟩
    rw [hi2, ← hl, List.take_length] at hA
    exact q Da H' acc (e1.trans e2) (e1.free hD) hacc hA

theorem b_asgLc {α : Type} {x y : Str} {j : Nat} {elt iter : Expr} {scope : Scope} {px py spos : Pos} (i : Nat) (ks : List α) (A R : α → Ty) [hSt : ∀ a, Stb (R a)] (hi : GI X Γ (.Name x px) iter (ks.map A)) (hz : ks.length ≤ sizeLine)
    (hv : ∀ p ∈ ks, GC X scope ((Γ.set j none).set j (some (A p))) elt (R p)) (h : Bd X (Γ.set i (some (lstT (ks.map R)))) rest H0 D) (ok : BlkOk X.N X.env.scope scope [(x, j)] := by first | exact blkOk_by rfl | exact blkOk_by (by decide +kernel))
    (hg : ∀ (s : Shared) (H : Hp) (C : Addr) (cl : List (Str × Addr)) (fp : List Addr), PG (X.blk s H scope (compEnvC scope cl C X.env) fp) (.Name x px) (gName j) := by exact fun _ _ _ _ _ => pg_name (by assumption) rfl (Or.inl rfl))
    (hy : X.N[i]? = some y := by rfl) (hyl : X.env.scope.names.lookup y = some .local := by rfl) (hsw : swapsWith (.ListComp elt [⟨.Name x px, iter, [], 0⟩] scope pos) (some (.Name y py)) spos.line X.env = pure true := by exact sw_true rfl rfl rfl (by decide +kernel))
    (hc : X.calm = true := by rfl) (hN : X.N.Nodup := by first | assumption | decide) (hf : ∀ x, foldedSetIterable iter X.env x = pure x := by intro _; rfl) : Bd X Γ (.Assign [.Name y py] (.ListComp elt [⟨.Name x px, iter, [], 0⟩] scope pos) spos :: rest) H0 D :=
  b_cons fun σ H e0 t => toS (ps_setLc (i := i) (te := tCE X scope elt) (tt := tCT X scope []) (own := [(x, j)]) hc hN hy hyl hsw pi ok hg (fun s H C cl fp => ⟨fun pins s' σ H1 Q I h => (h s H C cl fp).run pins s' I⟩) (fun s H C cl fp => ⟨fun pins s' σ H1 Q I h => (h s H C cl fp).run pins s' I⟩) hf)
    (g_lcR (ks.map fun p => some (R p)) hi ok hg (by rw [List.length_map, List.length_map]) (by rw [List.length_map]; exact hz) (fun j' T hT => by
      rw [List.getElem?_map] at hT
      cases hp : ks[j']? with
      | none => rw [hp] at hT; cases hT
      | some q =>
        rw [hp] at hT
        cases hT
        exact ⟨_, tgt_name, .inr ⟨R q, by rw [List.getElem?_map, hp]; rfl, gct_nil, hv q (List.mem_of_getElem? hp)⟩⟩)
      (fun U hU => by obtain ⟨a, _, e⟩ := List.mem_map.mp hU; cases e; exact hSt a) own_name hc hN hf t fun Da H' acc e hD hacc hA => by
        have hk : keptT (ks.map fun p => some (R p)) = ks.map R := by unfold keptT; exact kept_all ks R
        rw [hk] at hA
        have hst : Stbs (ks.map R) := stbs_of fun U hU => by obtain ⟨a, _, e⟩ := List.mem_map.mp hU; subst e; exact hSt a
        refine tB_frz hacc trivial fun od => ?_
        exact h _ _ (e0.trans (e.mut hD)) ((t.up (e.mut hD)).set i ⟨Da, acc, rfl, ⟨od, upd_same⟩, hst.le (Le.mut hacc trivial) hA⟩))
/-- a slot's word is weakened -/
theorem b_impS (i : Nat) (hT : Γ[i]? = some (some T)) (k : ∀ v H, T v H → U v H) (h : Bd X (Γ.set i (some U)) rest H0 D) : Bd X Γ rest H0 D := fun σ H e t => by
  obtain ⟨v, hv, tv⟩ := t.get i hT
  exact h σ H e (Typed.put (t.drop i) (List.getElem?_eq_some_iff.mp hT).1 hv (k v H tv))
theorem lst_ex {α : Type u} {β : Type} {C : α → β → Prop} {E : β → Ty} {ks : List α} {D : List β → Prop} (hD : ∀ zs, Pw2 C ks zs → D zs) (v : V) (H : Hp) (h : lstT (ks.map fun k => exT fun z : { z : β // C k z } => E z.1) v H) : (exT fun zs : { zs : List β // D zs } => lstT (zs.1.map E)) v H := by
  obtain ⟨a, vs, ev, hf, h2⟩ := h
  obtain ⟨zs, h3, h4⟩ := all2_ex h2
  exact ⟨⟨zs, hD zs h3⟩, a, vs, ev, hf, h4⟩
end
end RL

set_option Elab.async false
set_option linter.all false
set_option maxRecDepth 100000
set_option maxHeartbeats 1000000
/-! RLgen2: comprehensions over what is of a family; hidden lists of one int -/
namespace RL
open PySem PySem.Spec PyProof.Rows L2
section
variable {X : Cx} {Γ : Ctx} {e o a b c d : Expr} {es : List Expr} {T U : Ty} {Us : List Ty} {pos p p2 pos2 apos : Pos} {x : Str} {H0 : Bs} {D : Ends} {rest : List Stmt}
/-- what a list comprehension does, what is walked of a family -/
theorem g_lcRX {β : Type} {elt tg iter : Expr} {ifs : List Expr} {scope : Scope} {own : List (Str × Nat)} {g : TG} {Ts : β → List Ty} (rs : β → List (Option Ty)) (hi : GIX X Γ tg iter Ts) (ok : BlkOk X.N X.env.scope scope own)
    (hg : ∀ (s : Shared) (H : Hp) (C : Addr) (cl : List (Str × Addr)) (fp : List Addr), PG (X.blk s H scope (compEnvC scope cl C X.env) fp) tg g)
    (hl : ∀ z, (rs z).length = (Ts z).length) (hz : ∀ z, (Ts z).length ≤ sizeLine)
    (hw : ∀ z (i : Nat) (T : Ty), (Ts z)[i]? = some T → ∃ Δ2, Tgt g T ((own.map (·.2)).foldr (fun v G => G.set v none) Γ) Δ2 ∧
      (((rs z)[i]? = some none ∧ GCTs X scope Δ2 ifs false) ∨ ∃ R, (rs z)[i]? = some (some R) ∧ GCTs X scope Δ2 ifs true ∧ GC X scope Δ2 elt R))
    (hS : ∀ z R, some R ∈ rs z → Stb R)
    (hwipe : OwnTgt g own)
    (hc : X.calm = true := by rfl) (hN : X.N.Nodup := by first | assumption | decide) (hf : ∀ x, foldedSetIterable iter X.env x = pure x := by intro _; rfl) {σ : L2.St} {H : Hp} (t : Typed σ Γ H) {Q : VK}
    (q : ∀ z D H' acc, Ex H H' → H D = none → H' D = some (.lst acc) → All2 (keptT (rs z)) acc H' → Q (.ref D) H') : tLc (tI X tg iter) g (tCT X scope ifs) (tCE X scope elt) (own.map (·.2)) σ H Q := by
  refine hi σ H t _ fun z J H1 e1 tn => ?_
  replace hl := hl z
  replace hz := hz z
  replace hw := hw z
  replace hS := hS z
  replace q := q z
  generalize rs z = rs at *
  generalize Ts z = Ts at *
  intro Da hD
  have e1D : Ex H1 (upd H1 Da (.lst [])) := Ex.new hD
  refine ⟨fun i m H' => i ≤ Ts.length ∧ m = Ts.length - i ∧ Ex H1 H' ∧ ∃ acc, H' Da = some (.lst acc) ∧ All2 (keptT (rs.take i)) acc H', ⟨_, Nat.zero_le _, rfl, e1D, [], upd_same, by simp [keptT, All2]⟩, ?_⟩
  rintro i m H' ⟨hi', rfl, e2, acc, hacc, hA⟩
  obtain ⟨t3, t4⟩ := tn i H' e2.le
  by_cases c : i < Ts.length
  · obtain ⟨go, yl⟩ := t3 c
    refine .inr ⟨go, fun H' => Ex H1 H' ∧ ∃ acc, H' Da = some (.lst acc) ∧ All2 (keptT (rs.take (i + 1))) acc H', fun H' h => ⟨Ts.length - (i + 1), by omega, by omega, rfl, h⟩, fun v Hy hy => ?_⟩
    obtain ⟨ey, T, hT, hv⟩ := yl v Hy hy
    obtain ⟨Δ2, tg, alt⟩ := hw i T hT
    have tσ : Typed (L2.wipe σ (own.map (·.2))) ((own.map (·.2)).foldr (fun v G => G.set v none) Γ) Hy := Typed.wipe _ (t.up ((e1.trans e2).trans ey))
    refine hwipe v σ Hy _ (tg v _ Hy _ hv tσ fun σ2 t2 => ?_)
    have hlen : acc.length < sizeLine := by
      rw [← hA.len]
      exact Nat.lt_of_le_of_lt (keptT_len rs i) (Nat.lt_of_lt_of_le c hz)
    rcases alt with ⟨hr, hT⟩ | ⟨R, hr, hT, hE⟩
    · intro s0 H0 C cl fp
      refine hT s0 H0 C cl fp σ2 Hy t2 _ fun H3 e3 => ?_
      refine iteF ⟨e2.trans (ey.trans e3), acc, e3 _ _ (ey _ _ hacc), ?_⟩
      rw [keptT_take hr]
      simpa using hA.up (ey.trans e3)
    · intro s0 H0 C cl fp
      refine hT s0 H0 C cl fp σ2 Hy t2 _ fun H3 e3 => iteT ?_
      intro s1 H1' C1 cl1 fp1
      refine hE s1 H1' C1 cl1 fp1 σ2 H3 (t2.up e3) _ fun y H4 e4 hy => ⟨acc, e4 _ _ (e3 _ _ (ey _ _ hacc)), hlen, (e2.trans (ey.trans (e3.trans e4))).mut hD, acc ++ [y], upd_same, ?_⟩
      rw [keptT_take hr]
      have hm := Le.mut (o := .lst (acc ++ [y])) (e4 _ _ (e3 _ _ (ey _ _ hacc))) trivial
      exact All2.append ((keptT_stb hS i).le ((ey.trans (e3.trans e4)).le.trans hm) hA) ⟨(hS R (List.mem_of_getElem? hr)).le hm hy, trivial⟩
  · have hi2 : i = Ts.length := by omega
    refine .inl ⟨t4 hi2, ?_⟩
    rw [hi2, ← hl, List.take_length] at hA
    exact q Da H' acc (e1.trans e2) (e1.free hD) hacc hA


/-- [e for x in it], it of a family -/
theorem g_lcX {α β : Type} {x : Str} {j : Nat} {elt iter : Expr} {scope : Scope} {px : Pos} (ks : β → List α) (A R : α → Ty) [hSt : ∀ a, Stb (R a)] (hi : GIX X Γ (.Name x px) iter (fun z => (ks z).map A)) (hz : ∀ z, (ks z).length ≤ sizeLine)
    (hv : ∀ z, ∀ p ∈ ks z, GC X scope ((Γ.set j none).set j (some (A p))) elt (R p)) (ok : BlkOk X.N X.env.scope scope [(x, j)] := by first | exact blkOk_by rfl | exact blkOk_by (by decide +kernel))
    (hg : ∀ (s : Shared) (H : Hp) (C : Addr) (cl : List (Str × Addr)) (fp : List Addr), PG (X.blk s H scope (compEnvC scope cl C X.env) fp) (.Name x px) (gName j) := by exact fun _ _ _ _ _ => pg_name (by assumption) rfl (Or.inl rfl))
    (hc : X.calm = true := by rfl) (hN : X.N.Nodup := by first | assumption | decide) (hf : ∀ x, foldedSetIterable iter X.env x = pure x := by intro _; rfl) : G X Γ (.ListComp elt [⟨.Name x px, iter, [], 0⟩] scope pos) (exT fun z => lstT ((ks z).map R)) := fun σ H t Q q =>
  tE_frz (toE (pe_lc (te := tCE X scope elt) (tt := tCT X scope []) (own := [(x, j)]) hc hN pi ok hg (fun s H C cl fp => ⟨fun pins s' σ H1 Q I h => (h s H C cl fp).run pins s' I⟩) (fun s H C cl fp => ⟨fun pins s' σ H1 Q I h => (h s H C cl fp).run pins s' I⟩) hf)
    (g_lcRX (fun z => (ks z).map fun p => some (R p)) hi ok hg (fun z => by rw [List.length_map, List.length_map]) (fun z => by rw [List.length_map]; exact hz z) (fun z j' T hT => by
      rw [List.getElem?_map] at hT
      cases hp : (ks z)[j']? with
      | none => rw [hp] at hT; cases hT
      | some q =>
        rw [hp] at hT
        cases hT
        exact ⟨_, tgt_name, .inr ⟨R q, by rw [List.getElem?_map, hp]; rfl, gct_nil, hv z q (List.mem_of_getElem? hp)⟩⟩)
      (fun z U hU => by obtain ⟨a, _, e⟩ := List.mem_map.mp hU; cases e; exact hSt a) own_name hc hN hf t fun z Da H' acc e hD hacc hA => by
        have hk : keptT ((ks z).map fun p => some (R p)) = (ks z).map R := by unfold keptT; exact kept_all (ks z) R
        rw [hk] at hA
        have hst : Stbs ((ks z).map R) := stbs_of fun U hU => by obtain ⟨a, _, e⟩ := List.mem_map.mp hU; subst e; exact hSt a
        exact ⟨Da, _, hacc, trivial, fun od => q _ _ (e.mut hD) ⟨z, Da, acc, rfl, ⟨od, upd_same⟩, hst.le (Le.mut hacc trivial) hA⟩⟩))
theorem gix_rng1 {tg : Expr} {p2 : Pos} {q : Int → Prop} (h : G X Γ a (inT q)) (hm : X.mg "range" = none) (hn : ∀ n, q n → -(2 ^ 62) ≤ n ∧ n < 2 ^ 62) (hg : Gl X "range" := by rfl) (hst : starEach [a] X.env = [(false, eval a X.env)] := by exact se_one rfl) :
    GIX X Γ tg (.Call (.Name "range" p) [a] [] p2) (fun z : { i : Int // q i } => (List.range z.1.toNat).map fun (i : Nat) => intT (0 + (i : Int))) := fun σ H t Q k => toI (pi_range1 hg hm (pa_cons (pe a) pa_nil hst) hst) (h σ H t _ fun v H1 e1 ⟨z, hv⟩ => by
  have hv' : v = .int z.1 := hv
  subst hv'
  exact ⟨z.1, rfl, (hn _ z.2).1, (hn _ z.2).2, k z _ H1 e1 turns_rng⟩)
theorem g_eqI {i j : Int} (ha : G X Γ a (intT i)) (hb : G X Γ b (intT j)) : G X Γ (.Compare a [.Eq] [b] pos) (blT (decide (i = j))) := (g_cmp op_eq ha hb (r_Eq rfl) (nomark _)).is (by simp)
/-! a list of one int, its int hidden -/
def cellH (b : Addr) : HO := .ext fun h => ∃ (i : Int) (t : Tok) (n : Nat), h.get? b = some { cls := .type "list", data := .seq #[.int i t] n }
def cellT : Ty := ⟨fun v H => ∃ b : Addr, v = .ref b ∧ H b = some (cellH b), fun e ⟨b, h1, h2⟩ => ⟨b, h1, e _ _ h2⟩⟩
instance : Stb cellT := ⟨fun e ⟨b, h1, h2⟩ => ⟨b, h1, e _ _ (fun z => z) h2⟩⟩
theorem cell_close {b : Addr} {i : Int} : Retr b (.lst [.int i]) (cellH b) := ⟨trivial, fun P w H H' hp ⟨_, its, n, r, e⟩ => by
  cases r with
  | cons r0 r =>
    cases r
    obtain ⟨t0, rfl⟩ := r0
    exact ⟨⟨i, t0, n, e⟩, ⟨_, e⟩, fun h1 h2 ⟨i', t', n', e'⟩ s => ⟨i', t', n', s _ e'⟩⟩⟩
theorem cell_open {b : Addr} : ∀ (P : Program) (w : World) (hp : Heap), (∃ (i : Int) (t : Tok) (n : Nat), hp.get? b = some { cls := .type "list", data := .seq #[.int i t] n }) → ∃ i : Int, ∀ H', ObjOk P w H' hp b (.lst [.int i]) := fun P w hp ⟨i, t, n, e⟩ =>
  ⟨i, fun H' => ⟨(by show 1 ≤ sizeLine; decide), [.int i t], n, .cons ⟨_, rfl⟩ .nil, e⟩⟩
theorem tE_open {e : Expr} {σ : L2.St} {H : Hp} {Q : VK} {d : Addr} {α : Type} {φ : Heap → Prop} {u : α → HO} (hd : H d = some (.ext φ)) (ho : ∀ (P : Program) (w : World) (h : Heap), φ h → ∃ a, ∀ H', ObjOk P w H' h d (u a)) (h : ∀ a, tE X e σ (upd H d (u a)) Q) : tE X e σ H Q := by
  refine ⟨fun pins s I => ?_⟩
  have y := I.hok d _ hd
  obtain ⟨f, _, _⟩ := (show φ s.heap ∧ _ ∧ _ from y)
  obtain ⟨a, z⟩ := ho X.prog X.w s.heap f
  exact (h a).run pins s (retr I hd trivial (z _))
theorem upd_id {H : Hp} {b : Addr} {o : HO} (h : H b = some o) : upd H b o = H := by
  funext a
  unfold upd
  split
  · rename_i e; rw [e, h]
  · rfl
/-- left[0] -/
theorem g_cell {i : Nat} (hT : Γ[i]? = some (some cellT)) (hN : X.N[i]? = some x := by rfl) (hv : Vis X.env.scope x := by first | exact Or.inl rfl | exact Or.inr (Or.inl rfl) | exact Or.inr (Or.inr rfl)) (hd : (x == ("__debug__" : Str)) = false := by decide) (hcd : (x == ("__classdict__" : Str)) = false := by decide) {k : Nat}
    (hs : PlainIx (.Constant (.int 0) k p2) := by exact fun _ _ => rfl) : G X Γ (.Subscript (.Name x p) (.Constant (.int 0) k p2) pos) (inT fun _ => True) := fun σ H t Q q => by
  obtain ⟨v, hv1, b, ev, hb⟩ := t.get i hT
  subst ev
  refine tE_open (u := fun j : Int => .lst [.int j]) hb cell_open fun j => ?_
  refine tE_retr (toE (pe_ix ix_list (pe_var (i := i) hN hv hd hcd) pe_int hs) ⟨_, hv1, b, [.int j], 0, .int j, rfl, rfl, .inl (.inl upd_same), rfl, b, _, cellH b, upd_same, cell_close, ?_⟩)
  rw [upd_upd, upd_id hb]
  exact q _ _ (Ex.refl H) ⟨⟨j, trivial⟩, rfl⟩
end
end RL

set_option Elab.async false
set_option linter.all false
set_option maxRecDepth 100000
set_option maxHeartbeats 1000000
/-! RLgen3: not in, three tests, int of a truth value, a hidden cell that is changed -/
namespace RL
open PySem PySem.Spec PyProof.Rows L2
section
variable {X : Cx} {Γ : Ctx} {e o a b c d : Expr} {es : List Expr} {T U : Ty} {Ts Us : List Ty} {pos p p2 p3 p4 pos2 apos : Pos} {x : Str} {H0 : Bs} {D : Ends} {rest : List Stmt}
theorem gt_notinSL {y : Str} {zs : List Str} (ha : G X Γ a (strT y)) (hb : G X Γ b (lstT (zs.map fun z => strT z))) (hm : behindInMarks .NotIn b = false := by rfl) : GT X Γ (.Compare a [.NotIn] [b] pos) (!(zs.any fun z => z == y)) :=
  gt_cmp op_notIn_seq ha hb (fun v w H hv hw Q q => by
    obtain ⟨l, ws, rfl, hl, h3⟩ := hw
    have z : ws = zs.map V.str := All2.vals (H := H) (by rw [List.map_map]; exact h3)
    subst z
    have hv' : v = .str y := hv
    subst hv'
    refine ⟨l, _, rfl, .inl hl.sq, rfl, by rw [List.all_map]; exact List.all_eq_true.mpr fun _ _ => rfl, q _ H (Ex.refl H) ?_⟩
    show V.bl (if true then !L2.inV _ _ else _) = V.bl _
    rw [if_pos rfl]
    unfold L2.inV
    rw [List.any_map]
    rfl) hm
theorem gp_and3 {p q r : Bool → Prop} (ha : GP X Γ a p) (hb : p true → GP X Γ b q) (hc : p true → q true → GP X Γ c r) : GP X Γ (.BoolOp .And [a, b, c] pos) fun k => (k = true ∧ p true ∧ q true ∧ r true) ∨ k = false := fun σ H t Q w => toT (PW.pt (pw_and (pt a) (pw_and (pt b) (pw_and1 (pt c))))) (ha σ H t _ fun k H1 e1 hk => by
  cases k with
  | false => exact iteF (w _ H1 e1 (.inr rfl))
  | true => exact iteT (hb hk σ H1 (t.up e1) _ fun l H2 e2 hl => by
    cases l with
    | false => exact iteF (w _ H2 (e1.trans e2) (.inr rfl))
    | true => exact iteT (hc hk hl σ H2 (t.up (e1.trans e2)) _ fun m H3 e3 hm => by
      cases m with
      | false => exact w _ H3 (e1.trans (e2.trans e3)) (.inr rfl)
      | true => exact w _ H3 (e1.trans (e2.trans e3)) (.inl ⟨rfl, hk, hl, hm⟩))))
theorem g_intB {k : Bool} (h : G X Γ e (blT k)) (hm : X.mg "int" = none) (hg : Gl X "int" := by rfl) (he : starEach [e] X.env = (false, eval e X.env) :: starEach [] X.env := by exact se_cons rfl) : G X Γ (.Call (.Name "int" p) [e] [] pos) (intT (if k then 1 else 0)) :=
  g_callTy call_int1 hm (by decide +kernel) (ga_cons h ga_nil he) (fun vs H h2 Q q => .inr ⟨k, vals1' h2, q _ H (Ex.refl H) rfl⟩) hg (he := he)
theorem tS_open {st : Stmt} {σ : L2.St} {H : Hp} {D : Ends} {d : Addr} {α : Type} {φ : Heap → Prop} {u : α → HO} (hd : H d = some (.ext φ)) (ho : ∀ (P : Program) (w : World) (h : Heap), φ h → ∃ a, ∀ H', ObjOk P w H' h d (u a)) (h : ∀ a, tS X st D σ (upd H d (u a))) : tS X st D σ H := by
  refine ⟨fun pins s I => ?_⟩
  have y := I.hok d _ hd
  obtain ⟨f, _, _⟩ := (show φ s.heap ∧ _ ∧ _ from y)
  obtain ⟨a, z⟩ := ho X.prog X.w s.heap f
  exact (h a).run pins s (retr I hd trivial (z _))
theorem set_none {n : Nat} {i j : Nat} {T U : Ty} (h : ((List.replicate n (none : Option Ty)).set i (some T))[j]? = some (some U)) : j = i ∧ U = T ∧ i < n := by
  by_cases hj : j = i
  · subst hj
    by_cases hn : j < n
    · rw [List.getElem?_set_self (by simpa using hn)] at h
      cases h
      exact ⟨rfl, rfl, hn⟩
    · rw [List.getElem?_eq_none (by simpa using Nat.le_of_not_lt hn)] at h
      cases h
  · rw [List.getElem?_set_ne (Ne.symm hj), List.getElem?_replicate] at h
    split at h <;> cases h
/-- left[0] = e, e by what stands there alone -/
theorem b_cellPut {kk : Nat} (i : Nat) (hT : Γ[i]? = some (some cellT)) (he : ∀ (b : Addr) (j : Int), G X ((List.replicate Γ.length none).set i (some (mlT b [intT j]))) e (inT fun _ => True)) (h : Bd X Γ rest H0 D) {p' : Pos} (hN : X.N[i]? = some x := by rfl) (hv : Vis X.env.scope x := by first | exact Or.inl rfl | exact Or.inr (Or.inl rfl) | exact Or.inr (Or.inr rfl)) (hd : (x == ("__debug__" : Str)) = false := by decide) (hcd : (x == ("__classdict__" : Str)) = false := by decide)
    (hs : swapsWithSole [.Subscript (.Name x p2) (.Constant (.int 0) kk p3) p'] e pos.line X.env = pure false := by rfl) (hw : swappedStores [.Subscript (.Name x p2) (.Constant (.int 0) kk p3) p'] e X.env = pure none := by rfl)
    (h1 : (assignEach [.Subscript (.Name x p2) (.Constant (.int 0) kk p3) p'] X.env).map (·.2) = [assign (.Subscript (.Name x p2) (.Constant (.int 0) kk p3) p') X.env] := by rfl)
    (has : ∀ v, assign (.Subscript (.Name x p2) (.Constant (.int 0) kk p3) p') X.env v = (do
      let ov ← holding [v] (eval (.Name x p2) X.env)
      let iv ← holding [v, ov] (eval (.Constant (.int 0) kk p3) X.env)
      standAt p'
      holding [v, ov, iv] (setItem ov iv v)
      release [v, ov, iv] []) := by intro _; rfl) : Bd X Γ (.Assign [.Subscript (.Name x p2) (.Constant (.int 0) kk p3) p'] e pos :: rest) H0 D :=
  b_cons fun σ H e0 t => by
    obtain ⟨v, hv1, b, ev, hb⟩ := t.get i hT
    subst ev
    have hi : i < Γ.length := (List.getElem?_eq_some_iff.mp hT).1
    refine tS_open (u := fun j : Int => .lst [.int j]) hb cell_open fun j => ?_
    have t1 : Typed σ ((List.replicate Γ.length none).set i (some (mlT b [intT j]))) (upd H b (.lst [.int j])) := by
      refine ⟨by rw [List.length_set, List.length_replicate]; exact t.1, fun j' U hU => ?_⟩
      obtain ⟨rfl, rfl, _⟩ := set_none hU
      exact ⟨_, hv1, rfl, _, upd_same, rfl, trivial⟩
    refine toS (ps_asg (pe e) (pg_sub (pe_var (i := i) hN hv hd hcd) pe_int set_list has) hs hw h1) (he b j σ _ t1 _ fun v1 H1 e1 ⟨k, h1⟩ => ?_)
    have h1' : v1 = .int k.1 := h1
    subst h1'
    have hb1 := e1 _ _ (upd_same (H := H) (a := b) (o := .lst [.int j]))
    refine ⟨_, hv1, b, [.int j], 0, 0, rfl, rfl, hb1, rfl, ?_⟩
    have ex : Ex H (upd H1 b (cellH b)) := fun a o ha => by
      by_cases c : a = b
      · subst c
        rw [hb] at ha
        cases ha
        exact upd_same
      · rw [upd_ne c]
        exact e1 _ _ (by rw [upd_ne c]; exact ha)
    refine tB_retr (u := .lst [.int k.1]) (u' := cellH b) (d := b) upd_same cell_close ?_
    rw [upd_upd]
    exact h _ _ (e0.trans ex) (t.up ex)
end
end RL

set_option Elab.async false
set_option linter.all false
set_option maxRecDepth 100000
set_option maxHeartbeats 1000000
/-! SayTxt: the texts of sayings, in plain Lean -/
namespace RL
open PySem PySem.Spec PyProof.Rows L2
theorem str_ext {x y : Str} (h : x.cps.toList = y.cps.toList) : x = y := by
  obtain ⟨⟨x⟩⟩ := x
  obtain ⟨⟨y⟩⟩ := y
  have h' : x = y := h
  rw [h']
theorem app_cps (x y : Str) : (x ++ y).cps.toList = x.cps.toList ++ y.cps.toList := by
  show (x.cps ++ y.cps).toList = _
  simp
theorem emp_app (x : Str) : Str.empty ++ x = x := str_ext (by rw [app_cps]; rfl)
theorem lit_app (x : Str) : ("" : Str) ++ x = x := str_ext (by rw [app_cps]; rfl)
theorem app_lit (x : Str) : x ++ ("" : Str) = x := str_ext (by rw [app_cps]; exact List.append_nil _)
theorem app_assoc (x y z : Str) : x ++ y ++ z = x ++ (y ++ z) := str_ext (by rw [app_cps, app_cps, app_cps, app_cps, List.append_assoc])
theorem len_app (x y : Str) : (x ++ y).length = x.length + y.length := by
  show (x.cps ++ y.cps).size = x.cps.size + y.cps.size
  exact Array.size_append
theorem join_nil (s : Str) : Txt.join s [] = Str.empty := by rw [TL.join_eq]; rfl
theorem join_one (s x : Str) : Txt.join s [x] = x := by rw [TL.join_eq]; rfl
theorem join_cons (s x y : Str) (r : List Str) : Txt.join s (x :: y :: r) = x ++ s ++ Txt.join s (y :: r) := by rw [TL.join_eq, TL.join_eq]; rfl
theorem join_len (s : Str) {n : Nat} : ∀ ys : List Str, (∀ y ∈ ys, y.length ≤ n) → (Txt.join s ys).length ≤ ys.length * (n + s.length)
  | [], _ => by rw [join_nil]; exact Nat.zero_le _
  | [x], h => by
    have := h x List.mem_cons_self
    rw [join_one]
    simp only [List.length_cons, List.length_nil]
    omega
  | x :: y :: r, h => by
    have h1 := h x List.mem_cons_self
    have h2 := join_len s (y :: r) fun z hz => h z (List.mem_cons_of_mem _ hz)
    rw [join_cons, len_app, len_app]
    have e : (x :: y :: r).length = (y :: r).length + 1 := rfl
    rw [e, Nat.add_mul]
    omega
theorem sum_len {n : Nat} : ∀ ys : List Str, (∀ y ∈ ys, y.length ≤ n) → (ys.map (·.length)).sum ≤ ys.length * n
  | [], _ => by simp
  | x :: r, h => by
    have h1 := h x List.mem_cons_self
    have h2 := sum_len r fun z hz => h z (List.mem_cons_of_mem _ hz)
    rw [List.map_cons, List.sum_cons, List.length_cons, Nat.add_mul]
    omega
abbrev itS (i : Int) : Str := (toString i : String)
theorem itS_all : ∀ n : Fin 19, (itS ((n.1 : Int) - 9)).length ≤ 2 := by decide +kernel
theorem itS_len {i : Int} (h : -9 ≤ i ∧ i ≤ 9) : (itS i).length ≤ 2 := by
  have := itS_all ⟨(i + 9).toNat, by omega⟩
  have e : ((((i + 9).toNat : Nat) : Int)) - 9 = i := by omega
  rwa [e] at this
theorem log_small {i : Int} (h : -9 ≤ i ∧ i ≤ 9) : i.natAbs.log2 < 1920 := by
  have h1 : i.natAbs.log2 ≤ i.natAbs := Nat.log2_le_self _
  omega
def powS (q : Str × Int) : Str := if q.2 = 1 then q.1 else q.1 ++ "^" ++ itS q.2
def trmW (t : Trm) : List Str := if t.2 = 1 ∧ t.1 ≠ [] then t.1.map powS else t.1.map powS ++ [itS t.2]
def trmS (t : Trm) : Str := Txt.join "*" (trmW t)
def absI (i : Int) : Int := if i < 0 then -i else i
def rateW (q : Str × Int) : Str := if absI q.2 = 1 then q.1 else itS (absI q.2) ++ "*" ++ q.1
def rateF (text : Str) (q : Str × Int) : Str := if text = "" then (if 0 ≤ q.2 then rateW q else "-" ++ rateW q) else (if 0 ≤ q.2 then text ++ " + " ++ rateW q else text ++ " - " ++ rateW q)
def ratesS (l : PowL) : Str := l.foldl rateF ""
def cmpnS (r : Cmpn) : Str := ratesS r.1 ++ " " ++ r.2.1 ++ " " ++ itS r.2.2
def headS (rows : List Cmpn) : Str := "#(" ++ Txt.join "; " (rows.map cmpnS) ++ ")"
def cntS (rows : List Cmpn) : Way → Str
  | .least n => headS rows ++ " >= " ++ itS n
  | .exact n => headS rows ++ " = " ++ itS n
  | .rest m r => headS rows ++ " / " ++ itS m ++ " = " ++ itS r
def isCon (both : Bool) : Say → Bool
  | .con c _ => both || !c
  | _ => false
def shutS (b : Bool) (t : Str) : Str := if b then "(" ++ t ++ ")" else t
mutual
def sayS : Say → Str
  | .cmp e t1 t2 => trmS t1 ++ (if e then " = " else " | ") ++ trmS t2
  | .cnt rows way => cntS rows way
  | .neg s => "not " ++ shutS (isCon true s) (sayS s)
  | .con c l => Txt.join (if c then " and " else " or ") (saysS c l)
  | .qu e x s => (if e then "some" else "all") ++ " " ++ x ++ " " ++ shutS (isCon true s) (sayS s)
  | .use n xs => n ++ "(" ++ Txt.join ", " xs ++ ")"
def saysS (c : Bool) : List Say → List Str
  | [] => []
  | s :: l => shutS (isCon c s) (sayS s) :: saysS c l
end
theorem saysS_map (c : Bool) (l : List Say) : saysS c l = l.map fun s => shutS (isCon c s) (sayS s) := by
  induction l with
  | nil => rw [saysS]; rfl
  | cons s l ih => rw [saysS, ih, List.map_cons]
/-! how long -/
theorem names_len : ∀ x ∈ allNames, x.length ≤ 3 := by decide +kernel
theorem uses_len : ∀ x ∈ allUses, x.length ≤ 8 := by decide +kernel
theorem signs_len : ∀ x ∈ allSigns, x.length ≤ 2 := by decide +kernel
theorem powS_len {q : Str × Int} (h : q.1 ∈ allNames ∧ 1 ≤ q.2 ∧ q.2 ≤ 4) : (powS q).length ≤ 6 := by
  have h1 := names_len _ h.1
  have h2 := itS_len (i := q.2) (by omega)
  have h3 : ("^" : Str).length = 1 := by decide +kernel
  unfold powS
  split
  · omega
  · rw [len_app, len_app]; omega
theorem trmW_len {t : Trm} (h : TrmOk t) : (trmW t).length ≤ 4 ∧ ∀ y ∈ trmW t, y.length ≤ 6 := by
  have hf := h.few
  have hp : ∀ y ∈ t.1.map powS, y.length ≤ 6 := fun y hy => by
    obtain ⟨q, hq, rfl⟩ := List.mem_map.mp hy
    exact powS_len (h.pw q hq)
  unfold trmW
  split
  · exact ⟨by rw [List.length_map]; omega, hp⟩
  · refine ⟨by rw [List.length_append, List.length_map]; simp only [List.length_cons, List.length_nil]; omega, fun y hy => ?_⟩
    rcases List.mem_append.mp hy with hy | hy
    · exact hp y hy
    · rw [List.mem_singleton.mp hy]
      have := itS_len (i := t.2) (by have := h.con; omega)
      omega
theorem trmS_len {t : Trm} (h : TrmOk t) : (trmS t).length ≤ 28 := by
  obtain ⟨h1, h2⟩ := trmW_len h
  have := join_len "*" (trmW t) h2
  have h3 : ("*" : Str).length = 1 := by decide +kernel
  unfold trmS
  rw [h3] at this
  have : (trmW t).length * (6 + 1) ≤ 4 * 7 := Nat.mul_le_mul_right _ h1
  omega
theorem rateW_len {q : Str × Int} (h : q.1 ∈ allNames ∧ q.2 ≠ 0 ∧ -4 ≤ q.2 ∧ q.2 ≤ 4) : (rateW q).length ≤ 6 := by
  have h1 := names_len _ h.1
  have h2 := itS_len (i := absI q.2) (by unfold absI; split <;> omega)
  have h3 : ("*" : Str).length = 1 := by decide +kernel
  unfold rateW
  split
  · omega
  · rw [len_app, len_app]; omega
theorem rateF_len {q : Str × Int} (h : q.1 ∈ allNames ∧ q.2 ≠ 0 ∧ -4 ≤ q.2 ∧ q.2 ≤ 4) (t : Str) : (rateF t q).length ≤ t.length + 9 := by
  have h1 := rateW_len h
  have h2 : ("-" : Str).length = 1 := by decide +kernel
  have h3 : (" + " : Str).length = 3 := by decide +kernel
  have h4 : (" - " : Str).length = 3 := by decide +kernel
  unfold rateF
  split <;> split <;> (try rw [len_app]) <;> (try rw [len_app]) <;> omega
theorem rates_len : ∀ (l : PowL) (t : Str), (∀ q ∈ l, q.1 ∈ allNames ∧ q.2 ≠ 0 ∧ -4 ≤ q.2 ∧ q.2 ≤ 4) → (l.foldl rateF t).length ≤ t.length + 9 * l.length
  | [], t, _ => by simp
  | q :: l, t, h => by
    have h1 := rateF_len (h q List.mem_cons_self) t
    have h2 := rates_len l (rateF t q) fun r hr => h r (List.mem_cons_of_mem _ hr)
    rw [List.foldl_cons, List.length_cons]
    omega
theorem cmpnS_len {r : Cmpn} (h : CmpnOk r) : (cmpnS r).length ≤ 24 := by
  have h1 := rates_len r.1 "" h.pw
  have h2 := h.few
  have h3 := signs_len _ h.sign
  have h4 := itS_len h.bnd
  have h5 : (" " : Str).length = 1 := by decide +kernel
  have h6 : ("" : Str).length = 0 := by decide +kernel
  unfold cmpnS ratesS
  rw [len_app, len_app, len_app, len_app]
  omega
end RL

set_option Elab.async false
set_option linter.all false
set_option maxRecDepth 100000
set_option maxHeartbeats 1000000
/-! RLgen4: comprehensions with two names, displays with a star -/
namespace RL
open PySem PySem.Spec PyProof.Rows L2
section
variable {X : Cx} {Γ : Ctx} {e o a b c d : Expr} {es : List Expr} {T U : Ty} {Ts Us : List Ty} {pos p p2 p3 p4 pos2 apos : Pos} {x : Str} {H0 : Bs} {D : Ends} {rest : List Stmt}
theorem se_star {e : Expr} {p : Pos} {es : List Expr} {env : Env} : starEach (.Starred e p :: es) env = (true, eval e env) :: starEach es env := by rw [starEach]
/-- [*e, f] -/
theorem g_lstStar (ha : G X Γ e (lstT Ts)) (hb : G X Γ b T) (hl : Ts.length + 1 ≤ sizeLine) (hs : starEach [b] X.env = (false, eval b X.env) :: starEach [] X.env := by exact se_cons rfl) : G X Γ (.List [.Starred e p, b] pos) (lstT (Ts ++ [T])) := fun σ H t Q q =>
  tE_frz (toE (pe_lst (StX.pa_star (pe e) (pa_cons (pe b) pa_nil hs) se_star)) (ha σ H t _ fun v H1 e1 ⟨l, vs, ev, hf, h1⟩ => ⟨l, vs, ev, .inr hf.sq, hb σ H1 (t.up e1) _ fun w H2 e2 h2 => ⟨by rw [List.length_append, ← h1.len]; simpa using hl, fun d hd => ⟨d, _, upd_same, trivial, fun od => by
    rw [upd_upd]
    exact q _ _ ((e1.trans e2).trans (Ex.new hd)) ⟨d, _, rfl, ⟨od, upd_same⟩, ((h1.up e2).append (show All2 [T] [w] H2 from ⟨h2, trivial⟩)).up (Ex.new hd)⟩⟩⟩⟩))
/-- x = [e for y, z in it] -/
theorem b_asgLc2 {α : Type} {x1 x2 y : Str} {j k : Nat} {elt iter : Expr} {scope : Scope} {px1 px2 tpos py spos : Pos} {kk : Nat} (i : Nat) (ks : List α) (A B R : α → Ty) [hSt : ∀ a, Stb (R a)] (hi : GI X Γ (.Tuple [.Name x1 px1, .Name x2 px2] kk tpos) iter (ks.map fun p => tupT X.K [A p, B p])) (hz : ks.length ≤ sizeLine)
    (hv : ∀ p ∈ ks, GC X scope ((((Γ.set k none).set j none).set j (some (A p))).set k (some (B p))) elt (R p)) (h : Bd X (Γ.set i (some (lstT (ks.map R)))) rest H0 D) (hjk : j ≠ k := by decide) (ok : BlkOk X.N X.env.scope scope [(x1, j), (x2, k)] := by first | exact blkOk_by rfl | exact blkOk_by (by decide +kernel))
    (hg : ∀ (s : Shared) (H : Hp) (C : Addr) (cl : List (Str × Addr)) (fp : List Addr), PG (X.blk s H scope (compEnvC scope cl C X.env) fp) (.Tuple [.Name x1 px1, .Name x2 px2] kk tpos) (gTup X.K 2 (gCons (gName j) (gCons (gName k) gNil))) := by exact fun _ _ _ _ _ => pg_tup rfl (pgs_cons (pg_name (by assumption) rfl (Or.inl rfl)) (pgs_cons (pg_name (by assumption) rfl (Or.inl rfl)) pgs_nil)))
    (hy : X.N[i]? = some y := by rfl) (hyl : X.env.scope.names.lookup y = some .local := by rfl) (hsw : swapsWith (.ListComp elt [⟨.Tuple [.Name x1 px1, .Name x2 px2] kk tpos, iter, [], 0⟩] scope pos) (some (.Name y py)) spos.line X.env = pure true := by exact sw_true rfl rfl rfl (by decide +kernel))
    (hc : X.calm = true := by rfl) (hN : X.N.Nodup := by first | assumption | decide) (hf : ∀ x, foldedSetIterable iter X.env x = pure x := by intro _; rfl) : Bd X Γ (.Assign [.Name y py] (.ListComp elt [⟨.Tuple [.Name x1 px1, .Name x2 px2] kk tpos, iter, [], 0⟩] scope pos) spos :: rest) H0 D :=
  b_cons fun σ H e0 t => toS (ps_setLc (i := i) (te := tCE X scope elt) (tt := tCT X scope []) (own := [(x1, j), (x2, k)]) hc hN hy hyl hsw pi ok hg (fun s H C cl fp => ⟨fun pins s' σ H1 Q I h => (h s H C cl fp).run pins s' I⟩) (fun s H C cl fp => ⟨fun pins s' σ H1 Q I h => (h s H C cl fp).run pins s' I⟩) hf)
    (g_lcR (ks.map fun p => some (R p)) hi ok hg (by rw [List.length_map, List.length_map]) (by rw [List.length_map]; exact hz) (fun j' T hT => by
      rw [List.getElem?_map] at hT
      cases hp : ks[j']? with
      | none => rw [hp] at hT; cases hT
      | some q =>
        rw [hp] at hT
        cases hT
        exact ⟨_, tgts2, .inr ⟨R q, by rw [List.getElem?_map, hp]; rfl, gct_nil, hv q (List.mem_of_getElem? hp)⟩⟩)
      (fun U hU => by obtain ⟨a, _, e⟩ := List.mem_map.mp hU; cases e; exact hSt a) (own_tup2 hjk) hc hN hf t fun Da H' acc e hD hacc hA => by
        have hk : keptT (ks.map fun p => some (R p)) = ks.map R := by unfold keptT; exact kept_all ks R
        rw [hk] at hA
        have hst : Stbs (ks.map R) := stbs_of fun U hU => by obtain ⟨a, _, e⟩ := List.mem_map.mp hU; subst e; exact hSt a
        refine tB_frz hacc trivial fun od => ?_
        exact h _ _ (e0.trans (e.mut hD)) ((t.up (e.mut hD)).set i ⟨Da, acc, rfl, ⟨od, upd_same⟩, hst.le (Le.mut hacc trivial) hA⟩))
end
/-! how long the texts are -/
def BL : Nat → Nat
  | 0 => 120
  | d + 1 => 3 * BL d + 40
theorem head_len {rows : List Cmpn} (h1 : rows.length ≤ 2) (h2 : ∀ r ∈ rows, CmpnOk r) : (headS rows).length ≤ 60 := by
  have hj := join_len "; " (rows.map cmpnS) (n := 24) fun y hy => by
    obtain ⟨r, hr, rfl⟩ := List.mem_map.mp hy
    exact cmpnS_len (h2 r hr)
  have e1 : ("; " : Str).length = 2 := by decide +kernel
  have e2 : ("#(" : Str).length = 2 := by decide +kernel
  have e3 : (")" : Str).length = 1 := by decide +kernel
  rw [List.length_map, e1] at hj
  have : rows.length * (24 + 2) ≤ 2 * 26 := Nat.mul_le_mul_right _ h1
  unfold headS
  rw [len_app, len_app]
  omega
theorem cnt_len {rows : List Cmpn} {way : Way} (h1 : rows.length ≤ 2) (h2 : ∀ r ∈ rows, CmpnOk r) (h3 : WayOk way) : (cntS rows way).length ≤ 80 := by
  have hh := head_len h1 h2
  have e1 : (" >= " : Str).length = 4 := by decide +kernel
  have e2 : (" = " : Str).length = 3 := by decide +kernel
  have e3 : (" / " : Str).length = 3 := by decide +kernel
  cases way with
  | least n =>
    have := itS_len (i := n) (by have : 1 ≤ n ∧ n ≤ 3 := h3; omega)
    unfold cntS
    rw [len_app, len_app]; omega
  | exact n =>
    have := itS_len (i := n) (by have : 0 ≤ n ∧ n ≤ 3 := h3; omega)
    unfold cntS
    rw [len_app, len_app]; omega
  | rest m r =>
    have h3' : 2 ≤ m ∧ m ≤ 4 ∧ 0 ≤ r ∧ r < m := h3
    have := itS_len (i := m) (by omega)
    have := itS_len (i := r) (by omega)
    unfold cntS
    rw [len_app, len_app, len_app, len_app]; omega
theorem shut_len (b : Bool) (t : Str) : (shutS b t).length ≤ t.length + 2 := by
  have e1 : ("(" : Str).length = 1 := by decide +kernel
  have e2 : (")" : Str).length = 1 := by decide +kernel
  unfold shutS
  split
  · rw [len_app, len_app]; omega
  · omega
theorem BL_ge (d : Nat) : 120 ≤ BL d := by
  induction d with
  | zero => exact Nat.le_refl _
  | succ d ih => show 120 ≤ 3 * BL d + 40; omega
theorem say_len {d : Nat} {s : Say} (h : SayOk d s) : (sayS s).length ≤ BL d := by
  have e1 : (" = " : Str).length = 3 := by decide +kernel
  have e2 : (" | " : Str).length = 3 := by decide +kernel
  have e3 : ("not " : Str).length = 4 := by decide +kernel
  have e4 : (" and " : Str).length = 5 := by decide +kernel
  have e5 : (" or " : Str).length = 4 := by decide +kernel
  have e6 : ("some" : Str).length = 4 := by decide +kernel
  have e7 : ("all" : Str).length = 3 := by decide +kernel
  have e8 : (" " : Str).length = 1 := by decide +kernel
  have e9 : ("(" : Str).length = 1 := by decide +kernel
  have e10 : (")" : Str).length = 1 := by decide +kernel
  have e11 : (", " : Str).length = 2 := by decide +kernel
  induction h with
  | @cmp d e t1 t2 h1 h2 =>
    have := trmS_len h1
    have := trmS_len h2
    have := BL_ge d
    rw [sayS, len_app, len_app]
    split <;> omega
  | @cnt d rows way h1 h2 h3 =>
    have := cnt_len h1.2 h2 h3
    have := BL_ge d
    rw [sayS]; omega
  | @neg d s h ih =>
    have := shut_len (isCon true s) (sayS s)
    rw [sayS, len_app]
    show _ ≤ 3 * BL d + 40
    omega
  | @con d c l hl h ih =>
    rw [sayS, saysS_map]
    have hj := join_len (if c then " and " else " or ") (l.map fun s => shutS (isCon c s) (sayS s)) (n := BL d + 2) fun y hy => by
      obtain ⟨s, hs, rfl⟩ := List.mem_map.mp hy
      have := shut_len (isCon c s) (sayS s)
      have := ih s hs
      omega
    rw [List.length_map] at hj
    have hs : (if c then (" and " : Str) else " or ").length ≤ 5 := by split <;> omega
    have h2 : l.length * (BL d + 2 + (if c then (" and " : Str) else " or ").length) ≤ 3 * (BL d + 7) := Nat.mul_le_mul hl.2 (by omega)
    show _ ≤ 3 * BL d + 40
    omega
  | @qu d e x s hx h ih =>
    have := shut_len (isCon true s) (sayS s)
    have := names_len _ hx
    rw [sayS, len_app, len_app, len_app, len_app]
    show _ ≤ 3 * BL d + 40
    split <;> omega
  | @use d n xs hn hl hx =>
    have := uses_len _ hn
    have hj := join_len ", " xs (n := 3) fun y hy => names_len _ (hx y hy)
    have h2 : xs.length * (3 + (", " : Str).length) ≤ 3 * 5 := Nat.mul_le_mul hl (by omega)
    have := BL_ge d
    rw [sayS, len_app, len_app, len_app]
    omega
theorem BL3 : BL 3 ≤ 5000 := by decide
end RL

set_option Elab.async false
set_option linter.all false
set_option maxRecDepth 100000
set_option maxHeartbeats 1000000
namespace K10
open PySem PySem.Spec PyProof.Rows L2 RL StX
section
variable {P : Program} {w : World} {K : PySem.W.Frag} {mg : Str → Option Value} {base : Heap}
theorem fit {n : Nat} (h : n ≤ 100000) : n ≤ sizeLine := Nat.le_trans h (by decide)
/-! terms -/
theorem ok_str (s : String) : PyData.strOk (s : Str) = true := by
  unfold PyData.strOk
  rw [Str.ofString_eq_toList, Array.all_eq_true]
  intro i hi
  simp only [List.getElem_toArray, List.getElem_map, decide_eq_true_eq]
  have h := (s.toList[i]'(by simpa using hi)).valid
  have h' : Nat.isValidChar (s.toList[i]'(by simpa using hi)).toNat := h
  unfold Nat.isValidChar at h'
  omega
theorem ok_app {x y : Str} (h : PyData.strOk x = true) (k : PyData.strOk y = true) : PyData.strOk (x ++ y) = true := by
  show (x.cps ++ y.cps).all _ = true
  rw [Array.all_append, Bool.and_eq_true]
  exact ⟨h, k⟩
theorem ok_name : ∀ x ∈ allNames, PyData.strOk x = true := by decide +kernel
theorem powS_ok {q : Str × Int} (h : q.1 ∈ allNames) : PyData.strOk (powS q) = true := by
  unfold powS
  split
  · exact ok_name _ h
  · exact ok_app (ok_app (ok_name _ h) (ok_str _)) (ok_str _)
theorem eqv_nilS (l : List PyData) : PyData.eqv (.list l) (.list []) = decide (l = []) := by
  cases l <;> simp [PyData.eqv, PyData.eqvAll]
theorem strs_dp (K : PySem.W.Frag) (l : List Str) : IsDp K (lstT (l.map fun z => strT z)) (.list (l.map PyData.str)) := dp_lst (areDp_map l fun _ _ => dp_str)
theorem strs_shaped {l : List Str} (h : ∀ x ∈ l, PyData.strOk x = true) : SeqAt.shaped (.list (l.map PyData.str)) = true := Lay.shaped (lay_list (n := 0) fun d hd => by
  obtain ⟨x, hx, rfl⟩ := List.mem_map.mp hd
  exact ⟨by simpa [PyData.canLay0] using h x hx, by simp [PyData.depth]⟩) (by decide)
abbrev Terms := { t : Trm // TrmOk t }
theorem sc_term_text : FnScope ["term", "powers", "constant", "words", "name", "power"] ["term"] (defScope s_term_text) := ⟨rfl, rfl, rfl, by decide +kernel, rfl, by decide +kernel, by decide +kernel⟩
theorem f_term_text (T : Tx fa fn ex K mg) : FnG P w K mg base 1 "term_text" ["term"] (spG (fun t : Terms => [trmT K t.1]) fun t => strT (trmS t.1)) := by
  refine T.fn d_term_text i_term_text "term_text" rfl q_glo_term_text rfl (fun _ _ _ _ _ _ us hl => match us, hl with | [_], _ => rfl) fun f fd F => ?_
  refine fn_G F sc_term_text (fun _ => rfl) fun t cdv Ar outer s H E hr nd D hD _ => ?_
  obtain ⟨⟨pw, c⟩, ht⟩ := t
  have hf := ht.few
  have hp := ht.pw
  have hc := ht.con
  refine b_asgT (T := tupT K [powT K pw, intT c]) (g := gTup K 2 (gCons (gName 1) (gCons (gName 2) gNil))) (pg_tup rfl (pgs_cons (pg_name nd rfl (Or.inl rfl)) (pgs_cons (pg_name nd rfl (Or.inl rfl)) pgs_nil))) (g_var 0) tgts2 ?_
  refine b_asgLc2 (j := 4) (k := 5) 3 pw (fun q => strT q.1) (fun q => intT q.2) (fun q => strT (powS q)) (gi_tup (Ts := pw.map (pwT K)) (g_var 1)) (fit (by have : pw.length ≤ 3 := hf; omega)) (fun q hq s H C cl fp => ?_) ?_
  · refine g_ite (gt_eqI (g_var 5) g_int) (fun h => (g_var 4).is ?_) fun h => ?_
    · have h' : q.2 = 1 := of_decide_eq_true h
      rw [powS, if_pos h']
    · have h' : ¬ q.2 = 1 := of_decide_eq_false h
      have h1 := names_len _ (hp q hq).1
      have h2 := itS_len (i := q.2) (by have := hp q hq; omega)
      have h3 : ("^" : Str).length = 1 := by decide +kernel
      refine g_joined (xs := [q.1, "^", itS q.2]) (gj_cons (g_fmtS (g_var 4) (fit (by omega))) (gj_cons g_str (gj_cons (g_fmtI (g_var 5) (log_small (by have := hp q hq; omega))) gj_nil))) ?_ ?_
      · simp only [List.map_cons, List.map_nil, List.sum_cons, List.sum_nil]
        exact fit (by omega)
      · rw [powS, if_neg h']
        show ((Str.empty ++ q.1) ++ "^") ++ itS q.2 = _
        rw [emp_app]
  · have hw := trmW_len ht
    have h1 : ("*" : Str).length = 1 := by decide +kernel
    have hl := itS_len (i := c) (by have : 1 ≤ c ∧ c ≤ 9 := hc; omega)
    have hne : (pw.map powS).map PyData.str = [] ↔ pw = [] := by rw [List.map_eq_nil_iff, List.map_eq_nil_iff]
    refine b_ret (g_join (ys := trmW (pw, c)) g_str (g_ite (gt_and2 (gt_eqI (g_var 2) g_int) fun _ => gt_neD (room64 hr) ((g_var 3).is (by rw [List.map_map]; rfl)) (g_lst ga_nil) (strs_dp _ (pw.map powS)) (dp_lst .nil) (strs_shaped fun x hx => by
        obtain ⟨q, hq, rfl⟩ := List.mem_map.mp hx
        exact powS_ok (hp q hq).1) (by decide +kernel)) (fun h => (g_var 3).is ?_) fun h => (g_lstStar (g_var 3) (g_strI (g_var 2) (log_small (by have : 1 ≤ c ∧ c ≤ 9 := hc; omega)) (T.free _ q_free_str)) ?_).is ?_) ?_) hD
    · rw [Bool.and_eq_true, decide_eq_true_eq, eqv_nilS, Bool.not_eq_true', decide_eq_false_iff_not, hne] at h
      rw [trmW, if_pos ⟨h.1, h.2⟩, List.map_map]
      rfl
    · rw [List.length_map]
      exact fit (by have : pw.length ≤ 3 := hf; omega)
    · have h' : ¬ (c = 1 ∧ pw ≠ []) := fun k => by
        have : (decide (c = 1) && !PyData.eqv (.list ((pw.map powS).map PyData.str)) (.list [])) = true := by
          rw [Bool.and_eq_true, decide_eq_true_eq, eqv_nilS, Bool.not_eq_true', decide_eq_false_iff_not, hne]
          exact k
        rw [this] at h
        cases h
      rw [trmW, if_neg h', List.map_append, List.map_map]
      rfl
    · have := sum_len (n := 6) (trmW (pw, c)) hw.2
      rw [h1]
      omega
end
end K10

set_option Elab.async false
set_option linter.all false
set_option maxRecDepth 100000
set_option maxHeartbeats 1000000
namespace K10
open PySem PySem.Spec PyProof.Rows L2 RL StX
section
variable {P : Program} {w : World} {K : PySem.W.Frag} {mg : Str → Option Value} {base : Heap}
abbrev Cmpns := { r : Cmpn // CmpnOk r }
theorem l_star : ("*" : Str).length = 1 := by decide +kernel
theorem l_minus : ("-" : Str).length = 1 := by decide +kernel
theorem l_plus3 : (" + " : Str).length = 3 := by decide +kernel
theorem l_minus3 : (" - " : Str).length = 3 := by decide +kernel
theorem l_sp : (" " : Str).length = 1 := by decide +kernel
theorem l_emp : ("" : Str).length = 0 := by decide +kernel
theorem l_and : (" and " : Str).length = 5 := by decide +kernel
theorem l_or : (" or " : Str).length = 4 := by decide +kernel
theorem sc_cmp_text : FnScope ["row", "rates", "sign", "bound", "text", "name", "rate", "word"] ["row"] (defScope s_comparison_text) := ⟨rfl, rfl, rfl, by decide +kernel, rfl, by decide +kernel, by decide +kernel⟩
theorem f_cmp_text (T : Tx fa fn ex K mg) : FnG P w K mg base 1 "comparison_text" ["row"] (spG (fun r : Cmpns => [cmpnT K r.1]) fun r => strT (cmpnS r.1)) := by
  refine T.fn d_comparison_text i_comparison_text "comparison_text" rfl q_glo_comparison_text rfl (fun _ _ _ _ _ _ us hl => match us, hl with | [_], _ => rfl) fun f fd F => ?_
  refine fn_G F sc_cmp_text (fun _ => rfl) fun r cdv Ar outer s H E hr nd D hD _ => ?_
  obtain ⟨⟨l, sg, b⟩, hr0⟩ := r
  have hf : 1 ≤ l.length ∧ l.length ≤ 2 := hr0.few
  have hp : ∀ q ∈ l, q.1 ∈ allNames ∧ q.2 ≠ 0 ∧ -4 ≤ q.2 ∧ q.2 ≤ 4 := hr0.pw
  have hb : -9 ≤ b ∧ b ≤ 9 := hr0.bnd
  have hs : sg.length ≤ 2 := signs_len _ hr0.sign
  refine b_asgT (T := tupT K [powT K l, strT sg, intT b]) (g := gTup K 3 (gCons (gName 1) (gCons (gName 2) (gCons (gName 3) gNil)))) (pg_tup rfl (pgs_cons (pg_name nd rfl (Or.inl rfl)) (pgs_cons (pg_name nd rfl (Or.inl rfl)) (pgs_cons (pg_name nd rfl (Or.inl rfl)) pgs_nil)))) (g_var 0) tgts3 ?_
  refine b_asg 4 g_str ?_
  refine b_for (Ts := l.map (pwT K)) (g := gTup K 2 (gCons (gName 5) (gCons (gName 6) gNil))) (fun i Δ => ∃ u5 u6 u7 : Option RL.Ty, Δ = [some (cmpnT K (l, sg, b)), some (powT K l), some (strT sg), some (intT b), some (strT ((l.take i).foldl rateF "")), u5, u6, u7]) (gi_tup (Ts := l.map (pwT K)) (g_var 1)) (pg_tup rfl (pgs_cons (pg_name nd rfl (Or.inl rfl)) (pgs_cons (pg_name nd rfl (Or.inl rfl)) pgs_nil))) ⟨none, none, none, rfl⟩ (fun H1 i T1 Δ b1 hT hΔ => ?_) fun Δ hΔ => ?_
  · obtain ⟨u5, u6, u7, rfl⟩ := hΔ
    rw [List.getElem?_map] at hT
    cases hq : l[i]? with
    | none => rw [hq] at hT; cases hT
    | some q =>
      rw [hq] at hT
      cases hT
      have hmem := List.mem_of_getElem? hq
      obtain ⟨q1, q2, q3, q4⟩ := hp q hmem
      have htake : l.take (i + 1) = l.take i ++ [q] := by rw [List.take_succ, hq]; rfl
      have hi : i < l.length := (List.getElem?_eq_some_iff.mp hq).1
      have ht := rates_len (l.take i) "" fun r hr => hp r (List.mem_of_mem_take hr)
      have htl : (l.take i).length ≤ 2 := by rw [List.length_take]; omega
      have e0 := l_emp
      have hlt : ((l.take i).foldl rateF "").length ≤ 18 := by omega
      have hab : -9 ≤ absI q.2 ∧ absI q.2 ≤ 9 := by unfold absI; split <;> omega
      have hw := rateW_len ⟨q1, q2, q3, q4⟩
      have hn := names_len _ q1
      have hi2 := itS_len hab
      have e1 := l_star
      have e2 := l_minus
      have e3 := l_plus3
      have e4 := l_minus3
      have habs := T.free _ q_free_abs
      refine ⟨_, tgts2, ?_⟩
      refine b_asg 7 (T := strT (rateW q)) (g_ite (gt_eqI (g_absI (g_var 6) habs) g_int) (fun h => (g_var 5).is ?_) fun h => ?_) ?_
      · have h' : absI q.2 = 1 := of_decide_eq_true h
        rw [rateW, if_pos h']
      · have h' : ¬ absI q.2 = 1 := of_decide_eq_false h
        refine g_joined (xs := [itS (absI q.2), "*", q.1]) (gj_cons (g_fmtI (g_absI (g_var 6) habs) (log_small hab)) (gj_cons g_str (gj_cons (g_fmtS (g_var 5) (fit (by omega))) gj_nil))) ?_ ?_
        · simp only [List.map_cons, List.map_nil, List.sum_cons, List.sum_nil]
          exact fit (by omega)
        · rw [rateW, if_neg h']
          show ((Str.empty ++ itS (absI q.2)) ++ "*") ++ q.1 = _
          rw [emp_app]
      have hfold : (l.take (i + 1)).foldl rateF "" = rateF ((l.take i).foldl rateF "") q := by
        rw [htake, List.foldl_append]
        rfl
      have fin : ∀ v : Str, v = rateF ((l.take i).foldl rateF "") q → Bd (BX P w K mg base ["row", "rates", "sign", "bound", "text", "name", "rate", "word"] d_comparison_text.qual d_comparison_text.scope f cdv Ar outer s H E) [some (cmpnT K (l, sg, b)), some (powT K l), some (strT sg), some (intT b), some (strT v), some (strT q.1), some (intT q.2), some (strT (rateW q))] [] ((Bs.of H).at H1) (turnD D (BX P w K mg base ["row", "rates", "sign", "bound", "text", "name", "rate", "word"] d_comparison_text.qual d_comparison_text.scope f cdv Ar outer s H E) ((defBody s_comparison_text).drop 3) ((Bs.of H).at H1) ((fun i Δ => ∃ u5 u6 u7 : Option RL.Ty, Δ = [some (cmpnT K (l, sg, b)), some (powT K l), some (strT sg), some (intT b), some (strT ((l.take i).foldl rateF "")), u5, u6, u7]) (i + 1))) := fun v hv => turn_nx ⟨some (strT q.1), some (intT q.2), some (strT (rateW q)), by rw [hfold, hv]⟩
      refine b_if (gt_eqS (g_var 4) g_str) (fun h => ?_) fun h => ?_
      · have h' : (l.take i).foldl rateF "" = "" := of_decide_eq_true h
        refine b_asg 4 (T := strT (rateF ((l.take i).foldl rateF "") q)) (g_ite (gt_ge (g_var 6) g_int) (fun k => (g_var 7).is ?_) fun k => ?_) ?_
        · have k' : 0 ≤ q.2 := of_decide_eq_true k
          rw [rateF, if_pos h', if_pos k']
        · have k' : ¬ 0 ≤ q.2 := of_decide_eq_false k
          refine g_joined (xs := ["-", rateW q]) (gj_cons g_str (gj_cons (g_fmtS (g_var 7) (fit (by omega))) gj_nil)) ?_ ?_
          · simp only [List.map_cons, List.map_nil, List.sum_cons, List.sum_nil]
            exact fit (by omega)
          · rw [rateF, if_pos h', if_neg k']
            show (Str.empty ++ "-") ++ rateW q = _
            rw [emp_app]
        · refine b_skip ?_
          exact fin _ rfl
      · have h' : ¬ (l.take i).foldl rateF "" = "" := of_decide_eq_false h
        refine b_asg 4 (T := strT (rateF ((l.take i).foldl rateF "") q)) (g_ite (gt_ge (g_var 6) g_int) (fun k => ?_) fun k => ?_) ?_
        · have k' : 0 ≤ q.2 := of_decide_eq_true k
          refine g_joined (xs := [(l.take i).foldl rateF "", " + ", rateW q]) (gj_cons (g_fmtS (g_var 4) (fit (by omega))) (gj_cons g_str (gj_cons (g_fmtS (g_var 7) (fit (by omega))) gj_nil))) ?_ ?_
          · simp only [List.map_cons, List.map_nil, List.sum_cons, List.sum_nil]
            exact fit (by omega)
          · rw [rateF, if_neg h', if_pos k']
            show ((Str.empty ++ _) ++ " + ") ++ rateW q = _
            rw [emp_app]
        · have k' : ¬ 0 ≤ q.2 := of_decide_eq_false k
          refine g_joined (xs := [(l.take i).foldl rateF "", " - ", rateW q]) (gj_cons (g_fmtS (g_var 4) (fit (by omega))) (gj_cons g_str (gj_cons (g_fmtS (g_var 7) (fit (by omega))) gj_nil))) ?_ ?_
          · simp only [List.map_cons, List.map_nil, List.sum_cons, List.sum_nil]
            exact fit (by omega)
          · rw [rateF, if_neg h', if_neg k']
            show ((Str.empty ++ _) ++ " - ") ++ rateW q = _
            rw [emp_app]
        · refine b_skip ?_
          exact fin _ rfl
  · obtain ⟨u5, u6, u7, rfl⟩ := hΔ
    rw [List.length_map, List.take_length]
    have ht := rates_len l "" hp
    have e0 := l_emp
    have e1 := l_sp
    have hi := itS_len hb
    refine b_ret (g_joined (xs := [l.foldl rateF "", " ", sg, " ", itS b]) (gj_cons (g_fmtS (g_var 4) (fit (by omega))) (gj_cons g_str (gj_cons (g_fmtS (g_var 2) (fit (by omega))) (gj_cons g_str (gj_cons (g_fmtI (g_var 3) (log_small hb)) gj_nil))))) ?_ ?_) hD
    · simp only [List.map_cons, List.map_nil, List.sum_cons, List.sum_nil]
      exact fit (by omega)
    · show ((((Str.empty ++ _) ++ " ") ++ sg) ++ " ") ++ itS b = _
      rw [emp_app]
      rfl
/-! counts -/
theorem l_gt : (" >= " : Str).length = 4 := by decide +kernel
theorem l_eq : (" = " : Str).length = 3 := by decide +kernel
theorem l_bar : (" | " : Str).length = 3 := by decide +kernel
theorem l_sl : (" / " : Str).length = 3 := by decide +kernel
theorem l_hd : ("#(" : Str).length = 2 := by decide +kernel
theorem l_op : ("(" : Str).length = 1 := by decide +kernel
theorem l_cl : (")" : Str).length = 1 := by decide +kernel
theorem l_semi : ("; " : Str).length = 2 := by decide +kernel
theorem l_com : (", " : Str).length = 2 := by decide +kernel
abbrev Cnts := { z : List Cmpn × Way // (1 ≤ z.1.length ∧ z.1.length ≤ 2) ∧ (∀ r ∈ z.1, CmpnOk r) ∧ WayOk z.2 }
theorem sc_cnt_text : FnScope ["part", "rows", "way", "number", "head", "row"] ["part"] (defScope s_count_text) := ⟨rfl, rfl, rfl, by decide +kernel, rfl, by decide +kernel, by decide +kernel⟩
theorem f_cnt_text (T : Tx fa fn ex K mg) : FnG P w K mg base 2 "count_text" ["part"] (spG (fun z : Cnts => [sayT K (.cnt z.1.1 z.1.2)]) fun z => strT (cntS z.1.1 z.1.2)) := by
  have FC : FnG P w K mg base 1 "comparison_text" ["row"] _ := f_cmp_text T
  refine T.fn d_count_text i_count_text "count_text" rfl q_glo_count_text rfl (fun _ _ _ _ _ _ us hl => match us, hl with | [_], _ => rfl) fun f fd F => ?_
  refine fn_G F sc_cnt_text (fun _ => rfl) fun z cdv Ar outer s H E hr nd D hD _ => ?_
  obtain ⟨⟨rows, way⟩, hr1, hr2, hw⟩ := z
  have hl1 : rows.length ≤ 2 := hr1.2
  have hok : ∀ r ∈ rows, CmpnOk r := hr2
  have hh := head_len hl1 hok
  have e1 := l_gt
  have e2 := l_eq
  have e3 := l_sl
  have e4 := l_hd
  have e5 := l_cl
  have e6 := l_semi
  have hc24 : ∀ y ∈ rows.map cmpnS, y.length ≤ 24 := fun y hy => by
    obtain ⟨r, hr, rfl⟩ := List.mem_map.mp hy
    exact cmpnS_len (hok r hr)
  have hjl := join_len "; " (rows.map cmpnS) hc24
  have hsl := sum_len (rows.map cmpnS) hc24
  rw [List.length_map, e6] at hjl
  rw [List.length_map] at hsl
  have h26 : rows.length * (24 + 2) ≤ 2 * 26 := Nat.mul_le_mul_right _ hl1
  have h24 : rows.length * 24 ≤ 2 * 24 := Nat.mul_le_mul_right _ hl1
  -- the head, then the two ends
  have head : ∀ (U W : RL.Ty), (∀ u5, Bd (BX P w K mg base ["part", "rows", "way", "number", "head", "row"] d_count_text.qual d_count_text.scope f cdv Ar outer s H E) [some (sayT K (.cnt rows way)), some (tupT K (rows.map (cmpnT K))), some U, some W, some (strT (headS rows)), u5] ((defBody s_count_text).drop 2) (Bs.of H) D) → Bd (BX P w K mg base ["part", "rows", "way", "number", "head", "row"] d_count_text.qual d_count_text.scope f cdv Ar outer s H E) [some (sayT K (.cnt rows way)), some (tupT K (rows.map (cmpnT K))), some U, some W, none, none] ((defBody s_count_text).drop 1) (Bs.of H) D := fun U W k => by
    refine b_asg 4 (T := strT (headS rows)) (g_addS (g_addS g_str (g_join (ys := rows.map cmpnS) g_str (g_lcM (i := 5) rows (cmpnT K) (fun r => strT (cmpnS r)) (gi_tup (Ts := rows.map (cmpnT K)) (g_var 1)) (fit (by omega)) (fun r hr' s H C cl fp => g_call FC hr ⟨r, hok r hr'⟩ (ga_cons (g_var 5) ga_nil)) (hR := by rw [List.map_map]; rfl)) ?_) ?_) g_str ?_) (k none)
    · rw [List.length_map, e6]
      omega
    · exact fit (by omega)
    · rw [len_app]
      exact fit (by omega)
  cases way with
  | least n =>
    have hn : 1 ≤ n ∧ n ≤ 3 := hw
    have hi := itS_len (i := n) (by omega)
    refine b_asgT (T := tupT K [tupT K (rows.map (cmpnT K)), strT "least", intT n]) (g := gTup K 3 (gCons (gName 1) (gCons (gName 2) (gCons (gName 3) gNil)))) (pg_tup rfl (pgs_cons (pg_name nd rfl (Or.inl rfl)) (pgs_cons (pg_name nd rfl (Or.inl rfl)) (pgs_cons (pg_name nd rfl (Or.inl rfl)) pgs_nil)))) (g_cutFromT (Ts := strT "count" :: tupT K (rows.map (cmpnT K)) :: wayTs K (.least n)) ((g_var 0).is (by rw [sayT]; rfl)) g_int (by decide)) tgts3 ?_
    refine head _ _ fun u5 => ?_
    refine b_if ((gt_eqS (g_var 2) g_str).is (b' := false) (by decide +kernel)) (fun h => by cases h) fun _ => ?_
    refine b_skip ?_
    refine b_ret (g_ite (T := strT (cntS rows (.least n))) ((gt_eqS (g_var 2) g_str).is (b' := true) (by decide +kernel)) (fun _ => g_joined (xs := [headS rows, " >= ", itS n]) (gj_cons (g_fmtS (g_var 4) (fit (by omega))) (gj_cons g_str (gj_cons (g_fmtI (g_var 3) (log_small (by omega))) gj_nil))) ?_ ?_) fun h => by cases h) hD
    · simp only [List.map_cons, List.map_nil, List.sum_cons, List.sum_nil]
      exact fit (by omega)
    · show ((Str.empty ++ _) ++ " >= ") ++ itS n = _
      rw [emp_app]
      rfl
  | exact n =>
    have hn : 0 ≤ n ∧ n ≤ 3 := hw
    have hi := itS_len (i := n) (by omega)
    refine b_asgT (T := tupT K [tupT K (rows.map (cmpnT K)), strT "exact", intT n]) (g := gTup K 3 (gCons (gName 1) (gCons (gName 2) (gCons (gName 3) gNil)))) (pg_tup rfl (pgs_cons (pg_name nd rfl (Or.inl rfl)) (pgs_cons (pg_name nd rfl (Or.inl rfl)) (pgs_cons (pg_name nd rfl (Or.inl rfl)) pgs_nil)))) (g_cutFromT (Ts := strT "count" :: tupT K (rows.map (cmpnT K)) :: wayTs K (.exact n)) ((g_var 0).is (by rw [sayT]; rfl)) g_int (by decide)) tgts3 ?_
    refine head _ _ fun u5 => ?_
    refine b_if ((gt_eqS (g_var 2) g_str).is (b' := false) (by decide +kernel)) (fun h => by cases h) fun _ => ?_
    refine b_skip ?_
    refine b_ret (g_ite (T := strT (cntS rows (.exact n))) ((gt_eqS (g_var 2) g_str).is (b' := false) (by decide +kernel)) (fun h => by cases h) fun _ => g_joined (xs := [headS rows, " = ", itS n]) (gj_cons (g_fmtS (g_var 4) (fit (by omega))) (gj_cons g_str (gj_cons (g_fmtI (g_var 3) (log_small (by omega))) gj_nil))) ?_ ?_) hD
    · simp only [List.map_cons, List.map_nil, List.sum_cons, List.sum_nil]
      exact fit (by omega)
    · show ((Str.empty ++ _) ++ " = ") ++ itS n = _
      rw [emp_app]
      rfl
  | rest m r =>
    have hn : 2 ≤ m ∧ m ≤ 4 ∧ 0 ≤ r ∧ r < m := hw
    have hi := itS_len (i := m) (by omega)
    have hj := itS_len (i := r) (by omega)
    refine b_asgT (T := tupT K [tupT K (rows.map (cmpnT K)), strT "rest", tupT K [intT m, intT r]]) (g := gTup K 3 (gCons (gName 1) (gCons (gName 2) (gCons (gName 3) gNil)))) (pg_tup rfl (pgs_cons (pg_name nd rfl (Or.inl rfl)) (pgs_cons (pg_name nd rfl (Or.inl rfl)) (pgs_cons (pg_name nd rfl (Or.inl rfl)) pgs_nil)))) (g_cutFromT (Ts := strT "count" :: tupT K (rows.map (cmpnT K)) :: wayTs K (.rest m r)) ((g_var 0).is (by rw [sayT]; rfl)) g_int (by decide)) tgts3 ?_
    refine head _ _ fun u5 => ?_
    refine b_if ((gt_eqS (g_var 2) g_str).is (b' := true) (by decide +kernel)) (fun _ => ?_) fun h => by cases h
    refine b_ret (T := strT (cntS rows (.rest m r))) (g_joined (xs := [headS rows, " / ", itS m, " = ", itS r]) (gj_cons (g_fmtS (g_var 4) (fit (by omega))) (gj_cons g_str (gj_cons (g_fmtI (g_ixT (T := intT m) (g_var 3) g_int) (log_small (by omega))) (gj_cons g_str (gj_cons (g_fmtI (g_ixT (T := intT r) (g_var 3) g_int) (log_small (by omega))) gj_nil))))) ?_ ?_) hD
    · simp only [List.map_cons, List.map_nil, List.sum_cons, List.sum_nil]
      exact fit (by omega)
    · show ((((Str.empty ++ _) ++ " / ") ++ itS m) ++ " = ") ++ itS r = _
      rw [emp_app]
      rfl
end
end K10

set_option Elab.async false
set_option linter.all false
set_option maxRecDepth 100000
set_option maxHeartbeats 1000000
/-! RLkw: calls with keywords only -/
namespace RL
open PySem PySem.Spec PyProof.Rows L2
section
variable {X : Cx} {CX : CXT} {k n : Nat} {f : Addr} {fd : FuncData} {ps ks : List Str} {sp : Sp} {E : XK} {x : Str} {p pos : Pos} {kws : List Keyword} {tk : TA} {g : List Value → List Value → List Value} {gV : List V → List V → List V}
theorem pe_callK0 (F : FnOk X.prog X.w X.K X.mg X.base CX k f fd ps sp) (hr : Room k X.A) (hg : L2.Gl X x) (hm : X.mg x = some (.ref f)) (hk : PySem.W.keepIn X.K (.ref f) = true) (hb : KBn X.K fd ps 0 ks g gV) (hx : Passes CX X E) (hkw : PK X kws tk)
    (hall : (backToKw pos (keywordEach kws X.env)).all (·.1.isSome) = true := by rfl) (hks : (backToKw pos (keywordEach kws X.env)).filterMap (·.1) = ks := by rfl) (hdb : (x == ("__debug__" : Str)) = false := by decide)
    (hpl : ((backTo pos (starEach [] X.env)).any (·.1) || (backToKw pos (keywordEach kws X.env)).any (·.1.isNone)) = false := by rfl) :
    PE X (.Call (.Name x p) [] kws pos) (tCallN 0 ks.length sp gV E tNil tk) := by
  refine ⟨fun pins s σ H Q I h => ?_⟩
  refine wpAny_Call_Name_kw (ld_glob I hg hm ?_ hdb)
  refine PySem.W.callWith_KW0 (h₀ := X.base) I.ok.mod.kin hk hall ?_ hpl
  refine thn (hkw.run pos pins s σ H _ I h) fun ws s2 ⟨zs, H2, I2, rz, l1, l2, q2⟩ => ⟨I2.kIn, ?_⟩
  rw [hks]
  exact run_fnN (us := []) (vs := []) F hr hb hx I2 .nil rz rfl l2 q2
end
/-- a def that keeps a promise, called with values or with all of them as keywords, in the order of ks -/
structure FnGK (P : Program) (w : World) (K : PySem.W.Frag) (mg : Str → Option Value) (base : Heap) (k : Nat) (x : Str) (ps : List Str) (sp : Sp) : Prop where
  ex : ∃ f fd, FnOk P w K mg base CX0 k f fd ps sp ∧ mg x = some (.ref f) ∧ PySem.W.keepIn K (.ref f) = true ∧ Binds K fd ps [] ∧ KBn K fd ps 0 ps (fun us ws => us ++ ws) (fun vs zs => vs ++ zs)
theorem FnGK.fn {P : Program} {w : World} {K : PySem.W.Frag} {mg : Str → Option Value} {base : Heap} {k : Nat} {x : Str} {ps : List Str} {sp : Sp} (F : FnGK P w K mg base k x ps sp) : FnG P w K mg base k x ps sp := by
  obtain ⟨f, fd, h1, h2, h3, h4, h5⟩ := F.ex
  exact ⟨f, fd, h1, h2, h3, h4⟩
theorem FunD.bindsKw {K : PySem.W.Frag} {x qual : Str} {params : Arguments} {body : List Stmt} {scope : Scope} {kws : List (Str × V)} {f : Addr} {fd : FuncData} {ps : List Str} (F : FunD K x qual params body scope [] kws f fd)
    (h : ∀ (kV doc pm : Value) (an : Option Addr) (cdv ct : Value) (ws : List Value), ws.length = ps.length → bindArgs (PySem.W.fnOf x qual params body scope .none kV doc pm an cdv ct) ⟨[], ps.zip ws⟩ = pure (ps.zip ws)) : KBn K fd ps 0 ps (fun us ws => us ++ ws) (fun vs zs => vs ++ zs) := by
  obtain ⟨oc, od, dV, kV, doc, pm, an, cdv, ct, osl, rfl, lk, hcd, hD, hK⟩ := F.ex
  rcases hD with ⟨_, rfl⟩ | ⟨e, _⟩
  · refine ⟨fun s us ws _ h1 h2 => ?_, fun r1 r2 => r1.append r2⟩
    obtain rfl : us = [] := List.length_eq_zero_iff.mp h1
    exact .of_eq (h kV doc pm an cdv ct ws h2)
  · exact absurd rfl e
section
variable {qa : List He.Fa} {qn : List He.DefD} {ex : PySem.W.Frag → Bool} {K : PySem.W.Frag} {mg : Str → Option Value} {P : Program} {w : World} {base : Heap} {k : Nat} {ps : List Str} {sp : Sp}
theorem Tx.fnK (T : Tx qa qn ex K mg) (d : He.DefD) (h : d ∈ qn) (x : Str) (hx : d.at_ = (x, none)) (hg : He.Fa.glo x ∈ qa) (hz : d.dfl = [])
    (hb : ∀ (kV doc pm : Value) (an : Option Addr) (cdv ct : Value) (us : List Value), us.length = ps.length → bindArgs (PySem.W.fnOf d.name d.qual d.params d.body d.scope .none kV doc pm an cdv ct) ⟨us, []⟩ = pure (ps.zip us))
    (hbk : ∀ (kV doc pm : Value) (an : Option Addr) (cdv ct : Value) (us : List Value), us.length = ps.length → bindArgs (PySem.W.fnOf d.name d.qual d.params d.body d.scope .none kV doc pm an cdv ct) ⟨[], ps.zip us⟩ = pure (ps.zip us))
    (ok : ∀ f fd, FunD K d.name d.qual d.params d.body d.scope [] (d.kws K) f fd → FnOk P w K mg base CX0 k f fd ps sp) : FnGK P w K mg base k x ps sp := by
  obtain ⟨fd, F⟩ := T.def_ d h
  have e0 : d.dvs K = [] := by unfold He.DefD.dvs; rw [hz]; rfl
  rw [e0] at F
  refine ⟨_, fd, ok _ _ F, ?_, F.kp, F.bindsN hb, FunD.bindsKw F hbk⟩
  have e : He.fAd K d.at_ = He.ga K x := by rw [hx]; rfl
  rw [e]
  exact T.glo x hg
end
section
variable {X : Cx} {Γ : Ctx} {e : Expr} {T : Ty} {pos p kpos : Pos} {x kw : Str} {α : Type} {A : α → List Ty} {R : α → Ty} {k : Nat}
/-- f(k = e) -/
theorem g_callK1 (F : FnGK X.prog X.w X.K X.mg X.base k x [kw] (spG A R)) (hr : Room k X.A) (i : α) (ha : G X Γ e T) (hT : ∀ v H, T v H → All2 (A i) [v] H := by exact fun _ _ h => ⟨h, trivial⟩)
    (hg : L2.Gl X x := by rfl) (hdb : (x == ("__debug__" : Str)) = false := by decide) (hall : (backToKw pos (keywordEach [⟨some kw, e, kpos⟩] X.env)).all (·.1.isSome) = true := by rfl) (hks : (backToKw pos (keywordEach [⟨some kw, e, kpos⟩] X.env)).filterMap (·.1) = [kw] := by rfl)
    (hpl : ((backTo pos (starEach [] X.env)).any (·.1) || (backToKw pos (keywordEach [⟨some kw, e, kpos⟩] X.env)).any (·.1.isNone)) = false := by rfl) {T' : Ty} (hR : R i = T' := by rfl) : G X Γ (.Call (.Name x p) [] [⟨some kw, e, kpos⟩] pos) T' := fun σ H t Q q => by
  subst hR
  obtain ⟨f, fd, F, hm, hk, _, hb⟩ := F.ex
  exact toE (pe_callK0 F hr hg hm hk hb pass0 (pk_cons (pe e) pk_nil) hall hks hdb hpl) (ha σ H t _ fun v H1 e1 h1 => ⟨rfl, rfl, i, hT v H1 h1, fun v' H2 e2 h2 => q v' H2 (e1.trans e2) h2⟩)
end
end RL

set_option Elab.async false
set_option linter.all false
set_option maxRecDepth 100000
set_option maxHeartbeats 1000000
namespace K10
open PySem PySem.Spec PyProof.Rows L2 RL StX
section
variable {P : Program} {w : World} {K : PySem.W.Frag} {mg : Str → Option Value} {base : Heap}
/-- which words are shut in -/
def shutL (both : Bool) : List Str := if both then ["and", "or"] else ["or"]
theorem shut_word (both : Bool) (s : Say) : ((shutL both).any fun z => z == s.word) = isCon both s := by
  cases s with
  | cmp e _ _ => simp only [Say.word, isCon]; cases both <;> cases e <;> decide +kernel
  | cnt _ _ => simp only [Say.word, isCon]; cases both <;> decide +kernel
  | neg _ => simp only [Say.word, isCon]; cases both <;> decide +kernel
  | con c _ => simp only [Say.word, isCon]; cases both <;> cases c <;> decide +kernel
  | qu e _ _ => simp only [Say.word, isCon]; cases both <;> cases e <;> decide +kernel
  | use _ _ => simp only [Say.word, isCon]; cases both <;> decide +kernel
abbrev SayAt (d : Nat) := { s : Say // SayOk d s }
abbrev shT (K : PySem.W.Frag) (both : Bool) : RL.Ty := tupT K ((shutL both).map fun z => strT z)
/-- a saying is a tuple of its word and more -/
theorem G.say {X : Cx} {Γ : RL.Ctx} {e : Expr} {s : Say} (h : G X Γ e (sayT X.K s)) : G X Γ e (tupT X.K (strT s.word :: tailT X.K s)) := h.is (by rw [sayT_eq])
theorem at0 {T0 : RL.Ty} {Ts : List RL.Ty} : L2.atI (T0 :: Ts) 0 = some T0 := by
  rw [atI_one (by decide) (by rw [List.length_cons]; omega)]
  rfl
theorem say_len3 {d : Nat} {s : Say} (hd : d ≤ 3) (h : SayOk d s) : (sayS s).length ≤ 5000 := by
  have h1 := say_len h
  have h2 : BL d ≤ BL 3 := by
    have : d = 0 ∨ d = 1 ∨ d = 2 ∨ d = 3 := by omega
    rcases this with rfl | rfl | rfl | rfl <;> decide
  exact Nat.le_trans h1 (Nat.le_trans h2 BL3)
theorem sc_inner : FnScope ["saying", "shut", "text"] ["saying", "shut"] (defScope s_inner_text) := ⟨rfl, rfl, rfl, by decide +kernel, rfl, by decide +kernel, by decide +kernel⟩
theorem f_inner (T : Tx fa fn ex K mg) {d k : Nat} (hd : d ≤ 3) (FS : FnG P w K mg base k "saying_text" ["saying"] (spG (fun s : SayAt d => [sayT K s.1]) fun s => strT (sayS s.1))) : FnG P w K mg base (k + 1) "inner_text" ["saying", "shut"] (spG (fun z : SayAt d × Bool => [sayT K z.1.1, shT K z.2]) fun z => strT (shutS (isCon z.2 z.1.1) (sayS z.1.1))) := by
  refine T.fn d_inner_text i_inner_text "inner_text" rfl q_glo_inner_text rfl (fun _ _ _ _ _ _ us hl => match us, hl with | [_, _], _ => rfl) fun f fd F => ?_
  refine fn_G F sc_inner (fun _ => rfl) fun z cdv Ar outer s H E hr nd D hD _ => ?_
  obtain ⟨⟨sy, hs⟩, both⟩ := z
  have hl := say_len3 hd hs
  have e1 := l_op
  have e2 := l_cl
  refine b_asg 2 (g_call FS hr ⟨sy, hs⟩ (ga_cons (g_var 0) ga_nil)) ?_
  refine b_ret (T := strT (shutS (isCon both sy) (sayS sy))) (g_ite (g_inS (zs := shutL both) (g_ixT (T := strT sy.word) (G.say (g_var 0)) g_int at0) (g_var 1)) (fun h => ?_) fun h => (g_var 2).is ?_) hD
  · rw [shut_word] at h
    refine g_joined (xs := ["(", sayS sy, ")"]) (gj_cons g_str (gj_cons (g_fmtS (g_var 2) (fit (by omega))) (gj_cons g_str gj_nil))) ?_ ?_
    · simp only [List.map_cons, List.map_nil, List.sum_cons, List.sum_nil]
      exact fit (by omega)
    · rw [shutS, if_pos h]
      show ((Str.empty ++ "(") ++ sayS sy) ++ ")" = _
      rw [emp_app]
  · rw [shut_word] at h
    rw [shutS, if_neg (by rw [h]; decide)]
theorem sc_say : FnScope ["saying", "word", "shut", "inner"] ["saying"] (defScope s_saying_text) := ⟨rfl, rfl, rfl, by decide +kernel, rfl, by decide +kernel, by decide +kernel⟩
def isCmp : Say → Bool
  | .cmp _ _ _ => true
  | _ => false
def isCnt : Say → Bool
  | .cnt _ _ => true
  | _ => false
def isUse : Say → Bool
  | .use _ _ => true
  | _ => false
def isNeg : Say → Bool
  | .neg _ => true
  | _ => false
def isQu : Say → Bool
  | .qu _ _ _ => true
  | _ => false
theorem sayS_cmp (e : Bool) (t1 t2 : Trm) : sayS (.cmp e t1 t2) = trmS t1 ++ (if e then (" = " : Str) else " | ") ++ trmS t2 := by
  rw [sayS]
  cases e <;> rfl
theorem sayS_con (c : Bool) (l : List Say) : sayS (.con c l) = Txt.join (if c then (" and " : Str) else " or ") (l.map fun s => shutS (isCon c s) (sayS s)) := by
  rw [sayS, saysS_map]
theorem sayS_qu (e : Bool) (x : Str) (s : Say) : sayS (.qu e x s) = (Say.qu e x s).word ++ " " ++ x ++ " " ++ shutS (isCon true s) (sayS s) := by
  rw [sayS]
  cases e <;> rfl
theorem ok_cmp {d : Nat} {e : Bool} {t1 t2 : Trm} (h : SayOk d (.cmp e t1 t2)) : TrmOk t1 ∧ TrmOk t2 := by
  cases h with
  | cmp a b => exact ⟨a, b⟩
theorem ok_cnt {d : Nat} {rows : List Cmpn} {way : Way} (h : SayOk d (.cnt rows way)) : (1 ≤ rows.length ∧ rows.length ≤ 2) ∧ (∀ r ∈ rows, CmpnOk r) ∧ WayOk way := by
  cases h with
  | cnt a b c => exact ⟨a, b, c⟩
theorem ok_neg {d : Nat} {s : Say} (h : SayOk d (.neg s)) : ∃ d', d = d' + 1 ∧ SayOk d' s := by
  cases h with
  | neg a => exact ⟨_, rfl, a⟩
theorem ok_con {d : Nat} {c : Bool} {l : List Say} (h : SayOk d (.con c l)) : ∃ d', d = d' + 1 ∧ (2 ≤ l.length ∧ l.length ≤ 3) ∧ ∀ s ∈ l, SayOk d' s := by
  cases h with
  | con a b => exact ⟨_, rfl, a, b⟩
theorem ok_qu {d : Nat} {e : Bool} {x : Str} {s : Say} (h : SayOk d (.qu e x s)) : ∃ d', d = d' + 1 ∧ x ∈ allNames ∧ SayOk d' s := by
  cases h with
  | qu a b => exact ⟨_, rfl, a, b⟩
theorem ok_use {d : Nat} {n : Str} {xs : List Str} (h : SayOk d (.use n xs)) : n ∈ allUses ∧ xs.length ≤ 3 ∧ ∀ x ∈ xs, x ∈ allNames := by
  cases h with
  | use a b c => exact ⟨a, b, c⟩
theorem of_cmp {s : Say} (h : isCmp s = true) : ∃ e t1 t2, s = .cmp e t1 t2 := by
  cases s with
  | cmp e t1 t2 => exact ⟨e, t1, t2, rfl⟩
  | cnt _ _ => cases h
  | neg _ => cases h
  | con _ _ => cases h
  | qu _ _ _ => cases h
  | use _ _ => cases h
theorem of_cnt {s : Say} (h : isCnt s = true) : ∃ r y, s = .cnt r y := by
  cases s with
  | cmp _ _ _ => cases h
  | cnt r y => exact ⟨r, y, rfl⟩
  | neg _ => cases h
  | con _ _ => cases h
  | qu _ _ _ => cases h
  | use _ _ => cases h
theorem of_neg {s : Say} (h : isNeg s = true) : ∃ r, s = .neg r := by
  cases s with
  | cmp _ _ _ => cases h
  | cnt _ _ => cases h
  | neg r => exact ⟨r, rfl⟩
  | con _ _ => cases h
  | qu _ _ _ => cases h
  | use _ _ => cases h
theorem of_con {s : Say} (h1 : isCmp s = false) (h2 : isCnt s = false) (h3 : isUse s = false) (h4 : isNeg s = false) (h5 : isQu s = false) : ∃ c l, s = .con c l := by
  cases s with
  | cmp _ _ _ => cases h1
  | cnt _ _ => cases h2
  | neg _ => cases h4
  | con c l => exact ⟨c, l, rfl⟩
  | qu _ _ _ => cases h5
  | use _ _ => cases h3
theorem of_qu {s : Say} (h : isQu s = true) : ∃ e x r, s = .qu e x r := by
  cases s with
  | cmp _ _ _ => cases h
  | cnt _ _ => cases h
  | neg _ => cases h
  | con _ _ => cases h
  | qu e x r => exact ⟨e, x, r, rfl⟩
  | use _ _ => cases h
theorem of_use {s : Say} (h : isUse s = true) : ∃ n xs, s = .use n xs := by
  cases s with
  | cmp _ _ _ => cases h
  | cnt _ _ => cases h
  | neg _ => cases h
  | con _ _ => cases h
  | qu _ _ _ => cases h
  | use n xs => exact ⟨n, xs, rfl⟩
theorem t_cmp (s : Say) : (([("equal" : Str), "divides"]).any fun z => z == s.word) = isCmp s := by
  cases s with
  | cmp e _ _ => simp only [Say.word, isCmp]; cases e <;> decide +kernel
  | cnt _ _ => simp only [Say.word, isCmp]; decide +kernel
  | neg _ => simp only [Say.word, isCmp]; decide +kernel
  | con c _ => simp only [Say.word, isCmp]; cases c <;> decide +kernel
  | qu e _ _ => simp only [Say.word, isCmp]; cases e <;> decide +kernel
  | use _ _ => simp only [Say.word, isCmp]; decide +kernel
theorem t_qu (s : Say) : (([("some" : Str), "all"]).any fun z => z == s.word) = isQu s := by
  cases s with
  | cmp e _ _ => simp only [Say.word, isQu]; cases e <;> decide +kernel
  | cnt _ _ => simp only [Say.word, isQu]; decide +kernel
  | neg _ => simp only [Say.word, isQu]; decide +kernel
  | con c _ => simp only [Say.word, isQu]; cases c <;> decide +kernel
  | qu e _ _ => simp only [Say.word, isQu]; cases e <;> decide +kernel
  | use _ _ => simp only [Say.word, isQu]; decide +kernel
theorem t_cnt (s : Say) : decide (s.word = "count") = isCnt s := by
  cases s with
  | cmp e _ _ => (show decide ((if e then ("equal" : Str) else "divides") = "count") = false; cases e <;> decide +kernel)
  | cnt _ _ => (show decide (("count" : Str) = "count") = true; decide +kernel)
  | neg _ => (show decide (("not" : Str) = "count") = false; decide +kernel)
  | con c _ => (show decide ((if c then ("and" : Str) else "or") = "count") = false; cases c <;> decide +kernel)
  | qu e _ _ => (show decide ((if e then ("some" : Str) else "all") = "count") = false; cases e <;> decide +kernel)
  | use _ _ => (show decide (("use" : Str) = "count") = false; decide +kernel)
theorem t_use (s : Say) : decide (s.word = "use") = isUse s := by
  cases s with
  | cmp e _ _ => (show decide ((if e then ("equal" : Str) else "divides") = "use") = false; cases e <;> decide +kernel)
  | cnt _ _ => (show decide (("count" : Str) = "use") = false; decide +kernel)
  | neg _ => (show decide (("not" : Str) = "use") = false; decide +kernel)
  | con c _ => (show decide ((if c then ("and" : Str) else "or") = "use") = false; cases c <;> decide +kernel)
  | qu e _ _ => (show decide ((if e then ("some" : Str) else "all") = "use") = false; cases e <;> decide +kernel)
  | use _ _ => (show decide (("use" : Str) = "use") = true; decide +kernel)
theorem t_neg (s : Say) : decide (s.word = "not") = isNeg s := by
  cases s with
  | cmp e _ _ => (show decide ((if e then ("equal" : Str) else "divides") = "not") = false; cases e <;> decide +kernel)
  | cnt _ _ => (show decide (("count" : Str) = "not") = false; decide +kernel)
  | neg _ => (show decide (("not" : Str) = "not") = true; decide +kernel)
  | con c _ => (show decide ((if c then ("and" : Str) else "or") = "not") = false; cases c <;> decide +kernel)
  | qu e _ _ => (show decide ((if e then ("some" : Str) else "all") = "not") = false; cases e <;> decide +kernel)
  | use _ _ => (show decide (("use" : Str) = "not") = false; decide +kernel)
theorem w_eq (e : Bool) : decide ((if e then ("equal" : Str) else "divides") = "equal") = e := by cases e <;> decide +kernel
theorem w_and (c : Bool) : decide ((if c then ("and" : Str) else "or") = "and") = c := by cases c <;> decide +kernel
abbrev NS : List Str := ["saying", "word", "shut", "inner"]
theorem f_say0 (T : Tx fa fn ex K mg) {d : Nat} (hd : d ≤ 3) (FI : ∀ d', d = d' + 1 → FnG P w K mg base (2 * d' + 4) "inner_text" ["saying", "shut"] (spG (fun z : SayAt d' × Bool => [sayT K z.1.1, shT K z.2]) fun z => strT (shutS (isCon z.2 z.1.1) (sayS z.1.1)))) :
    FnGK P w K mg base (2 * d + 3) "saying_text" ["saying"] (spG (fun s : SayAt d => [sayT K s.1]) fun s => strT (sayS s.1)) := by
  have FT : FnG P w K mg base 1 "term_text" ["term"] _ := f_term_text T
  have FC : FnG P w K mg base 2 "count_text" ["part"] _ := f_cnt_text T
  refine Tx.fnK T d_saying_text i_saying_text "saying_text" rfl q_glo_saying_text rfl (fun _ _ _ _ _ _ us hl => match us, hl with | [_], _ => rfl) (fun _ _ _ _ _ _ us hl => match us, hl with | [_], _ => rfl) fun f fd F => ?_
  refine fn_G (k := 2 * d + 2) F sc_say (fun _ => rfl) fun z cdv Ar outer s H E hr nd D hD _ => ?_
  obtain ⟨sy, hs⟩ := z
  have hr2 : Room 2 (Ar.deeper (envOfC d_saying_text.qual d_saying_text.scope s.heap.objs.size f cdv)) := hr.mono (by omega)
  have hl := say_len3 hd hs
  change Bd (BX P w K mg base NS d_saying_text.qual d_saying_text.scope f cdv Ar outer s H E) [some (sayT K sy), none, none, none] _ _ _
  refine b_asg 1 (T := strT sy.word) (g_ixT (T := strT sy.word) (G.say (g_var 0)) g_int at0) ?_
  change Bd _ [some (sayT K sy), some (strT sy.word), none, none] _ _ _
  -- products
  refine b_if ((g_inS (zs := ["equal", "divides"]) (g_var 1) (g_tup (ga_cons g_str (ga_cons g_str ga_nil)))).is (t_cmp sy)) (fun h => ?_) fun hcmp => ?_
  · obtain ⟨e, t1, t2, rfl⟩ := of_cmp h
    obtain ⟨h1, h2⟩ := ok_cmp hs
    have a1 := trmS_len h1
    have a2 := trmS_len h2
    have e1 := l_eq
    have e2 := l_bar
    refine b_ret (T := strT (sayS (.cmp e t1 t2))) ?_ hD
    rw [sayS_cmp]
    refine g_addS (g_addS (z := if e then " = " else " | ") (g_call FT (hr2.mono (by decide)) ⟨t1, h1⟩ (ga_cons (g_ixT (Ts := [strT (if e then "equal" else "divides"), trmT K t1, trmT K t2]) ((g_var 0).is (by rw [sayT]; rfl)) g_int) ga_nil)) (g_ite ((gt_eqS (g_var 1) g_str).is (w_eq e)) (fun h => g_str.is (by rw [h]; rfl)) fun h => g_str.is (by rw [h]; rfl)) (fit (by split <;> omega))) (g_call FT (hr2.mono (by decide)) ⟨t2, h2⟩ (ga_cons (g_ixT (Ts := [strT (if e then "equal" else "divides"), trmT K t1, trmT K t2]) ((g_var 0).is (by rw [sayT]; rfl)) g_int) ga_nil)) (by rw [len_app]; exact fit (by split <;> omega))
  refine b_skip ?_
  -- counts
  refine b_if ((gt_eqS (g_var 1) g_str).is (t_cnt sy)) (fun h => ?_) fun hcnt => ?_
  · obtain ⟨rows, way, rfl⟩ := of_cnt h
    obtain ⟨h1, h2, h3⟩ := ok_cnt hs
    refine b_ret (T := strT (sayS (.cnt rows way))) ?_ hD
    rw [sayS]
    exact g_call FC hr2 ⟨(rows, way), h1, h2, h3⟩ (ga_cons (g_var 0) ga_nil)
  refine b_skip ?_
  -- uses
  refine b_if ((gt_eqS (g_var 1) g_str).is (t_use sy)) (fun h => ?_) fun huse => ?_
  · obtain ⟨n, xs, rfl⟩ := of_use h
    obtain ⟨hn, hl2, hx⟩ := ok_use hs
    have a1 := uses_len _ hn
    have a2 : ∀ y ∈ xs, y.length ≤ 3 := fun y hy => names_len _ (hx y hy)
    have a3 := join_len ", " xs a2
    have a4 := sum_len xs a2
    have e1 := l_com
    have e2 := l_op
    have e3 := l_cl
    rw [e1] at a3
    have a5 : xs.length * (3 + 2) ≤ 3 * 5 := Nat.mul_le_mul_right _ hl2
    have a6 : xs.length * 3 ≤ 3 * 3 := Nat.mul_le_mul_right _ hl2
    refine b_ret (T := strT (sayS (.use n xs))) ?_ hD
    rw [sayS]
    refine g_addS (g_addS (g_addS (g_ixT (T := strT n) (Ts := [strT "use", strT n, tupT K (xs.map fun z => strT z)]) ((g_var 0).is (by rw [sayT]; rfl)) g_int) g_str ?_) (g_joinT (ys := xs) g_str (g_ixT (T := tupT K (xs.map fun z => strT z)) (Ts := [strT "use", strT n, tupT K (xs.map fun z => strT z)]) ((g_var 0).is (by rw [sayT]; rfl)) g_int) ?_) ?_) g_str ?_
    · exact fit (by omega)
    · rw [e1]; omega
    · rw [len_app]
      exact fit (by omega)
    · rw [len_app, len_app]
      exact fit (by omega)
  refine b_skip ?_
  -- not
  refine b_if ((gt_eqS (g_var 1) g_str).is (t_neg sy)) (fun h => ?_) fun hneg => ?_
  · obtain ⟨sy', rfl⟩ := of_neg h
    obtain ⟨d', rfl, hs'⟩ := ok_neg hs
    have FI' := FI d' rfl
    have a1 := shut_len (isCon true sy') (sayS sy')
    have a2 := say_len3 (by omega : d' ≤ 3) hs'
    have e1 : ("not " : Str).length = 4 := by decide +kernel
    refine b_ret (T := strT (sayS (.neg sy'))) ?_ hD
    rw [sayS]
    refine g_addS g_str (g_call FI' (hr.mono (by omega)) (⟨sy', hs'⟩, true) (ga_cons (g_ixT (T := sayT K sy') (Ts := [strT "not", sayT K sy']) ((g_var 0).is (by rw [sayT]; rfl)) g_int) (ga_cons (g_tup (ga_cons g_str (ga_cons g_str ga_nil))) ga_nil))) ?_
    exact fit (by show _ + (shutS (isCon true sy') (sayS sy')).length ≤ _; omega)
  refine b_skip ?_
  -- some, all
  refine b_if ((g_inS (zs := ["some", "all"]) (g_var 1) (g_tup (ga_cons g_str (ga_cons g_str ga_nil)))).is (t_qu sy)) (fun h => ?_) fun hqu => ?_
  · obtain ⟨e, x, sy', rfl⟩ := of_qu h
    obtain ⟨d', rfl, hx, hs'⟩ := ok_qu hs
    have FI' := FI d' rfl
    have a1 := shut_len (isCon true sy') (sayS sy')
    have a2 := say_len3 (by omega : d' ≤ 3) hs'
    have a3 := names_len _ hx
    have e1 : ("some" : Str).length = 4 := by decide +kernel
    have e2 : ("all" : Str).length = 3 := by decide +kernel
    have e3 := l_sp
    have e4 : (Say.qu e x sy').word.length ≤ 4 := by show (if e then ("some" : Str) else "all").length ≤ 4; split <;> omega
    refine b_ret (T := strT (sayS (.qu e x sy'))) ?_ hD
    rw [sayS_qu]
    refine g_addS (y := (Say.qu e x sy').word ++ " " ++ x ++ " ") (g_joined (xs := [(Say.qu e x sy').word, " ", x, " "]) (gj_cons (g_fmtS (g_var 1) (fit (by omega))) (gj_cons g_str (gj_cons (g_fmtS (g_ixT (T := strT x) (Ts := [strT (if e then "some" else "all"), strT x, sayT K sy']) ((g_var 0).is (by rw [sayT]; rfl)) g_int) (fit (by omega))) (gj_cons g_str gj_nil)))) ?_ ?_) (g_call FI' (hr.mono (by omega)) (⟨sy', hs'⟩, true) (ga_cons (g_ixT (T := sayT K sy') (Ts := [strT (if e then "some" else "all"), strT x, sayT K sy']) ((g_var 0).is (by rw [sayT]; rfl)) g_int) (ga_cons (g_tup (ga_cons g_str (ga_cons g_str ga_nil))) ga_nil))) ?_
    · simp only [List.map_cons, List.map_nil, List.sum_cons, List.sum_nil]
      exact fit (by omega)
    · show (((Str.empty ++ _) ++ " ") ++ x) ++ " " = _
      rw [emp_app]
    · rw [len_app, len_app, len_app]
      exact fit (by show _ + (shutS (isCon true sy') (sayS sy')).length ≤ _; omega)
  refine b_skip ?_
  -- and, or
  obtain ⟨c, l, rfl⟩ := of_con hcmp hcnt huse hneg hqu
  obtain ⟨d', rfl, hl2, hs'⟩ := ok_con hs
  have FI' := FI d' rfl
  have hlen : ∀ y ∈ l.map (fun s => shutS (isCon c s) (sayS s)), y.length ≤ 5002 := fun y hy => by
    obtain ⟨s, hs, rfl⟩ := List.mem_map.mp hy
    have a1 := shut_len (isCon c s) (sayS s)
    have a2 := say_len3 (by omega : d' ≤ 3) (hs' s hs)
    omega
  have a4 := sum_len _ hlen
  rw [List.length_map] at a4
  have a6 : l.length * 5002 ≤ 3 * 5002 := Nat.mul_le_mul_right _ hl2.2
  have e1 := l_and
  have e2 := l_or
  have e3 := l_sp
  refine b_asg 2 (T := shT K c) (g_ite ((gt_eqS (g_var 1) g_str).is (w_and c)) (fun h => (g_tup (ga_cons g_str (ga_cons g_str ga_nil))).is (by rw [h]; rfl)) fun h => (g_tup (ga_cons g_str ga_nil)).is (by rw [h]; rfl)) ?_
  refine b_ret (T := strT (sayS (.con c l))) ?_ hD
  rw [sayS_con]
  refine g_join (sep := if c then " and " else " or ") (ys := l.map fun s => shutS (isCon c s) (sayS s)) (g_joined (xs := [" ", (Say.con c l).word, " "]) (gj_cons g_str (gj_cons (g_fmtS (g_var 1) (fit ?_)) (gj_cons g_str gj_nil))) ?_ ?_) (g_lcM (i := 3) l (sayT K) (fun s => strT (shutS (isCon c s) (sayS s))) (gi_tup (Ts := l.map (sayT K)) (g_cutFromT (Ts := strT (if c then "and" else "or") :: l.map (sayT K)) ((g_var 0).is (by rw [sayT, saysT_map]; rfl)) g_int (by decide))) (fit (by omega)) (fun s hs s' H C cl fp => g_call FI' (hr.mono (by omega)) (⟨s, hs' s hs⟩, c) (ga_cons (g_var 3) (ga_cons (g_var 2) ga_nil))) (hR := by rw [List.map_map]; rfl)) ?_
  · show (if c then ("and" : Str) else "or").length ≤ _
    cases c <;> decide +kernel
  · show (List.map Str.length [" ", if c then ("and" : Str) else "or", " "]).sum ≤ sizeLine
    refine fit ?_
    cases c <;> decide +kernel
  · show ((Str.empty ++ " ") ++ (if c then ("and" : Str) else "or")) ++ " " = _
    cases c <;> decide +kernel
  · rw [List.length_map]
    have : (if c then (" and " : Str) else " or ").length ≤ 5 := by split <;> omega
    have a7 : l.length * (if c then (" and " : Str) else " or ").length ≤ 3 * 5 := Nat.mul_le_mul hl2.2 this
    omega
theorem f_say (T : Tx fa fn ex K mg) : ∀ d : Nat, d ≤ 3 → FnGK P w K mg base (2 * d + 3) "saying_text" ["saying"] (spG (fun s : SayAt d => [sayT K s.1]) fun s => strT (sayS s.1)) := by
  intro d
  induction d with
  | zero => exact fun hd => f_say0 T hd fun d' h => by omega
  | succ d ih =>
    intro hd
    refine f_say0 T hd fun d' h => ?_
    have e : d = d' := by omega
    subst e
    exact f_inner T (by omega) (ih (by omega)).fn
end
end K10

set_option Elab.async false
set_option linter.all false
set_option maxRecDepth 100000
set_option maxHeartbeats 1000000
namespace K10
open PySem PySem.Spec PyProof.Rows L2 RL StX
section
variable {P : Program} {w : World} {K : PySem.W.Frag} {mg : Str → Option Value} {base : Heap}
/-! the law's own texts -/
theorem sc_lterm : FnScope ["_law_term", "_law_words", "_law_pair"] ["_law_term"] (defScope s__law_term_text) := ⟨rfl, rfl, rfl, by decide +kernel, rfl, by decide +kernel, by decide +kernel⟩
theorem f_lterm (T : Tx fa fn ex K mg) : FnG P w K mg base 1 "_law_term_text" ["_law_term"] (spG (fun t : Terms => [trmT K t.1]) fun t => strT (trmS t.1)) := by
  refine T.fn d__law_term_text i__law_term_text "_law_term_text" rfl q_glo__law_term_text rfl (fun _ _ _ _ _ _ us hl => match us, hl with | [_], _ => rfl) fun f fd F => ?_
  refine fn_G F sc_lterm (fun _ => rfl) fun t cdv Ar outer s H E hr nd D hD _ => ?_
  obtain ⟨⟨pw, c⟩, ht⟩ := t
  have hf : pw.length ≤ 3 := ht.few
  have hp : ∀ q ∈ pw, q.1 ∈ allNames ∧ 1 ≤ q.2 ∧ q.2 ≤ 4 := ht.pw
  have hc : 1 ≤ c ∧ c ≤ 9 := ht.con
  have e1 : ("^" : Str).length = 1 := by decide +kernel
  have e2 := l_star
  have e3 := l_emp
  refine b_asgLc (j := 2) 1 pw (pwT K) (fun q => strT (powS q)) (gi_tup (Ts := pw.map (pwT K)) (g_ixT (T := powT K pw) (Ts := [powT K pw, intT c]) (g_var 0) g_int)) (fit (by omega)) (fun q hq s H C cl fp => ?_) ?_
  · have hq' := hp q hq
    have a1 := names_len _ hq'.1
    have a2 := itS_len (i := q.2) (by omega)
    refine (g_addS (y := q.1) (z := if q.2 = 1 then ("" : Str) else ("^" : Str) ++ itS q.2) (g_ixT (T := strT q.1) (Ts := [strT q.1, intT q.2]) (g_var 2) g_int) (g_ite (gt_neI (g_ixT (T := intT q.2) (Ts := [strT q.1, intT q.2]) (g_var 2) g_int) g_int) (fun h => ?_) fun h => ?_) ?_).is ?_
    · have h' : ¬ q.2 = 1 := of_decide_eq_true h
      rw [if_neg h']
      refine g_addS g_str (g_strI (g_ixT (T := intT q.2) (Ts := [strT q.1, intT q.2]) (g_var 2) g_int) (log_small (by omega)) (T.free _ q_free_str)) (fit (by show _ + (itS q.2).length ≤ _; omega))
    · have h' : q.2 = 1 := by have := of_decide_eq_false h; omega
      rw [if_pos h']
      exact g_str
    · refine fit ?_
      split
      · omega
      · rw [len_app]; omega
    · unfold powS
      by_cases h : q.2 = 1
      · rw [if_pos h, if_pos h, app_lit]
      · rw [if_neg h, if_neg h, app_assoc]
  · have hw := trmW_len ht
    have hne : (pw.map powS).map PyData.str = [] ↔ pw = [] := by rw [List.map_eq_nil_iff, List.map_eq_nil_iff]
    have hl := itS_len (i := c) (by omega)
    refine b_ret (g_join (ys := trmW (pw, c)) g_str ((g_cat (Us := (if c = 1 ∧ pw ≠ [] then [] else [itS c]).map fun z => strT z) (g_var 1) (g_ite (gt_or2 (gt_neI (g_ixT (T := intT c) (Ts := [powT K pw, intT c]) (g_var 0) g_int) g_int) fun _ => gt_eqD (room64 hr) ((g_var 1).is (by rw [List.map_map]; rfl)) (g_lst ga_nil) (strs_dp _ (pw.map powS)) (dp_lst .nil) (strs_shaped fun x hx => by
        obtain ⟨q, hq, rfl⟩ := List.mem_map.mp hx
        exact powS_ok (hp q hq).1) (by decide +kernel)) (fun h => ?_) fun h => ?_) ?_).is ?_) ?_) hD
    · rw [Bool.or_eq_true, decide_eq_true_eq, eqv_nilS, decide_eq_true_eq, hne] at h
      rw [if_neg fun k => h.elim (fun h => h k.1) fun h => k.2 h]
      exact g_lst (Ts := [strT (itS c)]) (ga_cons (g_strI (g_ixT (T := intT c) (Ts := [powT K pw, intT c]) (g_var 0) g_int) (log_small (by omega)) (T.free _ q_free_str)) ga_nil) (by show 1 ≤ sizeLine; decide)
    · rw [Bool.or_eq_false_iff, decide_eq_false_iff_not, eqv_nilS, decide_eq_false_iff_not, hne] at h
      rw [if_pos ⟨Decidable.not_not.mp h.1, h.2⟩]
      exact g_lst ga_nil
    · rw [List.length_map, List.length_map]
      refine fit ?_
      split <;> simp only [List.length_nil, List.length_cons] <;> omega
    · have e : trmW (pw, c) = pw.map powS ++ if c = 1 ∧ pw ≠ [] then [] else [itS c] := by
        show (if c = 1 ∧ pw ≠ [] then pw.map powS else pw.map powS ++ [itS c]) = _
        split
        · rw [List.append_nil]
        · rfl
      rw [e, List.map_append, List.map_map]
      rfl
    · have := sum_len (n := 6) (trmW (pw, c)) hw.2
      rw [e2]
      omega
theorem sc_lrow : FnScope ["_law_row", "_law_text", "_law_name", "_law_rate", "_law_word"] ["_law_row"] (defScope s__law_row_text) := ⟨rfl, rfl, rfl, by decide +kernel, rfl, by decide +kernel, by decide +kernel⟩
abbrev NR : List Str := ["_law_row", "_law_text", "_law_name", "_law_rate", "_law_word"]
theorem f_lrow (T : Tx fa fn ex K mg) : FnG P w K mg base 1 "_law_row_text" ["_law_row"] (spG (fun r : Cmpns => [cmpnT K r.1]) fun r => strT (cmpnS r.1)) := by
  refine T.fn d__law_row_text i__law_row_text "_law_row_text" rfl q_glo__law_row_text rfl (fun _ _ _ _ _ _ us hl => match us, hl with | [_], _ => rfl) fun f fd F => ?_
  refine fn_G F sc_lrow (fun _ => rfl) fun r cdv Ar outer s H E hr nd D hD _ => ?_
  obtain ⟨⟨l, sg, b⟩, hr0⟩ := r
  have hf : 1 ≤ l.length ∧ l.length ≤ 2 := hr0.few
  have hp : ∀ q ∈ l, q.1 ∈ allNames ∧ q.2 ≠ 0 ∧ -4 ≤ q.2 ∧ q.2 ≤ 4 := hr0.pw
  have hb : -9 ≤ b ∧ b ≤ 9 := hr0.bnd
  have hs : sg.length ≤ 2 := signs_len _ hr0.sign
  refine b_asg 1 g_str ?_
  refine b_for (Ts := l.map (pwT K)) (g := gTup K 2 (gCons (gName 2) (gCons (gName 3) gNil))) (fun i Δ => ∃ u5 u6 u7 : Option RL.Ty, Δ = [some (cmpnT K (l, sg, b)), some (strT ((l.take i).foldl rateF "")), u5, u6, u7]) (gi_tup (Ts := l.map (pwT K)) (g_ixT (T := powT K l) (Ts := [powT K l, strT sg, intT b]) (g_var 0) g_int)) (pg_tup rfl (pgs_cons (pg_name nd rfl (Or.inl rfl)) (pgs_cons (pg_name nd rfl (Or.inl rfl)) pgs_nil))) ⟨none, none, none, rfl⟩ (fun H1 i T1 Δ b1 hT hΔ => ?_) fun Δ hΔ => ?_
  · obtain ⟨u5, u6, u7, rfl⟩ := hΔ
    rw [List.getElem?_map] at hT
    cases hq : l[i]? with
    | none => rw [hq] at hT; cases hT
    | some q =>
      rw [hq] at hT
      cases hT
      have hmem := List.mem_of_getElem? hq
      obtain ⟨q1, q2, q3, q4⟩ := hp q hmem
      have htake : l.take (i + 1) = l.take i ++ [q] := by rw [List.take_succ, hq]; rfl
      have hi : i < l.length := (List.getElem?_eq_some_iff.mp hq).1
      have ht := rates_len (l.take i) "" fun r hr => hp r (List.mem_of_mem_take hr)
      have htl : (l.take i).length ≤ 2 := by rw [List.length_take]; omega
      have e0 := l_emp
      have hlt : ((l.take i).foldl rateF "").length ≤ 18 := by omega
      have hab : -9 ≤ absI q.2 ∧ absI q.2 ≤ 9 := by unfold absI; split <;> omega
      have hw := rateW_len ⟨q1, q2, q3, q4⟩
      have hn := names_len _ q1
      have hi2 := itS_len hab
      have e1 := l_star
      have e2 := l_minus
      have e3 := l_plus3
      have e4 := l_minus3
      have habs := T.free _ q_free_abs
      have hstr := T.free _ q_free_str
      refine ⟨_, tgts2, ?_⟩
      refine b_asg 4 (T := strT (rateW q)) ((g_addS (y := if absI q.2 = 1 then ("" : Str) else itS (absI q.2) ++ "*") (z := q.1) (g_ite (gt_neI (g_absI (g_var 3) habs) g_int) (fun h => ?_) fun h => ?_) (g_var 2) ?_).is ?_) ?_
      · have h' : ¬ absI q.2 = 1 := of_decide_eq_true h
        rw [if_neg h']
        exact g_addS (g_strI (g_absI (g_var 3) habs) (log_small hab) hstr) g_str (fit (by show (itS (absI q.2)).length + _ ≤ _; omega))
      · have h' : absI q.2 = 1 := Decidable.not_not.mp (of_decide_eq_false h)
        rw [if_pos h']
        exact g_str
      · refine fit ?_
        split
        · omega
        · rw [len_app]; omega
      · unfold rateW
        by_cases h : absI q.2 = 1
        · rw [if_pos h, if_pos h, lit_app]
        · rw [if_neg h, if_neg h]
      have hfold : (l.take (i + 1)).foldl rateF "" = rateF ((l.take i).foldl rateF "") q := by
        rw [htake, List.foldl_append]
        rfl
      have fin : ∀ v : Str, v = rateF ((l.take i).foldl rateF "") q → Bd (BX P w K mg base NR d__law_row_text.qual d__law_row_text.scope f cdv Ar outer s H E) [some (cmpnT K (l, sg, b)), some (strT v), some (strT q.1), some (intT q.2), some (strT (rateW q))] [] ((Bs.of H).at H1) (turnD D (BX P w K mg base NR d__law_row_text.qual d__law_row_text.scope f cdv Ar outer s H E) ((defBody s__law_row_text).drop 2) ((Bs.of H).at H1) ((fun i Δ => ∃ u5 u6 u7 : Option RL.Ty, Δ = [some (cmpnT K (l, sg, b)), some (strT ((l.take i).foldl rateF "")), u5, u6, u7]) (i + 1))) := fun v hv => turn_nx ⟨some (strT q.1), some (intT q.2), some (strT (rateW q)), by rw [hfold, hv]⟩
      refine b_if (gt_eqS (g_var 1) g_str) (fun h => ?_) fun h => ?_
      · have h' : (l.take i).foldl rateF "" = "" := of_decide_eq_true h
        refine b_asg 1 (T := strT (rateF ((l.take i).foldl rateF "") q)) ((g_addS (y := if q.2 < 0 then ("-" : Str) else "") (z := rateW q) (g_ite (gt_lt (g_var 3) g_int) (fun k => ?_) fun k => ?_) (g_var 4) ?_).is ?_) ?_
        · rw [if_pos (of_decide_eq_true k)]; exact g_str
        · rw [if_neg (of_decide_eq_false k)]; exact g_str
        · exact fit (by split <;> omega)
        · by_cases k : q.2 < 0
          · rw [rateF, if_pos h', if_neg (show ¬ 0 ≤ q.2 by omega), if_pos k]
          · rw [rateF, if_pos h', if_pos (show 0 ≤ q.2 by omega), if_neg k, lit_app]
        · refine b_skip ?_
          exact fin _ rfl
      · have h' : ¬ (l.take i).foldl rateF "" = "" := of_decide_eq_false h
        refine b_asg 1 (T := strT (rateF ((l.take i).foldl rateF "") q)) ((g_addS (y := (l.take i).foldl rateF "" ++ if q.2 < 0 then (" - " : Str) else " + ") (z := rateW q) (g_addS (g_var 1) (g_ite (gt_lt (g_var 3) g_int) (fun k => ?_) fun k => ?_) ?_) (g_var 4) ?_).is ?_) ?_
        · rw [if_pos (of_decide_eq_true k)]; exact g_str
        · rw [if_neg (of_decide_eq_false k)]; exact g_str
        · exact fit (by split <;> omega)
        · rw [len_app]
          exact fit (by split <;> omega)
        · by_cases k : q.2 < 0
          · rw [rateF, if_neg h', if_neg (show ¬ 0 ≤ q.2 by omega), if_pos k]
          · rw [rateF, if_neg h', if_pos (show 0 ≤ q.2 by omega), if_neg k]
        · refine b_skip ?_
          exact fin _ rfl
  · obtain ⟨u5, u6, u7, rfl⟩ := hΔ
    rw [List.length_map, List.take_length]
    have ht := rates_len l "" hp
    have e0 := l_emp
    have e1 := l_sp
    have hi := itS_len hb
    refine b_ret (T := strT (cmpnS (l, sg, b))) (g_addS (g_addS (g_addS (g_addS (g_var 1) g_str ?_) (g_ixT (T := strT sg) (Ts := [powT K l, strT sg, intT b]) (g_var 0) g_int) ?_) g_str ?_) (g_strI (g_ixT (T := intT b) (Ts := [powT K l, strT sg, intT b]) (g_var 0) g_int) (log_small hb) (T.free _ q_free_str)) ?_) hD
    · exact fit (by show (l.foldl rateF "").length + _ ≤ _; omega)
    · rw [len_app]
      exact fit (by show (l.foldl rateF "").length + (" " : Str).length + sg.length ≤ _; omega)
    · rw [len_app, len_app]
      exact fit (by show (l.foldl rateF "").length + (" " : Str).length + sg.length + _ ≤ _; omega)
    · rw [len_app, len_app, len_app]
      exact fit (by show (l.foldl rateF "").length + (" " : Str).length + sg.length + _ + (itS b).length ≤ _; omega)
/-! the law's text of a saying -/
abbrev wsT (l : List Str) : RL.Ty := lstT (l.map fun z => strT z)
theorem sc_lshut : FnScope ["_law_my_saying", "_law_words"] ["_law_my_saying", "_law_words"] (defScope s__law_shut) := ⟨rfl, rfl, rfl, by decide +kernel, rfl, by decide +kernel, by decide +kernel⟩
theorem f_lshut (T : Tx fa fn ex K mg) {d k : Nat} (hd : d ≤ 3) (FS : FnG P w K mg base k "_law_saying_text" ["_law_my_saying"] (spG (fun s : SayAt d => [sayT K s.1]) fun s => strT (sayS s.1))) : FnG P w K mg base (k + 1) "_law_shut" ["_law_my_saying", "_law_words"] (spG (fun z : SayAt d × Bool => [sayT K z.1.1, wsT (shutL z.2)]) fun z => strT (shutS (isCon z.2 z.1.1) (sayS z.1.1))) := by
  refine T.fn d__law_shut i__law_shut "_law_shut" rfl q_glo__law_shut rfl (fun _ _ _ _ _ _ us hl => match us, hl with | [_, _], _ => rfl) fun f fd F => ?_
  refine fn_G F sc_lshut (fun _ => rfl) fun z cdv Ar outer s H E hr nd D hD _ => ?_
  obtain ⟨⟨sy, hs⟩, both⟩ := z
  have hl := say_len3 hd hs
  have e1 := l_op
  have e2 := l_cl
  refine b_ret (T := strT (shutS (isCon both sy) (sayS sy))) (g_ite (g_inSL (zs := shutL both) (g_ixT (T := strT sy.word) (G.say (g_var 0)) g_int at0) (g_var 1)) (fun h => ?_) fun h => (g_call FS hr ⟨sy, hs⟩ (ga_cons (g_var 0) ga_nil)).is ?_) hD
  · rw [shut_word] at h
    rw [shutS, if_pos h]
    exact g_addS (y := "(" ++ sayS sy) (g_addS g_str (g_call FS hr ⟨sy, hs⟩ (ga_cons (g_var 0) ga_nil)) (fit (by show _ + (sayS sy).length ≤ _; omega))) g_str (by rw [len_app]; exact fit (by omega))
  · rw [shut_word] at h
    rw [shutS, if_neg (by rw [h]; decide)]
end
end K10

set_option Elab.async false
set_option linter.all false
set_option maxRecDepth 100000
set_option maxHeartbeats 1000000
namespace K10
open PySem PySem.Spec PyProof.Rows L2 RL StX
section
variable {P : Program} {w : World} {K : PySem.W.Frag} {mg : Str → Option Value} {base : Heap}
theorem g_cutInit {X : Cx} {Γ : RL.Ctx} {o : Expr} {Ts : List RL.Ty} {p1 p2 pos : Pos} {k : Nat} (ho : G X Γ o (tupT X.K Ts)) {T' : RL.Ty} (hR : tupT X.K (cutT Ts none (some (-1))) = T' := by rfl) : G X Γ (.Subscript o (.Slice none (some (.UnaryOp .USub (.Constant (.int 1) k p1) p2)) none pos2) pos) T' :=
  g_cutT (lo := none) (hi := some (-1)) ho po_none (po_some (pe _)) (fun σ H t Q q => q H (Ex.refl H)) (fun σ H t Q q => (g_neg (i := 1) g_int) σ H t _ fun v H1 e1 h1 => ⟨-1, h1, q H1 e1⟩) hR
theorem g_eqS {X : Cx} {Γ : RL.Ctx} {a b : Expr} {pos : Pos} {y z : Str} (ha : G X Γ a (strT y)) (hb : G X Γ b (strT z)) : G X Γ (.Compare a [.Eq] [b] pos) (blT (decide (y = z))) := (g_cmp op_eq ha hb (r_Eq rfl) (nomark _)).is (by simp)
theorem t_nq (s : Say) : (([("not" : Str), "some", "all"]).any fun z => z == s.word) = (isNeg s || isQu s) := by
  cases s with
  | cmp e _ _ => simp only [Say.word, isQu, isNeg]; cases e <;> decide +kernel
  | cnt _ _ => simp only [Say.word, isQu, isNeg]; decide +kernel
  | neg _ => simp only [Say.word, isQu, isNeg]; decide +kernel
  | con c _ => simp only [Say.word, isQu, isNeg]; cases c <;> decide +kernel
  | qu e _ _ => simp only [Say.word, isQu, isNeg]; cases e <;> decide +kernel
  | use _ _ => simp only [Say.word, isQu, isNeg]; decide +kernel
theorem sayS_neg (s : Say) : sayS (.neg s) = ("not" : Str) ++ " " ++ shutS (isCon true s) (sayS s) := by
  rw [sayS]
  exact congrArg (· ++ shutS (isCon true s) (sayS s)) (show ("not " : Str) = "not" ++ " " by decide +kernel)
abbrev NL : List Str := ["_law_my_saying", "_law_word", "_law_head", "_law_row", "_law_one"]
theorem sc_lsay : FnScope NL ["_law_my_saying"] (defScope s__law_saying_text) := ⟨rfl, rfl, rfl, by decide +kernel, rfl, by decide +kernel, by decide +kernel⟩
theorem f_lsay0 (T : Tx fa fn ex K mg) {d : Nat} (hd : d ≤ 3) (FI : ∀ d', d = d' + 1 → FnG P w K mg base (2 * d' + 4) "_law_shut" ["_law_my_saying", "_law_words"] (spG (fun z : SayAt d' × Bool => [sayT K z.1.1, wsT (shutL z.2)]) fun z => strT (shutS (isCon z.2 z.1.1) (sayS z.1.1)))) :
    FnG P w K mg base (2 * d + 3) "_law_saying_text" ["_law_my_saying"] (spG (fun s : SayAt d => [sayT K s.1]) fun s => strT (sayS s.1)) := by
  have FT : FnG P w K mg base 1 "_law_term_text" ["_law_term"] _ := f_lterm T
  have FR : FnG P w K mg base 1 "_law_row_text" ["_law_row"] _ := f_lrow T
  refine T.fn d__law_saying_text i__law_saying_text "_law_saying_text" rfl q_glo__law_saying_text rfl (fun _ _ _ _ _ _ us hl => match us, hl with | [_], _ => rfl) fun f fd F => ?_
  refine fn_G (k := 2 * d + 2) F sc_lsay (fun _ => rfl) fun z cdv Ar outer s H E hr nd D hD _ => ?_
  obtain ⟨sy, hs⟩ := z
  have hr2 : Room 1 (Ar.deeper (envOfC d__law_saying_text.qual d__law_saying_text.scope s.heap.objs.size f cdv)) := hr.mono (by omega)
  have hl := say_len3 hd hs
  have hstr := T.free _ q_free_str
  have hint := T.free _ q_free_int
  have hlist := T.free _ q_free_list
  change Bd (BX P w K mg base NL d__law_saying_text.qual d__law_saying_text.scope f cdv Ar outer s H E) [some (sayT K sy), none, none, none, none] _ _ _
  refine b_asg 1 (T := strT sy.word) (g_ixT (T := strT sy.word) (G.say (g_var 0)) g_int at0) ?_
  change Bd _ [some (sayT K sy), some (strT sy.word), none, none, none] _ _ _
  -- products
  refine b_if ((g_inSL (zs := ["equal", "divides"]) (g_var 1) (g_lst (ga_cons g_str (ga_cons g_str ga_nil)))).is (t_cmp sy)) (fun h => ?_) fun hcmp => ?_
  · obtain ⟨e, t1, t2, rfl⟩ := of_cmp h
    obtain ⟨h1, h2⟩ := ok_cmp hs
    have a1 := trmS_len h1
    have a2 := trmS_len h2
    have e1 := l_eq
    have e2 := l_bar
    refine b_ret (T := strT (sayS (.cmp e t1 t2))) ?_ hD
    rw [sayS_cmp]
    refine g_addS (g_addS (z := if e then " = " else " | ") (g_call FT hr2 ⟨t1, h1⟩ (ga_cons (g_ixT (Ts := [strT (if e then "equal" else "divides"), trmT K t1, trmT K t2]) ((g_var 0).is (by rw [sayT]; rfl)) g_int) ga_nil)) ?_ (fit (by split <;> omega))) (g_call FT hr2 ⟨t2, h2⟩ (ga_cons (g_ixT (Ts := [strT (if e then "equal" else "divides"), trmT K t1, trmT K t2]) ((g_var 0).is (by rw [sayT]; rfl)) g_int) ga_nil)) (by rw [len_app]; exact fit (by split <;> omega))
    refine g_ixL (n := if e then 1 else 0) (Ts := [strT " | ", strT " = "]) (g_lst (ga_cons g_str (ga_cons g_str ga_nil))).rl (g_intB (k := e) ?_ hint) (by cases e <;> rfl)
    exact (g_eqS (g_var 1) g_str).is (congrArg blT (w_eq e))
  refine b_skip ?_
  -- counts
  refine b_if ((gt_eqS (g_var 1) g_str).is (t_cnt sy)) (fun h => ?_) fun hcnt => ?_
  · obtain ⟨rows, way, rfl⟩ := of_cnt h
    obtain ⟨h1, h2, h3⟩ := ok_cnt hs
    have hl1 : rows.length ≤ 2 := h1.2
    have hh := head_len hl1 h2
    have e1 := l_gt
    have e2 := l_eq
    have e3 := l_sl
    have e4 := l_hd
    have e5 := l_cl
    have e6 := l_semi
    have hc24 : ∀ y ∈ rows.map cmpnS, y.length ≤ 24 := fun y hy => by
      obtain ⟨r, hr, rfl⟩ := List.mem_map.mp hy
      exact cmpnS_len (h2 r hr)
    have hjl := join_len "; " (rows.map cmpnS) hc24
    have hsl := sum_len (rows.map cmpnS) hc24
    rw [List.length_map, e6] at hjl
    rw [List.length_map] at hsl
    have h26 : rows.length * (24 + 2) ≤ 2 * 26 := Nat.mul_le_mul_right _ hl1
    have h24 : rows.length * 24 ≤ 2 * 24 := Nat.mul_le_mul_right _ hl1
    refine b_asg 2 (T := strT (headS rows)) (g_addS (g_addS g_str (g_join (ys := rows.map cmpnS) g_str (g_lcM (i := 3) rows (cmpnT K) (fun r => strT (cmpnS r)) (gi_tup (Ts := rows.map (cmpnT K)) (g_ixT (T := tupT K (rows.map (cmpnT K))) (Ts := strT "count" :: tupT K (rows.map (cmpnT K)) :: wayTs K way) ((g_var 0).is (by rw [sayT]; rfl)) g_int (by cases way <;> rfl))) (fit (by omega)) (fun r hr' s H C cl fp => g_call FR hr2 ⟨r, h2 r hr'⟩ (ga_cons (g_var 3) ga_nil)) (hR := by rw [List.map_map]; rfl)) ?_) ?_) g_str ?_) ?_
    · rw [List.length_map, e6]
      omega
    · exact fit (by omega)
    · rw [len_app]
      exact fit (by omega)
    cases way with
    | least n =>
      have hn : 1 ≤ n ∧ n ≤ 3 := h3
      have hi := itS_len (i := n) (by omega)
      refine b_if ((gt_eqS (g_ixT (T := strT "least") (Ts := strT "count" :: tupT K (rows.map (cmpnT K)) :: wayTs K (.least n)) ((g_var 0).is (by rw [sayT]; rfl)) g_int) g_str).is (b' := false) (by decide +kernel)) (fun h => by cases h) fun _ => ?_
      refine b_skip ?_
      refine b_ret (T := strT (sayS (.cnt rows (.least n)))) ?_ hD
      rw [sayS]
      refine g_addS (g_addS (z := " >= ") (g_var 2) (g_ite ((gt_eqS (g_ixT (T := strT "least") (Ts := strT "count" :: tupT K (rows.map (cmpnT K)) :: wayTs K (.least n)) ((g_var 0).is (by rw [sayT]; rfl)) g_int) g_str).is (b' := true) (by decide +kernel)) (fun _ => g_str) fun h => by cases h) ?_) (g_strI (g_ixT (T := intT n) (Ts := strT "count" :: tupT K (rows.map (cmpnT K)) :: wayTs K (.least n)) ((g_var 0).is (by rw [sayT]; rfl)) g_int) (log_small (by omega)) hstr) ?_
      · exact fit (by omega)
      · rw [len_app]
        exact fit (by show _ + (itS n).length ≤ _; omega)
    | exact n =>
      have hn : 0 ≤ n ∧ n ≤ 3 := h3
      have hi := itS_len (i := n) (by omega)
      refine b_if ((gt_eqS (g_ixT (T := strT "exact") (Ts := strT "count" :: tupT K (rows.map (cmpnT K)) :: wayTs K (.exact n)) ((g_var 0).is (by rw [sayT]; rfl)) g_int) g_str).is (b' := false) (by decide +kernel)) (fun h => by cases h) fun _ => ?_
      refine b_skip ?_
      refine b_ret (T := strT (sayS (.cnt rows (.exact n)))) ?_ hD
      rw [sayS]
      refine g_addS (g_addS (z := " = ") (g_var 2) (g_ite ((gt_eqS (g_ixT (T := strT "exact") (Ts := strT "count" :: tupT K (rows.map (cmpnT K)) :: wayTs K (.exact n)) ((g_var 0).is (by rw [sayT]; rfl)) g_int) g_str).is (b' := false) (by decide +kernel)) (fun h => by cases h) fun _ => g_str) ?_) (g_strI (g_ixT (T := intT n) (Ts := strT "count" :: tupT K (rows.map (cmpnT K)) :: wayTs K (.exact n)) ((g_var 0).is (by rw [sayT]; rfl)) g_int) (log_small (by omega)) hstr) ?_
      · exact fit (by omega)
      · rw [len_app]
        exact fit (by show _ + (itS n).length ≤ _; omega)
    | rest m r =>
      have hn : 2 ≤ m ∧ m ≤ 4 ∧ 0 ≤ r ∧ r < m := h3
      have hi := itS_len (i := m) (by omega)
      have hj := itS_len (i := r) (by omega)
      refine b_if ((gt_eqS (g_ixT (T := strT "rest") (Ts := strT "count" :: tupT K (rows.map (cmpnT K)) :: wayTs K (.rest m r)) ((g_var 0).is (by rw [sayT]; rfl)) g_int) g_str).is (b' := true) (by decide +kernel)) (fun _ => ?_) fun h => by cases h
      refine b_ret (T := strT (sayS (.cnt rows (.rest m r)))) ?_ hD
      rw [sayS]
      have g3 : ∀ {pos p2 : Pos} {j : Nat} {p3 : Pos}, G (BX P w K mg base NL d__law_saying_text.qual d__law_saying_text.scope f cdv Ar outer s H E) [some (sayT K (.cnt rows (.rest m r))), some (strT (Say.cnt rows (.rest m r)).word), some (strT (headS rows)), none, none] (.Subscript (.Name "_law_my_saying" p3) (.Constant (.int 3) j p2) pos) (tupT K [intT m, intT r]) := g_ixT (T := tupT K [intT m, intT r]) (Ts := strT "count" :: tupT K (rows.map (cmpnT K)) :: wayTs K (.rest m r)) ((g_var 0).is (by rw [sayT]; rfl)) g_int
      refine g_addS (g_addS (g_addS (g_addS (g_var 2) g_str ?_) (g_strI (g_ixT (T := intT m) g3 g_int) (log_small (by omega)) hstr) ?_) g_str ?_) (g_strI (g_ixT (T := intT r) g3 g_int) (log_small (by omega)) hstr) ?_
      · exact fit (by omega)
      · rw [len_app]
        exact fit (by show _ + (itS m).length ≤ _; omega)
      · rw [len_app, len_app]
        exact fit (by show _ + (itS m).length + _ ≤ _; omega)
      · rw [len_app, len_app, len_app]
        exact fit (by show _ + (itS m).length + _ + (itS r).length ≤ _; omega)
  refine b_skip ?_
  -- uses
  refine b_if ((gt_eqS (g_var 1) g_str).is (t_use sy)) (fun h => ?_) fun huse => ?_
  · obtain ⟨n, xs, rfl⟩ := of_use h
    obtain ⟨hn, hl2, hx⟩ := ok_use hs
    have a1 := uses_len _ hn
    have a2 : ∀ y ∈ xs, y.length ≤ 3 := fun y hy => names_len _ (hx y hy)
    have a3 := join_len ", " xs a2
    have a4 := sum_len xs a2
    have e1 := l_com
    have e2 := l_op
    have e3 := l_cl
    rw [e1] at a3
    have a5 : xs.length * (3 + 2) ≤ 3 * 5 := Nat.mul_le_mul_right _ hl2
    have a6 : xs.length * 3 ≤ 3 * 3 := Nat.mul_le_mul_right _ hl2
    refine b_ret (T := strT (sayS (.use n xs))) ?_ hD
    rw [sayS]
    refine g_addS (g_addS (g_addS (g_ixT (T := strT n) (Ts := [strT "use", strT n, tupT K (xs.map fun z => strT z)]) ((g_var 0).is (by rw [sayT]; rfl)) g_int) g_str ?_) (g_join (ys := xs) g_str (g_listT (g_ixT (T := tupT K (xs.map fun z => strT z)) (Ts := [strT "use", strT n, tupT K (xs.map fun z => strT z)]) ((g_var 0).is (by rw [sayT]; rfl)) g_int) hlist) ?_) ?_) g_str ?_
    · exact fit (by omega)
    · rw [e1]; omega
    · rw [len_app]
      exact fit (by omega)
    · rw [len_app, len_app]
      exact fit (by omega)
  refine b_skip ?_
  -- not, some, all
  refine b_if ((g_inSL (zs := ["not", "some", "all"]) (g_var 1) (g_lst (ga_cons g_str (ga_cons g_str (ga_cons g_str ga_nil))))).is (t_nq sy)) (fun h => ?_) fun hnq => ?_
  · rw [Bool.or_eq_true] at h
    have e0 := l_sp
    rcases h with h | h
    · obtain ⟨sy', rfl⟩ := of_neg h
      obtain ⟨d', rfl, hs'⟩ := ok_neg hs
      have FI' := FI d' rfl
      have a1 := shut_len (isCon true sy') (sayS sy')
      have a2 := say_len3 (by omega : d' ≤ 3) hs'
      have e1 : ("not" : Str).length = 3 := by decide +kernel
      refine b_ret (T := strT (sayS (.neg sy'))) ?_ hD
      rw [sayS_neg]
      refine g_addS (g_addS (y := "not") ((g_join (ys := ["not"]) g_str (g_listT (g_cutInit (Ts := [strT "not", sayT K sy']) ((g_var 0).is (by rw [sayT]; rfl))) hlist) ?_).is (congrArg (fun z => strT z) (RL.join_one _ _))) g_str ?_) (g_call FI' (hr.mono (by omega)) (⟨sy', hs'⟩, true) (ga_cons (g_ixT (T := sayT K sy') (Ts := [strT "not", sayT K sy']) ((g_var 0).is (by rw [sayT]; rfl)) (g_neg g_int)) (ga_cons (g_lst (ga_cons g_str (ga_cons g_str ga_nil))) ga_nil))) ?_
      · simp only [List.map_cons, List.map_nil, List.sum_cons, List.sum_nil, List.length_cons, List.length_nil]; omega
      · exact fit (by omega)
      · rw [len_app]
        exact fit (by show _ + (shutS (isCon true sy') (sayS sy')).length ≤ _; omega)
    · obtain ⟨e, x, sy', rfl⟩ := of_qu h
      obtain ⟨d', rfl, hx, hs'⟩ := ok_qu hs
      have FI' := FI d' rfl
      have a1 := shut_len (isCon true sy') (sayS sy')
      have a2 := say_len3 (by omega : d' ≤ 3) hs'
      have a3 := names_len _ hx
      have e1 : ("some" : Str).length = 4 := by decide +kernel
      have e2 : ("all" : Str).length = 3 := by decide +kernel
      have e4 : (Say.qu e x sy').word.length ≤ 4 := by show (if e then ("some" : Str) else "all").length ≤ 4; split <;> omega
      refine b_ret (T := strT (sayS (.qu e x sy'))) ?_ hD
      rw [sayS_qu]
      refine g_addS (g_addS (y := (Say.qu e x sy').word ++ " " ++ x) ((g_join (ys := [(Say.qu e x sy').word, x]) g_str (g_listT (g_cutInit (Ts := [strT (Say.qu e x sy').word, strT x, sayT K sy']) ((g_var 0).is (by rw [sayT]; rfl))) hlist) ?_).is (congrArg (fun z => strT z) (by rw [RL.join_cons, RL.join_one]))) g_str ?_) (g_call FI' (hr.mono (by omega)) (⟨sy', hs'⟩, true) (ga_cons (g_ixT (T := sayT K sy') (Ts := [strT (Say.qu e x sy').word, strT x, sayT K sy']) ((g_var 0).is (by rw [sayT]; rfl)) (g_neg g_int)) (ga_cons (g_lst (ga_cons g_str (ga_cons g_str ga_nil))) ga_nil))) ?_
      · simp only [List.map_cons, List.map_nil, List.sum_cons, List.sum_nil, List.length_cons, List.length_nil]; omega
      · rw [len_app, len_app]
        exact fit (by omega)
      · rw [len_app, len_app, len_app]
        exact fit (by show _ + (shutS (isCon true sy') (sayS sy')).length ≤ _; omega)
  refine b_skip ?_
  -- and, or
  rw [Bool.or_eq_false_iff] at hnq
  obtain ⟨c, l, rfl⟩ := of_con hcmp hcnt huse hnq.1 hnq.2
  obtain ⟨d', rfl, hl2, hs'⟩ := ok_con hs
  have FI' := FI d' rfl
  have hlen : ∀ y ∈ l.map (fun s => shutS (isCon c s) (sayS s)), y.length ≤ 5002 := fun y hy => by
    obtain ⟨s, hs, rfl⟩ := List.mem_map.mp hy
    have a1 := shut_len (isCon c s) (sayS s)
    have a2 := say_len3 (by omega : d' ≤ 3) (hs' s hs)
    omega
  have a4 := sum_len _ hlen
  rw [List.length_map] at a4
  have a6 : l.length * 5002 ≤ 3 * 5002 := Nat.mul_le_mul_right _ hl2.2
  have e1 := l_and
  have e2 := l_or
  have e3 := l_sp
  have e4 : (Say.con c l).word.length ≤ 3 := by show (if c then ("and" : Str) else "or").length ≤ 3; cases c <;> decide +kernel
  refine b_ret (T := strT (sayS (.con c l))) ?_ hD
  rw [sayS_con]
  refine g_join (sep := if c then " and " else " or ") (ys := l.map fun s => shutS (isCon c s) (sayS s)) ((g_addS (y := " " ++ (Say.con c l).word) (z := " ") (g_addS g_str (g_var 1) ?_) g_str ?_).is ?_) (g_lcM (i := 4) l (sayT K) (fun s => strT (shutS (isCon c s) (sayS s))) (gi_tup (Ts := l.map (sayT K)) (g_cutFromT (Ts := strT (if c then "and" else "or") :: l.map (sayT K)) ((g_var 0).is (by rw [sayT, saysT_map]; rfl)) g_int (by decide))) (fit (by omega)) (fun s hs s' H C cl fp => g_call FI' (hr.mono (by omega)) (⟨s, hs' s hs⟩, c) (ga_cons (g_var 4) (ga_cons (g_ite (T := wsT (shutL c)) ((gt_eqS (g_var 1) g_str).is (w_and c)) (fun h => (g_lst (ga_cons g_str (ga_cons g_str ga_nil))).is (by rw [h]; rfl)) fun h => (g_lst (ga_cons g_str ga_nil)).is (by rw [h]; rfl)) ga_nil))) (hR := by rw [List.map_map]; rfl)) ?_
  · exact fit (by omega)
  · rw [len_app]
    exact fit (by omega)
  · show strT ((" " ++ (if c then ("and" : Str) else "or")) ++ " ") = _
    cases c
    · exact congrArg (fun z => strT z) (by decide +kernel)
    · exact congrArg (fun z => strT z) (by decide +kernel)
  · rw [List.length_map]
    have : (if c then (" and " : Str) else " or ").length ≤ 5 := by split <;> omega
    have a7 : l.length * (if c then (" and " : Str) else " or ").length ≤ 3 * 5 := Nat.mul_le_mul hl2.2 this
    omega
theorem f_lsay (T : Tx fa fn ex K mg) : ∀ d : Nat, d ≤ 3 → FnG P w K mg base (2 * d + 3) "_law_saying_text" ["_law_my_saying"] (spG (fun s : SayAt d => [sayT K s.1]) fun s => strT (sayS s.1)) := by
  intro d
  induction d with
  | zero => exact fun hd => f_lsay0 T hd fun d' h => by omega
  | succ d ih =>
    intro hd
    refine f_lsay0 T hd fun d' h => ?_
    have e : d = d' := by omega
    subst e
    exact f_lshut T (by omega) (ih (by omega))
end
end K10

set_option Elab.async false
set_option linter.all false
set_option maxRecDepth 100000
set_option maxHeartbeats 1000000
/-! RLlike: is None, isinstance with two classes, zip, all, list * int -/
namespace RL
open PySem PySem.Spec PyProof.Rows L2
section
variable {X : Cx} {Γ : Ctx} {a b e : Expr} {T U : Ty} {Ts Us : List Ty} {pos p p1 p2 p3 tp tpos : Pos} {x y : Str} {elts : List Expr} {kk : Nat}
/-- x is None, x no None -/
theorem gt_isN0 {k : Nat} (ha : G X Γ a T) (hT : ∀ v H, T v H → v ≠ .non) : GT X Γ (.Compare a [.Is] [.Constant .none k p2] pos) false :=
  gt_cmp op_isN ha g_non (fun v w H hv hw Q q => ⟨hw, q _ H (Ex.refl H) (by
    show V.bl _ = V.bl _
    simp [hT v H hv])⟩)
theorem kit2 {K : PySem.W.Frag} {n n1 n2 : String} {r1 r2 : Bool} (h1 : kitB n n1 = some r1) (h2 : kitB n n2 = some r2) : PySem.W.kitAny K (.type n) [.type n1, .type n2] = some (r1 || r2) :=
  kitAny_cons (kit_ty h1) (fun e => by
    subst e
    exact kitAny_cons (kit_ty h2) (fun e => by subst e; exact kitAny_nil) fun e => by subst e; rfl) fun e => by subst e; rfl
/-- isinstance(x, (A, B)) -/
theorem g_isi2 {n n1 n2 : String} {r1 r2 : Bool} {k : Nat} (he : G X Γ e T) (ht : ∀ v H, T v H → TyX X.K H v (.type n)) (hm : X.mg "isinstance" = none) (hx : X.mg x = none) (hy : X.mg y = none) (hv : bootBuiltins x = some (.type n1)) (hw : bootBuiltins y = some (.type n2)) (hk1 : kitB n n1 = some r1) (hk2 : kitB n n2 = some r2) (hg : L2.Gl X "isinstance" := by rfl) (hgx : L2.Gl X x := by rfl) (hgy : L2.Gl X y := by rfl)
    (hdx : (x == ("__debug__" : Str)) = false := by decide) (hnx : x ≠ "__name__" := by decide) (hdy : (y == ("__debug__" : Str)) = false := by decide) (hny : y ≠ "__name__" := by decide)
    (hs : starEach [e, .Tuple [.Name x p1, .Name y p2] k tp] X.env = (false, eval e X.env) :: starEach [.Tuple [.Name x p1, .Name y p2] k tp] X.env := by exact se_cons rfl)
    (hs2 : starEach [.Tuple [.Name x p1, .Name y p2] k tp] X.env = (false, eval (.Tuple [.Name x p1, .Name y p2] k tp) X.env) :: starEach [] X.env := by exact se_cons rfl)
    (hs3 : starEach [.Name x p1, .Name y p2] X.env = (false, eval (.Name x p1) X.env) :: starEach [.Name y p2] X.env := by exact se_cons rfl)
    (hs4 : starEach [.Name y p2] X.env = (false, eval (.Name y p2) X.env) :: starEach [] X.env := by exact se_cons rfl)
    (hpl : (backTo pos (starEach [.Tuple [.Name x p1, .Name y p2] k tp] X.env)).any (·.1) = false := by first | exact se_any rfl | rfl) :
    G X Γ (.Call (.Name "isinstance" p) [e, .Tuple [.Name x p1, .Name y p2] k tp] [] pos) (blT (r1 || r2)) := fun σ H t Q q =>
  toE (pe_callB call_isiT hg hm (by decide +kernel) (pa_cons (pe e) (pa_cons (pe_tup (pa_cons (pe_bltn (v := .ty n1) hgx hx hv rfl hnx hdx) (pa_cons (pe_bltn (v := .ty n2) hgy hy hw rfl hny hdy) pa_nil hs4) hs3)) pa_nil hs2) hs) (he := hs) (hpl := hpl))
    (he σ H t _ fun v H1 e1 h1 => ⟨by show 2 ≤ sizeLine; decide, fun tp hp => ⟨v, tp, [.ty n1, .ty n2], .type n, [.type n1, .type n2], r1 || r2, rfl, upd_same, .cons (.ty n1) (.cons (.ty n2) .nil), ht v _ (T.up (Ex.new hp) h1), kit2 hk1 hk2, q _ _ (e1.trans (Ex.new hp)) rfl⟩⟩)
/-- zip of two frozen lists of one length -/
def zipTy (K : PySem.W.Frag) (Ts Us : List Ty) : List Ty := List.zipWith (fun T U => tupT K [T, U]) Ts Us
theorem zipTy_get {K : PySem.W.Frag} {i : Nat} {T U : Ty} (h : Ts[i]? = some T) (k : Us[i]? = some U) : (zipTy K Ts Us)[i]? = some (tupT K [T, U]) := by
  unfold zipTy
  rw [List.getElem?_zipWith, h, k]
theorem gi_zipL [hS : Stbs Ts] [hS2 : Stbs Us] (ha : G X Γ a (lstT Ts)) (hb : G X Γ b (lstT Us)) (hl : Ts.length = Us.length) (hm : X.mg "zip" = none) (hg : L2.Gl X "zip" := by rfl)
    (hs : starEach [a, b] X.env = (false, eval a X.env) :: starEach [b] X.env := by exact se_cons rfl) (hs2 : starEach [b] X.env = (false, eval b X.env) :: starEach [] X.env := by exact se_cons rfl) (hpl : (backTo pos (starEach [b] X.env)).any (·.1) = false := by first | exact se_any rfl | rfl) :
    GI X Γ (.Tuple elts kk tpos) (.Call (.Name "zip" p) [a, b] [] pos) (zipTy X.K Ts Us) := fun σ H t Q q =>
  toI (RZ.pi_zipA hg hm (pa_cons (pe a) (pa_cons (pe b) pa_nil hs2) hs) hs hpl) (ha σ H t _ fun v H1 e1 h1 => hb σ H1 (t.up e1) _ fun w H2 e2 h2 => by
    obtain ⟨l, vs, ev, hf, h3⟩ := (lstT Ts).up e2 h1
    obtain ⟨m, ws, ew, hf2, h4⟩ := h2
    subst ev; subst ew
    refine ⟨l, m, vs, ws, rfl, .inl ⟨hf.sq, hf2.sq, q _ H2 (e1.trans e2) fun i H' e => ⟨fun hi => ?_, fun hi => ?_⟩⟩⟩
    · have hz : (zipTy X.K Ts Us).length = Ts.length := by simp [zipTy, hl]
      rw [hz] at hi
      obtain ⟨y1, hy1, ty1⟩ := (hS.le e h3).get (List.getElem?_eq_getElem hi)
      obtain ⟨y2, hy2, ty2⟩ := (hS2.le e h4).get (List.getElem?_eq_getElem (hl ▸ hi))
      refine ⟨⟨vs, ws, y1, y2, (hf.le e).sq, (hf2.le e).sq, hy1, hy2⟩, fun x H3 hy => ?_⟩
      obtain ⟨A, z1, z2, ex, hn, eH, k1, k2⟩ := hy
      subst ex; subst eH
      have k1' := k1 vs (hf.le e).sq
      have k2' := k2 ws (hf2.le e).sq
      rw [hy1] at k1'
      rw [hy2] at k2'
      cases k1'; cases k2'
      exact ⟨Ex.new hn, _, zipTy_get (List.getElem?_eq_getElem hi) (List.getElem?_eq_getElem (hl ▸ hi)), A, _, rfl, .inl upd_same, Ty.up _ (Ex.new hn) ty1, Ty.up _ (Ex.new hn) ty2, trivial⟩
    · have hz : (zipTy X.K Ts Us).length = Ts.length := by simp [zipTy, hl]
      exact ⟨vs, ws, (hf.le e).sq, (hf2.le e).sq, .inl (by rw [hi, hz, h3.len]; exact Nat.le_refl _)⟩)
/-- [elt for x, y in ..] -/
theorem g_lc2 {α : Type} {x1 x2 : Str} {j k : Nat} {elt iter : Expr} {scope : Scope} {px1 px2 : Pos} {kk : Nat} (ks : List α) (A B R : α → Ty) [hSt : ∀ a, Stb (R a)] (hi : GI X Γ (.Tuple [.Name x1 px1, .Name x2 px2] kk tpos) iter (ks.map fun p => tupT X.K [A p, B p])) (hz : ks.length ≤ sizeLine)
    (hv : ∀ p ∈ ks, GC X scope ((((Γ.set k none).set j none).set j (some (A p))).set k (some (B p))) elt (R p)) (hjk : j ≠ k := by decide) (ok : BlkOk X.N X.env.scope scope [(x1, j), (x2, k)] := by first | exact blkOk_by rfl | exact blkOk_by (by decide +kernel))
    (hg : ∀ (s : Shared) (H : Hp) (C : Addr) (cl : List (Str × Addr)) (fp : List Addr), PG (X.blk s H scope (compEnvC scope cl C X.env) fp) (.Tuple [.Name x1 px1, .Name x2 px2] kk tpos) (gTup X.K 2 (gCons (gName j) (gCons (gName k) gNil))) := by exact fun _ _ _ _ _ => pg_tup rfl (pgs_cons (pg_name (by assumption) rfl (Or.inl rfl)) (pgs_cons (pg_name (by assumption) rfl (Or.inl rfl)) pgs_nil)))
    {T' : Ty} (hR : lstT (ks.map R) = T' := by rfl) (hc : X.calm = true := by rfl) (hN : X.N.Nodup := by first | assumption | decide) (hf : ∀ x, foldedSetIterable iter X.env x = pure x := by intro _; rfl) : G X Γ (.ListComp elt [⟨.Tuple [.Name x1 px1, .Name x2 px2] kk tpos, iter, [], 0⟩] scope pos) T' := by
  subst hR
  refine g_lc (ks.map fun p => some (R p)) hi ok hg (by rw [List.length_map, List.length_map]) (by rw [List.length_map]; exact hz) (fun i T hT => ?_) (fun U hU => by obtain ⟨a, _, e⟩ := List.mem_map.mp hU; cases e; exact hSt a) (own_tup2 hjk) (by unfold keptT; rw [kept_all]) hc hN hf
  rw [List.getElem?_map] at hT
  cases hp : ks[i]? with
  | none => rw [hp] at hT; cases hT
  | some q =>
    rw [hp] at hT
    cases hT
    exact ⟨_, tgts2, .inr ⟨R q, by rw [List.getElem?_map, hp]; rfl, gct_nil, hv q (List.mem_of_getElem? hp)⟩⟩
/-- [x] * 2 -/
theorem g_rep2 {j : Nat} (h : G X Γ e T) (hs : starEach [e] X.env = (false, eval e X.env) :: starEach [] X.env := by exact se_cons rfl) : G X Γ (.BinOp (.List [e] p) .Mult (.Constant (.int 2) j p2) pos) (lstT [T, T]) := fun σ H t Q q =>
  tE_frz (toE (pe_op op_rep (pe_lst (pa_cons (pe e) pa_nil hs)) pe_int) (h σ H t _ fun v H1 e1 h1 => ⟨by show 1 ≤ sizeLine; decide, fun d hd => ⟨d, 2, [v], rfl, rfl, upd_same, by decide, by decide, by show 1 * 2 ≤ sizeLine; decide, fun d2 hd2 => ⟨d2, _, upd_same, trivial, fun od => by
    rw [upd_upd]
    have e3 := (Ex.new (o := .lst [v]) hd).trans (Ex.new (o := .frz od (.lst [v, v])) hd2)
    exact q _ _ (e1.trans e3) ⟨d2, [v, v], rfl, ⟨od, upd_same⟩, T.up e3 h1, T.up e3 h1, trivial⟩⟩⟩⟩))
end
end RL

set_option Elab.async false
set_option linter.all false
set_option maxRecDepth 100000
set_option maxHeartbeats 1000000
namespace K10
open PySem PySem.Spec PyProof.Rows L2 RL StX
section
variable {X : Cx} {Γ : RL.Ctx} {a b e : Expr} {T U : RL.Ty} {pos p : Pos}
theorem gt_neB {i j : Bool} (h : i = j) (ha : G X Γ a (blT i)) (hb : G X Γ b (blT j)) : GT X Γ (.Compare a [.NotEq] [b] pos) false :=
  gt_cmp op_ne ha hb (fun x y H hx hy Q q => by
    have hx' : x = .bl i := hx
    have hy' : y = .bl j := hy
    subst hx'; subst hy'; subst h
    exact ⟨rfl, q _ H (Ex.refl H) (by show V.bl _ = V.bl _; simp)⟩) (nomark _)
theorem g_eqB {i j : Bool} (ha : G X Γ a (blT i)) (hb : G X Γ b (blT j)) : G X Γ (.Compare a [.Eq] [b] pos) (blT (decide (i = j))) := (g_cmp op_eq ha hb (r_Eq rfl) (nomark _)).is (by simp)
theorem ty_str {K : PySem.W.Frag} {x : Str} : ∀ v H, strT x v H → TyX K H v (.type "str") := fun v H h => by
  have h' : v = .str x := h
  subst h'
  exact .base (.str x)
theorem ty_lst {K : PySem.W.Frag} {Ts : List RL.Ty} : ∀ v H, lstT Ts v H → TyX K H v (.type "list") := fun v H ⟨a, vs, ev, ⟨o, hf⟩, _⟩ => by
  subst ev
  exact .base (.frz hf)
theorem GI.is {tg it : Expr} {Ts Us : List RL.Ty} (h : GI X Γ tg it Ts) (e : Ts = Us) : GI X Γ tg it Us := e ▸ h
theorem str_non {x : Str} : ∀ v H, strT x v H → v ≠ .non := fun v H h => by
  have h' : v = .str x := h
  subst h'
  exact nofun
theorem lst_non {Ts : List RL.Ty} : ∀ v H, lstT Ts v H → v ≠ .non := fun v H ⟨a, vs, ev, _, _⟩ => by
  subst ev
  exact nofun
end
section
variable {P : Program} {w : World} {K : PySem.W.Frag} {mg : Str → Option Value} {base : Heap}
theorem sc_alike : FnScope ["_law_found", "_law_due", "_law_one", "_law_two"] ["_law_found", "_law_due"] (defScope s__law_alike) := ⟨rfl, rfl, rfl, by decide +kernel, rfl, by decide +kernel, by decide +kernel⟩
theorem f_alikeS (T : Tx fa fn ex K mg) : FnG P w K mg base 1 "_law_alike" ["_law_found", "_law_due"] (spG (fun x : Str => [strT x, strT x]) fun _ => blT true) := by
  refine T.fn d__law_alike i__law_alike "_law_alike" rfl q_glo__law_alike rfl (fun _ _ _ _ _ _ us hl => match us, hl with | [_, _], _ => rfl) fun f fd F => ?_
  refine fn_G F sc_alike (fun _ => rfl) fun x cdv Ar outer s H E hr nd D hD _ => ?_
  have hi := T.free _ q_free_isinstance
  have hint := T.free _ q_free_int
  have hbool := T.free _ q_free_bool
  have hstr := T.free _ q_free_str
  refine b_if (gt_or2 (gt_isN0 (g_var 1) str_non) fun _ => gt_isN0 (g_var 0) str_non) (fun h => by cases h) fun _ => ?_
  refine b_skip ?_
  refine b_if (gt_or2 (gt_bl (g_isi (v := .str x) (n := "str") (n' := "bool") (r := false) (g_var 1) ty_str hi hbool (by decide +kernel) (by decide +kernel))) fun _ => gt_bl (g_isi (v := .str x) (n := "str") (n' := "bool") (r := false) (g_var 0) ty_str hi hbool (by decide +kernel) (by decide +kernel))) (fun h => by cases h) fun _ => ?_
  refine b_skip ?_
  refine b_if (gt_bl (g_isi2 (n := "str") (n1 := "int") (n2 := "str") (r1 := false) (r2 := true) (g_var 1) ty_str hi hint hstr (by decide +kernel) (by decide +kernel) (by decide +kernel) (by decide +kernel))) (fun _ => ?_) fun h => by cases h
  refine b_ret (T := blT true) ((g_and3 (k := true) (l := true) (n := true) (g_isi2 (n := "str") (n1 := "int") (n2 := "str") (r1 := false) (r2 := true) (g_var 0) ty_str hi hint hstr (by decide +kernel) (by decide +kernel) (by decide +kernel) (by decide +kernel)) (fun _ => (g_eqB (g_isi (v := .str x) (n := "str") (n' := "int") (r := false) (g_var 0) ty_str hi hint (by decide +kernel) (by decide +kernel)) (g_isi (v := .str x) (n := "str") (n' := "int") (r := false) (g_var 1) ty_str hi hint (by decide +kernel) (by decide +kernel)))) fun _ _ => (g_eqS (g_var 0) (g_var 1)).is (by simp))) hD
abbrev Strs := { l : List Str // l.length ≤ 100 }
theorem f_alikeL (T : Tx fa fn ex K mg) : FnG P w K mg base 2 "_law_alike" ["_law_found", "_law_due"] (spG (fun l : Strs => [wsT l.1, wsT l.1]) fun _ => blT true) := by
  have FS : FnG P w K mg base 1 "_law_alike" ["_law_found", "_law_due"] _ := f_alikeS T
  refine T.fn d__law_alike i__law_alike "_law_alike" rfl q_glo__law_alike rfl (fun _ _ _ _ _ _ us hl => match us, hl with | [_, _], _ => rfl) fun f fd F => ?_
  refine fn_G F sc_alike (fun _ => rfl) fun l cdv Ar outer s H E hr nd D hD _ => ?_
  obtain ⟨l, hl⟩ := l
  have hi := T.free _ q_free_isinstance
  have hint := T.free _ q_free_int
  have hbool := T.free _ q_free_bool
  have hstr := T.free _ q_free_str
  have htup := T.free _ q_free_tuple
  have hlst := T.free _ q_free_list
  have hlen := T.free _ q_free_len
  change Bd (BX P w K mg base ["_law_found", "_law_due", "_law_one", "_law_two"] d__law_alike.qual d__law_alike.scope f cdv Ar outer s H E) [some (wsT l), some (wsT l), none, none] _ _ _
  refine b_if (gt_or2 (gt_isN0 (g_var 1) lst_non) fun _ => gt_isN0 (g_var 0) lst_non) (fun h => by cases h) fun _ => ?_
  refine b_skip ?_
  refine b_if (gt_or2 (gt_bl (g_isi (v := .non) (n := "list") (n' := "bool") (r := false) (g_var 1) ty_lst hi hbool (by decide +kernel) (by decide +kernel))) fun _ => gt_bl (g_isi (v := .non) (n := "list") (n' := "bool") (r := false) (g_var 0) ty_lst hi hbool (by decide +kernel) (by decide +kernel))) (fun h => by cases h) fun _ => ?_
  refine b_skip ?_
  refine b_if (gt_bl (g_isi2 (n := "list") (n1 := "int") (n2 := "str") (r1 := false) (r2 := false) (g_var 1) ty_lst hi hint hstr (by decide +kernel) (by decide +kernel) (by decide +kernel) (by decide +kernel))) (fun h => by cases h) fun _ => ?_
  refine b_skip ?_
  refine b_if (gt_or2 (gt_neB (i := false) (j := false) rfl (g_isi (v := .non) (n := "list") (n' := "tuple") (r := false) (g_var 1) ty_lst hi htup (by decide +kernel) (by decide +kernel)) (g_isi (v := .non) (n := "list") (n' := "tuple") (r := false) (g_var 0) ty_lst hi htup (by decide +kernel) (by decide +kernel))) fun _ => gt_neB (i := true) (j := true) rfl (g_isi (v := .non) (n := "list") (n' := "list") (r := true) (g_var 1) ty_lst hi hlst (by decide +kernel) (by decide +kernel)) (g_isi (v := .non) (n := "list") (n' := "list") (r := true) (g_var 0) ty_lst hi hlst (by decide +kernel) (by decide +kernel))) (fun h => by cases h) fun _ => ?_
  refine b_skip ?_
  refine b_ret (T := blT true) ((g_and2 (k := true) (l := true) ((g_eqI (g_lenL (g_var 0) hlen) (g_lenL (g_var 1) hlen)).is (by simp)) fun _ => (RL.g_all (bs := l.map fun _ => true) (g_lc2 (j := 2) (k := 3) l (fun z => strT z) (fun z => strT z) (fun _ => blT true) ?_ (fit (by omega)) (fun z hz s' H C cl fp => g_call FS hr z (ga_cons (g_var 2) (ga_cons (g_var 3) ga_nil))) (hR := by rw [List.map_map]; rfl)) (T.free _ q_free_all)).is ?_)) hD
  · have e : zipTy K (l.map fun z => strT z) (l.map fun z => strT z) = l.map fun z => tupT K [strT z, strT z] := by
      unfold zipTy
      rw [List.zipWith_map, List.zipWith_self]
    exact GI.is (gi_zipL (Ts := l.map fun z => strT z) (Us := l.map fun z => strT z) (g_var 0) (g_var 1) rfl (T.free _ q_free_zip)) e
  · have : (l.map fun _ => true).all id = true := by simp
    rw [this]
end
end K10

set_option Elab.async false
set_option linter.all false
set_option maxRecDepth 100000
set_option maxHeartbeats 1000000
namespace K10
open PySem PySem.Spec PyProof.Rows L2 RL StX
/-! the law's written rows -/
abbrev one : Say := .use "near" ["x"]
abbrev two : Say := .use "fact" []
abbrev Row5 := Say × Str
abbrev r1 : Row5 := (.con true [.con false [one, two], .con true [one, two]], "(near(x) or fact()) and (near(x) and fact())")
abbrev r2 : Row5 := (.con false [.con true [one, two], .con false [one, two]], "near(x) and fact() or (near(x) or fact())")
abbrev r3 : Row5 := (.neg (.qu true "y" (.qu false "z" one)), "not some y all z near(x)")
abbrev r4 : Row5 := (.cmp true ([("x", 2), ("y", 1)], 1) ([], 1), "x^2*y = 1")
abbrev r5 : Row5 := (.cnt [([("x", -1), ("y", 3)], ">=", -2), ([("y", 1)], "=", 1)] (.rest 2 0), "#(-x + 3*y >= -2; y = 1) / 2 = 0")
abbrev rows5 : List Row5 := [r1, r2, r3, r4, r5]
abbrev row5T (K : PySem.W.Frag) (r : Row5) : RL.Ty := tupT K [sayT K r.1, strT r.2]
theorem ok_one {d : Nat} : SayOk d one := .use (by decide +kernel) (by decide) (by decide +kernel)
theorem ok_two {d : Nat} : SayOk d two := .use (by decide +kernel) (by decide) (by decide +kernel)
theorem ok_con2 {d : Nat} {c : Bool} {s t : Say} (h : SayOk d s) (k : SayOk d t) : SayOk (d + 1) (.con c [s, t]) := .con ⟨by show 2 ≤ 2; omega, by show 2 ≤ 3; omega⟩ fun z hz => by
  rcases List.mem_cons.mp hz with rfl | hz
  · exact h
  · rw [List.mem_singleton.mp hz]; exact k
theorem ok_rows : ∀ r ∈ rows5, SayOk 3 r.1 := by
  intro r hr
  have hz : r = r1 ∨ r = r2 ∨ r = r3 ∨ r = r4 ∨ r = r5 := by simpa [rows5] using hr
  rcases hz with rfl | rfl | rfl | rfl | rfl
  · exact ok_con2 (ok_con2 ok_one ok_two) (ok_con2 ok_one ok_two)
  · exact ok_con2 (ok_con2 ok_one ok_two) (ok_con2 ok_one ok_two)
  · exact .neg (.qu (by decide +kernel) (.qu (by decide +kernel) ok_one))
  · exact .cmp ⟨by decide, by decide +kernel, by decide⟩ ⟨by decide, by decide +kernel, by decide⟩
  · exact .cnt (by decide) (by
      intro r hr
      have hz : r = (([("x", -1), ("y", 3)], ">=", -2) : Cmpn) ∨ r = (([("y", 1)], "=", 1) : Cmpn) := by simpa using hr
      rcases hz with rfl | rfl
      · exact ⟨by decide, by decide +kernel, by decide +kernel, by decide⟩
      · exact ⟨by decide, by decide +kernel, by decide +kernel, by decide⟩) (by show 2 ≤ (2 : Int) ∧ (2 : Int) ≤ 4 ∧ 0 ≤ (0 : Int) ∧ (0 : Int) < 2; decide)
theorem txt_rows : ∀ r ∈ rows5, sayS r.1 = r.2 := by
  intro r hr
  have hz : r = r1 ∨ r = r2 ∨ r = r3 ∨ r = r4 ∨ r = r5 := by simpa [rows5] using hr
  rcases hz with rfl | rfl | rfl | rfl | rfl
  · simp only [sayS, saysS, isCon]; decide +kernel
  · simp only [sayS, saysS, isCon]; decide +kernel
  · simp only [sayS, saysS, isCon]; decide +kernel
  · simp only [sayS, saysS, isCon]; decide +kernel
  · simp only [sayS, saysS, isCon]; decide +kernel
end K10

set_option Elab.async false
set_option linter.all false
set_option maxRecDepth 100000
set_option maxHeartbeats 1000000
namespace K10
open PySem PySem.Spec PyProof.Rows L2 RL StX
section
variable {P : Program} {w : World} {K : PySem.W.Frag} {mg : Str → Option Value} {base : Heap}
/-! names in scope -/
structure ScOk (sc : List Str) : Prop where
  few : sc.length ≤ 3
  mem : ∀ x ∈ sc, x ∈ allNames
abbrev Sc := { sc : List Str // ScOk sc }
abbrev scT (sc : List Str) : RL.Ty := lstT (sc.map fun z => strT z)
theorem small3 {n : Nat} (h : n ≤ 64) : n ≤ sizeLine := Nat.le_trans h (by decide)
def rates8 : List Int := [1, 1, 1, 2, -1, -1, -2, 4]
theorem sc_row : FnScope ["_law_bag_here", "_law_names_here", "_law_wide", "_law_at", "_law_many", "_law_some", "_law_rates", "_law_name"] ["_law_bag_here", "_law_names_here", "_law_wide"] (defScope s__law_some_row) := ⟨rfl, rfl, rfl, by decide +kernel, rfl, by decide +kernel, by decide +kernel⟩
abbrev ScN := { sc : List Str // ScOk sc ∧ sc ≠ [] }
abbrev anyRow (K : PySem.W.Frag) : RL.Ty := exT fun r : { r : Cmpn // CmpnOk r } => cmpnT K r.1
theorem f_row (T : Tx fa fn ex K mg) : FnG P w K mg base 3 "_law_some_row" ["_law_bag_here", "_law_names_here", "_law_wide"] (spG (fun sc : ScN => [bagT, scT sc.1, intT 3]) fun _ => anyRow K) := by
  have FT : FnG P w K mg base 1 "_law_take" ["_law_bag_here", "_law_many"] _ := f_take T
  have FO : FnG P w K mg base 2 "_law_of" ["_law_bag_here", "_law_things"] _ := f_of T
  refine T.fn d__law_some_row i__law_some_row "_law_some_row" rfl q_glo__law_some_row rfl (fun _ _ _ _ _ _ us hl => match us, hl with | [_, _, _], _ => rfl) fun f fd F => ?_
  refine fn_G F sc_row (fun _ => rfl) fun sc cdv Ar outer s H E hr nd D hD _ => ?_
  obtain ⟨sc, hsc, hne⟩ := sc
  change Bd _ [some bagT, some (scT sc), some (intT 3), none, none, none, none, none] _ _ _
  have hr1 := hr.mono (j := 1) (by decide)
  have hlen : 0 < sc.length := List.length_pos_iff.mpr hne
  have hfew := hsc.few
  refine b_par2 (T := choT sc.length) (U := choT 2) 3 4 ((g_call FT hr1 ⟨(sc.length : Int), by omega, by omega⟩ (ga_cons (g_var 0) (ga_cons ((g_lenL (g_var 1) (T.free _ q_free_len)).is (by rw [List.length_map])) ga_nil)))) (g_call FT hr1 ⟨2, by decide⟩ (ga_cons (g_var 0) (ga_cons g_int ga_nil))) ?_
  refine b_openS (F := fun r : Below sc.length => intT r.1) 3 rfl fun at_ => ?_
  refine b_openS (F := fun r : Below 2 => intT r.1) 4 rfl fun mn => ?_
  obtain ⟨at_, a0, a1⟩ := at_
  obtain ⟨mn, m0, m1⟩ := mn
  change Bd _ [some bagT, some (scT sc), some (intT 3), some (intT at_), some (intT mn), none, none, none] _ _ _
  have hl1 : ((sc.drop at_.toNat ++ sc.take at_.toNat).take (1 + mn).toNat).length ≤ 2 := by rw [List.length_take]; omega
  have hl2 : 1 ≤ ((sc.drop at_.toNat ++ sc.take at_.toNat).take (1 + mn).toNat).length := by
    rw [List.length_take, List.length_append, List.length_drop, List.length_take]; omega
  refine b_asgX (F := fun zs : { zs : List Str // (1 ≤ zs.length ∧ zs.length ≤ 2) ∧ ∀ x ∈ zs, x ∈ allNames } => scT zs.1) 5 (g_sortedS (ys := (sc.drop at_.toNat ++ sc.take at_.toNat).take (1 + mn).toNat) _ ((g_to (g_cat (g_from (g_var 1) (g_var 3) a0) (g_to (g_var 1) (g_var 3) a0) ?_) (g_add g_int (g_var 4)) (by omega)).is ?_) (T.free _ q_free_sorted) (by omega) ?_) fun zs => ?_
  · rw [List.length_drop, List.length_take, List.length_map]
    exact small3 (by omega)
  · rw [List.map_take, List.map_append, List.map_drop, List.map_take]
  · intro zs hp _
    refine ⟨by rw [hp.length_eq]; exact ⟨hl2, hl1⟩, fun x hx => ?_⟩
    have h1 := List.mem_of_mem_take (hp.mem_iff.mp hx)
    rcases List.mem_append.mp h1 with h | h
    · exact hsc.mem x (List.mem_of_mem_drop h)
    · exact hsc.mem x (List.mem_of_mem_take h)
  obtain ⟨zs, ⟨z1, z2⟩, zm⟩ := zs
  change Bd _ [some bagT, some (scT sc), some (intT 3), some (intT at_), some (intT mn), some (scT zs), none, none] _ _ _
  refine b_asgLc (j := 7) 6 zs (fun z => strT z) (fun k => exT fun q : { q : Str × Int // q.1 = k ∧ q.2 ≠ 0 ∧ -4 ≤ q.2 ∧ q.2 ≤ 4 } => pwT K q.1) (gi_list (g_var 5)) (small3 (by omega)) (fun z hz s H C cl fp => ?_) ?_
  · refine G.imp (g_tup (Ts := [strT z, inT fun i => i ≠ 0 ∧ -4 ≤ i ∧ i ≤ 4]) (ga_cons (g_var 7) (ga_cons (G.imp (g_call FO hr ⟨rates8.map fun z => intT z, by decide, by decide⟩ (ga_cons (g_var 0) (ga_cons (g_lst (ga_cons g_int (ga_cons g_int (ga_cons g_int (ga_cons g_int (ga_cons (g_neg g_int) (ga_cons (g_neg g_int) (ga_cons (g_neg g_int) (ga_cons g_int ga_nil))))))))) ga_nil))) fun v H hv => one_in (by decide) hv) ga_nil)) (hl := by show 2 ≤ sizeLine; decide)) fun v H hv => ?_
    obtain ⟨l, vs, ev, hp, h2⟩ := hv
    obtain ⟨v0, v1, rfl, h0, ⟨i, h1⟩⟩ := all2_2 h2
    exact ⟨⟨(z, i.1), rfl, i.2⟩, l, _, ev, hp, h0, h1, trivial⟩
  refine b_impS 6 rfl (lst_ex (C := fun (k : Str) (q : Str × Int) => q.1 = k ∧ q.2 ≠ 0 ∧ -4 ≤ q.2 ∧ q.2 ≤ 4) (E := pwT K) (D := fun qs => (1 ≤ qs.length ∧ qs.length ≤ 2) ∧ ∀ q ∈ qs, q.1 ∈ allNames ∧ q.2 ≠ 0 ∧ -4 ≤ q.2 ∧ q.2 ≤ 4) fun qs h => ⟨by rw [← h.len]; exact ⟨z1, z2⟩, h.right fun k hk q hq => ⟨by rw [hq.1]; exact zm k hk, hq.2⟩⟩) ?_
  refine b_openS (F := fun qs : { qs : PowL // (1 ≤ qs.length ∧ qs.length ≤ 2) ∧ ∀ q ∈ qs, q.1 ∈ allNames ∧ q.2 ≠ 0 ∧ -4 ≤ q.2 ∧ q.2 ≤ 4 } => lstT (qs.1.map (pwT K))) 6 rfl fun qs => ?_
  obtain ⟨qs, hq1, hq2⟩ := qs
  change Bd _ [some bagT, some (scT sc), some (intT 3), some (intT at_), some (intT mn), some (scT zs), some (lstT (qs.map (pwT K))), none] _ _ _
  refine b_ret (G.imp (g_tup (Ts := [exT fun _ : Unit => tupT K (qs.map (pwT K)), oneT (allSigns.map fun z => strT z), inT fun i => -9 ≤ i ∧ i ≤ 9]) (ga_cons (g_tupleL (g_var 6).un (T.free _ q_free_tuple)) (ga_cons (g_call FO hr ⟨allSigns.map fun z => strT z, by decide, by decide⟩ (ga_cons (g_var 0) (ga_cons (g_lst (ga_cons g_str (ga_cons g_str (ga_cons g_str ga_nil)))) ga_nil))) (ga_cons (gx_sub (g_call FT hr1 ⟨7, by decide⟩ (ga_cons (g_var 0) (ga_cons (g_add (g_mul (n := 3) (k := 3) g_int (g_var 2) (by decide) (by decide)) g_int) ga_nil))) ((g_var 2).ofI (p := fun i => i = 3) rfl) fun i j hi hj => by
    have := hi.1
    have : i < 7 := hi.2
    omega) ga_nil))) (hl := by show 3 ≤ sizeLine; decide)) fun v H hv => ?_) hD
  obtain ⟨l, vs, ev, hp, h2⟩ := hv
  obtain ⟨v0, v1, v2, rfl, ⟨_, h0⟩, ⟨j, h1⟩, ⟨i, h2⟩⟩ := all2_3 h2
  have hj : j.1 < allSigns.length := by have := j.2; simpa using this
  refine ⟨⟨(qs, allSigns[j.1], i.1), ⟨hq1, hq2, List.getElem_mem hj, i.2⟩⟩, l, _, ev, hp, h0, by simpa using h1, h2, trivial⟩
end
end K10

set_option Elab.async false
set_option linter.all false
set_option maxRecDepth 100000
set_option maxHeartbeats 1000000
namespace K10
open PySem PySem.Spec PyProof.Rows L2 RL StX
section
variable {P : Program} {w : World} {K : PySem.W.Frag} {mg : Str → Option Value} {base : Heap}
def cmpB (n : Int) (s : Str) (b : Int) : Bool := if s = "=" then decide (n = b) else if s = "<=" then decide (n ≤ b) else decide (b ≤ n)
theorem sc_compares : FnScope ["_law_number", "_law_sign", "_law_bound"] ["_law_number", "_law_sign", "_law_bound"] (defScope s__law_compares) := ⟨rfl, rfl, rfl, by decide +kernel, rfl, by decide +kernel, by decide +kernel⟩
theorem f_compares (T : Tx fa fn ex K mg) : FnG P w K mg base 1 "_law_compares" ["_law_number", "_law_sign", "_law_bound"] (spG (fun z : Int × Str × Int => [intT z.1, strT z.2.1, intT z.2.2]) fun z => blT (cmpB z.1 z.2.1 z.2.2)) := by
  refine T.fn d__law_compares i__law_compares "_law_compares" rfl q_glo__law_compares rfl (fun _ _ _ _ _ _ us hl => match us, hl with | [_, _, _], _ => rfl) fun f fd F => ?_
  refine fn_G F sc_compares (fun _ => rfl) fun z cdv Ar outer s H E hr nd D hD _ => ?_
  obtain ⟨n, sg, b⟩ := z
  refine b_if (gt_eqS (g_var 1) g_str) (fun h => ?_) fun h => ?_
  · have h' : sg = "=" := of_decide_eq_true h
    exact b_ret ((g_eqI (g_var 0) (g_var 2)).is (by simp only [cmpB, h', if_true])) hD
  · refine b_skip ?_
    have h' : ¬ sg = "=" := of_decide_eq_false h
    refine b_ret (T := blT (cmpB n sg b)) (g_ite (gt_eqS (g_var 1) g_str) (fun k => (g_le (g_var 0) (g_var 2)).is ?_) fun k => (g_ge (g_var 0) (g_var 2)).is ?_) hD
    · have k' : sg = "<=" := of_decide_eq_true k
      have q0 : ¬ (("<=" : Str) = "=") := by decide
      simp only [cmpB, k', q0, if_true, if_false]
    · have k' : ¬ sg = "<=" := of_decide_eq_false k
      simp only [cmpB, h', k', if_false]
def zfB (rows : List Cmpn) : Bool := !((rows.map fun r => cmpB 0 r.2.1 r.2.2).all id)
abbrev Rows := { rows : List Cmpn // rows.length ≤ 64 }
theorem sc_zero : FnScope ["_law_rows", "_law_row"] ["_law_rows"] (defScope s__law_zero_fails) := ⟨rfl, rfl, rfl, by decide +kernel, rfl, by decide +kernel, by decide +kernel⟩
theorem f_zero (T : Tx fa fn ex K mg) : FnG P w K mg base 2 "_law_zero_fails" ["_law_rows"] (spG (fun z : Rows => [tupT K (z.1.map (cmpnT K))]) fun z => blT (zfB z.1)) := by
  have FC : FnG P w K mg base 1 "_law_compares" ["_law_number", "_law_sign", "_law_bound"] _ := f_compares T
  refine T.fn d__law_zero_fails i__law_zero_fails "_law_zero_fails" rfl q_glo__law_zero_fails rfl (fun _ _ _ _ _ _ us hl => match us, hl with | [_], _ => rfl) fun f fd F => ?_
  refine fn_G F sc_zero (fun _ => rfl) fun z cdv Ar outer s H E hr nd D hD _ => ?_
  obtain ⟨rows, hl⟩ := z
  refine b_ret (T := blT (zfB rows)) (g_not (g_all (bs := rows.map fun r => cmpB 0 r.2.1 r.2.2) ?_ (T.free _ q_free_all))) hD
  refine g_lcM (i := 1) rows (cmpnT K) (fun r => blT (cmpB 0 r.2.1 r.2.2)) (gi_tup (g_var 0)) (small3 hl) (fun r hr' s H C cl fp => ?_) (hR := by rw [List.map_map]; rfl)
  exact g_call FC hr (0, r.2.1, r.2.2) (ga_cons g_int (ga_cons (g_ixT (T := strT r.2.1) (g_var 1) g_int) (ga_cons (g_ixT (T := intT r.2.2) (g_var 1) g_int) ga_nil)))
/-! counts -/
abbrev anyAtom (K : PySem.W.Frag) : RL.Ty := exT fun s : { s : Say // ∀ d, SayOk d s } => sayT K s.1
structure RowsOk (rows : List Cmpn) : Prop where
  few : 1 ≤ rows.length ∧ rows.length ≤ 2
  ok : ∀ r ∈ rows, CmpnOk r
theorem cnt_is {K : PySem.W.Frag} {rows : List Cmpn} {way : Way} (hr : RowsOk rows) (hw : WayOk way) {v : V} {H : Hp} (h : tupT K (strT "count" :: tupT K (rows.map (cmpnT K)) :: wayTs K way) v H) : anyAtom K v H :=
  ⟨⟨.cnt rows way, fun d => .cnt hr.few hr.ok hw⟩, by
    show sayT K (.cnt rows way) v H
    rw [sayT]
    exact h⟩
theorem sc_count : FnScope ["_law_bag_here", "_law_names_here", "_law_rows", "_law_way", "_law_many", "_law_k"] ["_law_bag_here", "_law_names_here"] (defScope s__law_some_count) := ⟨rfl, rfl, rfl, by decide +kernel, rfl, by decide +kernel, by decide +kernel⟩
theorem f_count (T : Tx fa fn ex K mg) : FnG P w K mg base 4 "_law_some_count" ["_law_bag_here", "_law_names_here"] (spG (fun sc : ScN => [bagT, scT sc.1]) fun _ => anyAtom K) := by
  have FT : FnG P w K mg base 1 "_law_take" ["_law_bag_here", "_law_many"] _ := f_take T
  have FR : FnG P w K mg base 3 "_law_some_row" ["_law_bag_here", "_law_names_here", "_law_wide"] _ := f_row T
  have FZ : FnG P w K mg base 2 "_law_zero_fails" ["_law_rows"] _ := f_zero T
  refine T.fn d__law_some_count i__law_some_count "_law_some_count" rfl q_glo__law_some_count rfl (fun _ _ _ _ _ _ us hl => match us, hl with | [_, _], _ => rfl) fun f fd F => ?_
  refine fn_G F sc_count (fun _ => rfl) fun sc cdv Ar outer s H E hr nd D hD _ => ?_
  obtain ⟨sc, hsc, hne⟩ := sc
  have hr1 := hr.mono (j := 1) (by decide)
  have hr2 := hr.mono (j := 2) (by decide)
  change Bd _ [some bagT, some (scT sc), none, none, none, none] _ _ _
  have take : ∀ {X : Cx} {Γ : RL.Ctx} {n : Int}, True := trivial
  refine b_asgX (F := fun rows : { rows : List Cmpn // RowsOk rows } => tupT K (rows.1.map (cmpnT K))) 2 (G.imp (g_tupleL (Ts := fun z : { i : Int // 1 ≤ i ∧ i ≤ 2 } => (List.range z.1.toNat).map fun _ => anyRow K) (g_lcX (j := 5) (fun z : { i : Int // 1 ≤ i ∧ i ≤ 2 } => List.range z.1.toNat) (fun k => intT (0 + (k : Int))) (fun _ => anyRow K) (gix_rng1 (gx_add (g_int.ofI (p := fun i => i = 1) rfl) (g_call FT hr1 ⟨2, by decide⟩ (ga_cons (g_var 0) (ga_cons g_int ga_nil))) fun i j hi hj => by
      have := hj.1
      have : j < 2 := hj.2
      omega) (T.free _ q_free_range) fun n hn => by omega) (fun z => by rw [List.length_range]; exact small3 (by have := z.2; omega)) fun z k hk s H C cl fp => ?_) (T.free _ q_free_tuple)) fun v H hv => ?_) fun rows => ?_
  · exact g_call FR hr ⟨sc, hsc, hne⟩ (ga_cons (g_var 0) (ga_cons (g_var 1) (ga_cons g_int ga_nil)))
  · obtain ⟨z, l, vs, ev, hp, h2⟩ := hv
    obtain ⟨zs, h3, h4⟩ := all2_ex (ks := List.range z.1.toNat) (C := fun _ (r : Cmpn) => CmpnOk r) (E := cmpnT K) h2
    have hl := h3.len
    rw [List.length_range] at hl
    exact ⟨⟨zs, ⟨by have := z.2; omega, h3.right fun _ _ _ h => h⟩⟩, l, vs, ev, hp, h4⟩
  obtain ⟨rows, hrows⟩ := rows
  have fin : ∀ rows : List Cmpn, RowsOk rows → Bd (BX P w K mg base ["_law_bag_here", "_law_names_here", "_law_rows", "_law_way", "_law_many", "_law_k"] d__law_some_count.qual d__law_some_count.scope f cdv Ar outer s H E) [some bagT, some (scT sc), some (tupT K (rows.map (cmpnT K))), none, none, none] ((defBody s__law_some_count).drop 2) (Bs.of H) D := fun rows hrows => by
    refine b_asgX (F := fun r : Below 3 => intT r.1) 3 (g_call FT hr1 ⟨3, by decide⟩ (ga_cons (g_var 0) (ga_cons g_int ga_nil))) fun way => ?_
    refine b_if (gt_eqI (g_var 3) g_int) (fun _ => ?_) fun _ => ?_
    · refine b_ret (G.imp (g_tup (Ts := [strT "count", tupT K (rows.map (cmpnT K)), strT "least", inT fun i => 1 ≤ i ∧ i ≤ 3]) (ga_cons g_str (ga_cons (g_var 2) (ga_cons g_str (ga_cons (gx_add (g_int.ofI (p := fun i => i = 1) rfl) (g_call FT hr1 ⟨3, by decide⟩ (ga_cons (g_var 0) (ga_cons g_int ga_nil))) fun i j hi hj => by
        have := hj.1
        have : j < 3 := hj.2
        omega) ga_nil)))) (hl := by show 4 ≤ sizeLine; decide)) fun v H hv => ?_) hD
      obtain ⟨l, vs, ev, hp, h2⟩ := hv
      obtain ⟨v0, v1, v2, v3, rfl, h0, h1, h2, ⟨i, h3⟩⟩ := all2_4 h2
      exact cnt_is (way := .least i.1) hrows i.2 ⟨l, _, ev, hp, h0, h1, h2, h3, trivial⟩
    refine b_skip ?_
    refine b_if (gt_eqI (g_var 3) g_int) (fun _ => ?_) fun _ => ?_
    · refine b_ret (G.imp (g_tup (Ts := [strT "count", tupT K (rows.map (cmpnT K)), strT "exact", choT 4]) (ga_cons g_str (ga_cons (g_var 2) (ga_cons g_str (ga_cons (g_call FT hr1 ⟨4, by decide⟩ (ga_cons (g_var 0) (ga_cons g_int ga_nil))) ga_nil)))) (hl := by show 4 ≤ sizeLine; decide)) fun v H hv => ?_) hD
      obtain ⟨l, vs, ev, hp, h2⟩ := hv
      obtain ⟨v0, v1, v2, v3, rfl, h0, h1, h2, ⟨⟨i, i0, i1⟩, h3⟩⟩ := all2_4 h2
      exact cnt_is (way := .exact i) hrows ⟨i0, by omega⟩ ⟨l, _, ev, hp, h0, h1, h2, h3, trivial⟩
    refine b_skip ?_
    refine b_asgX (F := fun r : { i : Int // 2 ≤ i ∧ i ≤ 4 } => intT r.1) 4 (gx_add (g_int.ofI (p := fun i => i = 2) rfl) (g_call FT hr1 ⟨3, by decide⟩ (ga_cons (g_var 0) (ga_cons g_int ga_nil))) fun i j hi hj => by
        have := hj.1
        have : j < 3 := hj.2
        omega) fun m => ?_
    obtain ⟨m, m0, m1⟩ := m
    refine b_ret (G.imp (g_tup (Ts := [strT "count", tupT K (rows.map (cmpnT K)), strT "rest", tupT K [intT m, choT m]]) (ga_cons g_str (ga_cons (g_var 2) (ga_cons g_str (ga_cons (g_tup (ga_cons (g_var 4) (ga_cons (g_call FT hr1 ⟨m, by omega, by omega⟩ (ga_cons (g_var 0) (ga_cons (g_var 4) ga_nil))) ga_nil)) (hl := by show 2 ≤ sizeLine; decide)) ga_nil)))) (hl := by show 4 ≤ sizeLine; decide)) fun v H hv => ?_) hD
    obtain ⟨l, vs, ev, hp, h2⟩ := hv
    obtain ⟨v0, v1, v2, v3, rfl, h0, h1, h2, ⟨l', vs', ev', hp', h3⟩⟩ := all2_4 h2
    obtain ⟨u0, u1, rfl, k0, ⟨⟨i, i0, i1⟩, k1⟩⟩ := all2_2 h3
    exact cnt_is (way := .rest m i) hrows ⟨m0, m1, i0, i1⟩ ⟨l, _, ev, hp, h0, h1, h2, ⟨l', _, ev', hp', k0, k1, trivial⟩, trivial⟩
  refine b_if (gt_not (gt_bl (g_call FZ hr2 ⟨rows, by have := hrows.few; omega⟩ (ga_cons (g_var 2) ga_nil)))) (fun _ => ?_) fun _ => b_skip (fin rows hrows)
  have hsl : 0 < sc.length := List.length_pos_iff.mpr hne
  refine b_asgX (F := fun rows : { rows : List Cmpn // RowsOk rows } => tupT K (rows.1.map (cmpnT K))) 2 (G.imp (g_addT (Ts := (rows.take 1).map (cmpnT K)) (Us := [tupT K [tupT K [tupT K [strT sc[0], intT 1]], strT ">=", inT fun i => 1 ≤ i ∧ i ≤ 2]]) (g_cutToT (g_var 2) g_int (by decide) (hR := by rw [List.map_take]; rfl)) (g_tup (ga_cons (g_tup (ga_cons (g_tup (ga_cons (g_tup (ga_cons (g_ixL (T := strT sc[0]) (g_var 1).rl g_int ?_) (ga_cons g_int ga_nil)) (hl := by show 2 ≤ sizeLine; decide)) ga_nil) (hl := by show 1 ≤ sizeLine; decide)) (ga_cons g_str (ga_cons (gx_add (g_int.ofI (p := fun i => i = 1) rfl) (g_call FT hr1 ⟨2, by decide⟩ (ga_cons (g_var 0) (ga_cons g_int ga_nil))) fun i j hi hj => by
        have := hj.1
        have : j < 2 := hj.2
        omega) ga_nil))) (hl := by show 3 ≤ sizeLine; decide)) ga_nil) (hl := by show 1 ≤ sizeLine; decide)) ?_) fun v H hv => ?_) fun rows2 => ?_
  · rw [atI_one (by decide) (by rw [List.length_map]; omega)]
    simp
  · rw [List.length_map, List.length_take]
    exact small3 (by simp only [List.length_cons, List.length_nil]; omega)
  · obtain ⟨l, vs, ev, hp, h2⟩ := hv
    have hr0 : 0 < rows.length := by have := hrows.few; omega
    obtain ⟨r0, rs, rfl⟩ := List.exists_cons_of_length_pos hr0
    obtain ⟨v0, v1, rfl, h0, h1⟩ := all2_2 (T0 := cmpnT K r0) (T1 := tupT K [tupT K [tupT K [strT sc[0], intT 1]], strT ">=", inT fun i => 1 ≤ i ∧ i ≤ 2]) h2
    obtain ⟨l1, ws, ew, hp1, k2⟩ := h1
    obtain ⟨u0, u1, u2, rfl, k0, k1, ⟨i, k3⟩⟩ := all2_3 k2
    refine ⟨⟨[r0, ([(sc[0], 1)], ">=", i.1)], ⟨by simp only [List.length_cons, List.length_nil]; omega, fun r hr' => ?_⟩⟩, l, _, ev, hp, h0, ⟨l1, _, ew, hp1, k0, k1, k3, trivial⟩, trivial⟩
    rcases List.mem_cons.mp hr' with rfl | hr'
    · exact hrows.ok _ List.mem_cons_self
    · rw [List.mem_singleton.mp hr']
      refine ⟨by simp only [List.length_cons, List.length_nil]; omega, fun q hq => ?_, by show (">=" : Str) ∈ allSigns; decide, by show -9 ≤ i.1 ∧ i.1 ≤ 9; have := i.2; omega⟩
      rw [List.mem_singleton.mp hq]
      exact ⟨hsc.mem _ (List.getElem_mem _), by show (1 : Int) ≠ 0 ∧ -4 ≤ (1 : Int) ∧ (1 : Int) ≤ 4; decide⟩
  exact b_skip (fin rows2.1 rows2.2)
end
end K10

set_option Elab.async false
set_option linter.all false
set_option maxRecDepth 100000
set_option maxHeartbeats 1000000
namespace K10
open PySem PySem.Spec PyProof.Rows L2 RL StX
section
variable {P : Program} {w : World} {K : PySem.W.Frag} {mg : Str → Option Value} {base : Heap}
def consts8 : List Int := [1, 1, 1, 2, 3, 4, 6, 9]
def pows7 : List Int := [1, 1, 1, 2, 2, 3, 4]
abbrev conT : RL.Ty := lstT (consts8.map fun z => intT z)
theorem sc_consts : FnScope [] [] (defScope s__law_constants) := ⟨rfl, rfl, rfl, by decide +kernel, rfl, by decide +kernel, by decide +kernel⟩
theorem f_consts (T : Tx fa fn ex K mg) : FnG P w K mg base 1 "_law_constants" [] (spG (fun _ : Unit => []) fun _ => conT) := by
  refine T.fn d__law_constants i__law_constants "_law_constants" rfl q_glo__law_constants rfl (fun _ _ _ _ _ _ us hl => match us, hl with | [], _ => rfl) fun f fd F => ?_
  refine fn_G F sc_consts (fun _ => rfl) fun z cdv Ar outer s H E hr nd D hD _ => ?_
  exact b_ret (g_lst (ga_cons g_int (ga_cons g_int (ga_cons g_int (ga_cons g_int (ga_cons g_int (ga_cons g_int (ga_cons g_int (ga_cons g_int ga_nil))))))))) hD
abbrev anyPw (K : PySem.W.Frag) : RL.Ty := exT fun q : { q : Str × Int // q.1 ∈ allNames ∧ 1 ≤ q.2 ∧ q.2 ≤ 4 } => pwT K q.1
abbrev anyTrm (K : PySem.W.Frag) : RL.Ty := exT fun t : { t : Trm // TrmOk t } => trmT K t.1
theorem sc_term : FnScope ["_law_bag_here", "_law_names_here", "_law_constants_here", "_law_powers", "_law_name"] ["_law_bag_here", "_law_names_here", "_law_constants_here"] (defScope s__law_some_term) := ⟨rfl, rfl, rfl, by decide +kernel, rfl, by decide +kernel, by decide +kernel⟩
theorem f_term (T : Tx fa fn ex K mg) : FnG P w K mg base 3 "_law_some_term" ["_law_bag_here", "_law_names_here", "_law_constants_here"] (spG (fun sc : Sc => [bagT, scT sc.1, conT]) fun _ => anyTrm K) := by
  have FT : FnG P w K mg base 1 "_law_take" ["_law_bag_here", "_law_many"] _ := f_take T
  have FO : FnG P w K mg base 2 "_law_of" ["_law_bag_here", "_law_things"] _ := f_of T
  refine T.fn d__law_some_term i__law_some_term "_law_some_term" rfl q_glo__law_some_term rfl (fun _ _ _ _ _ _ us hl => match us, hl with | [_, _, _], _ => rfl) fun f fd F => ?_
  refine fn_G F sc_term (fun _ => rfl) fun sc cdv Ar outer s H E hr nd D hD _ => ?_
  obtain ⟨sc, hsc⟩ := sc
  have hr1 := hr.mono (j := 1) (by decide)
  change Bd _ [some bagT, some (scT sc), some conT, none, none] _ _ _
  refine b_newL 3 fun a ha => ?_
  refine b_for (Ts := sc.map fun z => strT z) (g := gName 4) (fun i Δ => ∃ (m : List Unit) (u : Option RL.Ty), m.length ≤ i ∧ Δ = [some bagT, some (scT sc), some conT, some (mlT a (m.map fun _ => anyPw K)), u]) (gi_list (g_var 1)) (pg_name nd rfl (Or.inl rfl)) ⟨[], none, Nat.le_refl _, rfl⟩ (fun H1 i T1 Δ b1 hT hΔ => ?_) fun Δ hΔ => ?_
  · obtain ⟨m, u, hm, rfl⟩ := hΔ
    rw [List.getElem?_map] at hT
    cases hq : sc[i]? with
    | none => rw [hq] at hT; cases hT
    | some x =>
      rw [hq] at hT
      cases hT
      have hx : x ∈ allNames := hsc.mem x (List.mem_of_getElem? hq)
      have hi : i < sc.length := (List.getElem?_eq_some_iff.mp hq).1
      have hf := hsc.few
      refine ⟨_, tgt_name, ?_⟩
      refine b_ifP (p := fun _ => True) (gp_gt (k := fun _ => True) (g_call FT hr1 ⟨3, by decide⟩ (ga_cons (g_var 0) (ga_cons g_int ga_nil))) (g_int.ofI (p := fun _ => True) trivial) (fun _ _ _ _ => trivial)) (fun _ => ?_) fun _ => (by
        refine b_skip ?_
        exact turn_nx ⟨m, _, Nat.le_succ_of_le hm, rfl⟩)
      refine b_append (T := anyPw K) 3 (by exact rfl) (by exact G.imp (g_tup (Ts := [strT x, inT fun i => 1 ≤ i ∧ i ≤ 4]) (ga_cons (g_var 4) (ga_cons (G.imp (g_call FO hr ⟨pows7.map fun z => intT z, by decide, by decide⟩ (ga_cons (g_var 0) (ga_cons (g_lst (ga_cons g_int (ga_cons g_int (ga_cons g_int (ga_cons g_int (ga_cons g_int (ga_cons g_int (ga_cons g_int ga_nil)))))))) ga_nil))) fun v H hv => one_in (by decide) hv) ga_nil)) (hl := by show 2 ≤ sizeLine; decide)) fun v H hv => (by
          obtain ⟨l, vs, ev, hp, h2⟩ := hv
          obtain ⟨v0, v1, rfl, h0, ⟨i, h1⟩⟩ := all2_2 h2
          exact ⟨⟨(x, i.1), hx, i.2⟩, l, _, ev, hp, h0, h1, trivial⟩)) (by
        rw [List.length_map]
        exact Nat.lt_of_le_of_lt (Nat.le_trans hm (by omega : i ≤ 3)) (by decide)) (by exact ha) (by repeat (first | exact stbC_nil | refine stbC_none ?_ | refine stbC_some inferInstance ?_)) ?_
      refine b_skip ?_
      refine turn_nx ⟨m ++ [()], some (strT x), by rw [List.length_append]; simp only [List.length_cons, List.length_nil]; omega, ?_⟩
      rw [List.map_append]
      rfl
  · obtain ⟨m, u, hm, rfl⟩ := hΔ
    rw [List.length_map] at hm
    refine b_weak (Δ := [some bagT, some (scT sc), some conT, some (mlT a (m.map fun _ => anyPw K)), none]) ?_ fun σ H1 t1 => t1.drop 4
    refine b_frzL 3 rfl ha (by repeat (first | exact stbC_nil | refine stbC_none ?_ | refine stbC_some inferInstance ?_)) ?_
    refine b_impS 3 rfl (lst_ex (ks := m) (C := fun _ (q : Str × Int) => q.1 ∈ allNames ∧ 1 ≤ q.2 ∧ q.2 ≤ 4) (E := pwT K) (D := fun qs => qs.length ≤ 3 ∧ ∀ q ∈ qs, q.1 ∈ allNames ∧ 1 ≤ q.2 ∧ q.2 ≤ 4) fun qs h => ⟨by rw [← h.len]; have := hsc.few; omega, h.right fun _ _ q hq => hq⟩) ?_
    refine b_openS (F := fun qs : { qs : PowL // qs.length ≤ 3 ∧ ∀ q ∈ qs, q.1 ∈ allNames ∧ 1 ≤ q.2 ∧ q.2 ≤ 4 } => lstT (qs.1.map (pwT K))) 3 rfl fun qs => ?_
    obtain ⟨qs, hq1, hq2⟩ := qs
    refine b_ret (G.imp (g_tup (Ts := [exT fun _ : Unit => tupT K (qs.map (pwT K)), inT fun i => 1 ≤ i ∧ i ≤ 9]) (ga_cons (g_tupleL (G.un (T := lstT (qs.map (pwT K))) (g_var 3)) (T.free _ q_free_tuple)) (ga_cons (G.imp (g_call FO hr ⟨consts8.map fun z => intT z, by decide, by decide⟩ (ga_cons (g_var 0) (ga_cons (g_var 2) ga_nil))) fun v H hv => one_in (by decide) hv) ga_nil)) (hl := by show 2 ≤ sizeLine; decide)) fun v H hv => ?_) hD
    obtain ⟨l, vs, ev, hp, h2⟩ := hv
    obtain ⟨v0, v1, rfl, ⟨_, h0⟩, ⟨i, h1⟩⟩ := all2_2 h2
    exact ⟨⟨(qs, i.1), ⟨hq1, hq2, i.2⟩⟩, l, _, ev, hp, h0, h1, trivial⟩
/-! atoms -/
def kinds3 : List Str := ["equal", "divides", "divides"]
theorem eqv_nil (l : List PyData) : PyData.eqv (.list l) (.list []) = decide (l = []) := by
  cases l with
  | nil => simp [PyData.eqv, PyData.eqvAll]
  | cons a l => simp [PyData.eqv, PyData.eqvAll]
theorem sc_atom : FnScope ["_law_bag_here", "_law_names_here", "_law_constants_here", "_law_way", "_law_left", "_law_right"] ["_law_bag_here", "_law_names_here", "_law_constants_here"] (defScope s__law_some_atom) := ⟨rfl, rfl, rfl, by decide +kernel, rfl, by decide +kernel, by decide +kernel⟩
theorem scT_dp (K : PySem.W.Frag) (sc : List Str) : IsDp K (scT sc) (.list (sc.map PyData.str)) := dp_lst (areDp_map sc fun _ _ => dp_str)
theorem names_ok : ∀ x ∈ allNames, PyData.strOk x = true := by decide +kernel
theorem lay_str {x : Str} (h : PyData.strOk x = true) : Lay 0 (.str x) := ⟨by simpa [PyData.canLay0] using h, by simp [PyData.depth]⟩
theorem sc_shaped {sc : List Str} (h : ScOk sc) : SeqAt.shaped (.list (sc.map PyData.str)) = true := Lay.shaped (lay_list (n := 0) fun d hd => by
  obtain ⟨x, hx, rfl⟩ := List.mem_map.mp hd
  exact lay_str (names_ok x (h.mem x hx))) (by decide)
theorem f_atom (T : Tx fa fn ex K mg) : FnG P w K mg base 5 "_law_some_atom" ["_law_bag_here", "_law_names_here", "_law_constants_here"] (spG (fun sc : Sc => [bagT, scT sc.1, conT]) fun _ => anyAtom K) := by
  have FT : FnG P w K mg base 1 "_law_take" ["_law_bag_here", "_law_many"] _ := f_take T
  have FC : FnG P w K mg base 4 "_law_some_count" ["_law_bag_here", "_law_names_here"] _ := f_count T
  have FM : FnG P w K mg base 3 "_law_some_term" ["_law_bag_here", "_law_names_here", "_law_constants_here"] _ := f_term T
  refine T.fn d__law_some_atom i__law_some_atom "_law_some_atom" rfl q_glo__law_some_atom rfl (fun _ _ _ _ _ _ us hl => match us, hl with | [_, _, _], _ => rfl) fun f fd F => ?_
  refine fn_G F sc_atom (fun _ => rfl) fun sc cdv Ar outer s H E hr nd D hD _ => ?_
  obtain ⟨sc, hsc⟩ := sc
  have hr1 := hr.mono (j := 1) (by decide)
  change Bd _ [some bagT, some (scT sc), some conT, none, none, none] _ _ _
  refine b_asgX (F := fun r : Below 5 => intT r.1) 3 (g_call FT hr1 ⟨5, by decide⟩ (ga_cons (g_var 0) (ga_cons g_int ga_nil))) fun way => ?_
  obtain ⟨way, w0, w1⟩ := way
  change Bd _ [some bagT, some (scT sc), some conT, some (intT way), none, none] _ _ _
  refine b_if (gt_and2 (gt_gt (g_var 3) g_int) fun _ => (gt_neD (room64 hr) (g_var 1) (g_lst ga_nil) (scT_dp _ sc) (dp_lst .nil) (sc_shaped hsc) (by decide +kernel)).is (by rw [eqv_nil])) (fun h => ?_) fun _ => ?_
  · have hne : sc ≠ [] := by
      rw [Bool.and_eq_true] at h
      have h2 := h.2
      intro e
      subst e
      simp at h2
    exact b_ret (g_call FC hr ⟨sc, hsc, hne⟩ (ga_cons (g_var 0) (ga_cons (g_var 1) ga_nil))) hD
  refine b_skip ?_
  refine b_par2 (T := anyTrm K) (U := anyTrm K) 4 5 (g_call FM (hr.mono (by decide)) ⟨sc, hsc⟩ (ga_cons (g_var 0) (ga_cons (g_var 1) (ga_cons (g_var 2) ga_nil)))) (g_call FM (hr.mono (by decide)) ⟨sc, hsc⟩ (ga_cons (g_var 0) (ga_cons (g_var 1) (ga_cons (g_var 2) ga_nil)))) ?_
  have hk : way % 3 = 0 ∨ way % 3 = 1 ∨ way % 3 = 2 := by omega
  refine b_ret (G.imp (g_tup (Ts := [exT fun e : Bool => strT (if e then "equal" else "divides"), anyTrm K, anyTrm K]) (ga_cons ?_ (ga_cons (g_var 4) (ga_cons (g_var 5) ga_nil))) (hl := by show 3 ≤ sizeLine; decide)) fun v H hv => ?_) hD
  · refine G.imp (g_ixLX (Ts := kinds3.map fun z => strT z) (g_lst (ga_cons g_str (ga_cons g_str (ga_cons g_str ga_nil)))).rl ((g_mod (g_var 3) g_int (by decide)).ofI (p := fun i => 0 ≤ i ∧ i < (3 : Int)) (by omega))) fun v H hv => ?_
    obtain ⟨⟨j, hj⟩, hv⟩ := hv
    have hj' : j < 3 := hj
    have : j = 0 ∨ j = 1 ∨ j = 2 := by omega
    rcases this with rfl | rfl | rfl
    · exact ⟨true, hv⟩
    · exact ⟨false, hv⟩
    · exact ⟨false, hv⟩
  · obtain ⟨l, vs, ev, hp, h2⟩ := hv
    obtain ⟨v0, v1, v2, rfl, ⟨e, h0⟩, ⟨t1, h1⟩, ⟨t2, h2⟩⟩ := all2_3 h2
    refine ⟨⟨.cmp e t1.1 t2.1, fun d => .cmp t1.2 t2.2⟩, ?_⟩
    show sayT K (.cmp e t1.1 t2.1) v H
    rw [sayT]
    exact ⟨l, _, ev, hp, h0, h1, h2, trivial⟩
end
end K10

set_option Elab.async false
set_option linter.all false
set_option maxRecDepth 100000
set_option maxHeartbeats 1000000
namespace K10
open PySem PySem.Spec PyProof.Rows L2 RL StX
section
variable {P : Program} {w : World} {K : PySem.W.Frag} {mg : Str → Option Value} {base : Heap}
def uses4 : List (Str × Int) := [("near", 1), ("pair", 2), ("fact", 0), ("abcdefgh", 3)]
abbrev usesT (K : PySem.W.Frag) : RL.Ty := lstT (uses4.map (pwT K))
def usesD : PyData := .list (uses4.map fun q => .tuple [.str q.1, .int q.2])
theorem usesT_dp (K : PySem.W.Frag) : IsDp K (usesT K) usesD := dp_lst (areDp_map uses4 fun _ _ => dp_tup (.cons dp_str (.cons dp_int .nil)))
abbrev anySay (K : PySem.W.Frag) (d : Nat) : RL.Ty := exT fun s : { s : Say // SayOk d s } => sayT K s.1
theorem atom_say {K : PySem.W.Frag} (d : Nat) {v : V} {H : Hp} (h : anyAtom K v H) : anySay K d v H := by
  obtain ⟨s, h⟩ := h
  exact ⟨⟨s.1, s.2 d⟩, h⟩
theorem nodup_le {α : Type} [DecidableEq α] {x y : List α} (nd : x.Nodup) (h : ∀ p ∈ x, p ∈ y) : x.length ≤ y.length := by
  induction x generalizing y with
  | nil => simp
  | cons p r ih =>
    obtain ⟨h1, h2⟩ := List.nodup_cons.mp nd
    have hp := h p List.mem_cons_self
    have := ih (y := y.erase p) h2 fun q hq => (List.mem_erase_of_ne (by rintro rfl; exact h1 hq)).mpr (h q (List.mem_cons_of_mem _ hq))
    rw [List.length_erase_of_mem hp] at this
    have : 0 < y.length := List.length_pos_of_mem hp
    rw [List.length_cons]
    omega
def fresh3 : List Str := ["u", "v", "w"]
def freshOf (sc : List Str) : List Str := fresh3.filter fun z => !(sc.any fun x => x == z)
theorem fresh_some {sc : List Str} (h : sc.length < 3) : ∃ y r, freshOf sc = y :: r ∧ y ∈ allNames := by
  have hn : freshOf sc ≠ [] := fun e => by
    have hall : ∀ z ∈ fresh3, z ∈ sc := fun z hz => by
      have : z ∉ freshOf sc := by rw [e]; simp
      unfold freshOf at this
      rw [List.mem_filter, not_and] at this
      have h2 := this hz
      simp only [Bool.not_eq_true', Bool.not_eq_false, List.any_eq_true, beq_iff_eq] at h2
      obtain ⟨x, hx, rfl⟩ := h2
      exact hx
    have nd : fresh3.Nodup := by decide
    have hle : fresh3.length ≤ sc.length := nodup_le nd hall
    have : fresh3.length = 3 := rfl
    omega
  obtain ⟨y, r, e⟩ := List.exists_cons_of_ne_nil hn
  refine ⟨y, r, e, ?_⟩
  have : y ∈ freshOf sc := by rw [e]; exact List.mem_cons_self
  have h1 : y ∈ fresh3 := (List.mem_filter.mp this).1
  have h2 : ∀ z ∈ fresh3, z ∈ allNames := by decide
  exact h2 y h1
theorem kept_if {α : Type} (p : α → Bool) (f : α → RL.Ty) (l : List α) : keptT (l.map fun z => if p z = true then some (f z) else none) = (l.filter p).map f := by
  unfold keptT
  induction l with
  | nil => rfl
  | cons z zs ih =>
    by_cases c : p z = true
    · simp only [List.map_cons, c, if_true, List.filterMap_cons, id, List.filter_cons, ih]
    · simp only [List.map_cons, c, if_false, List.filterMap_cons, id, List.filter_cons, ih]
      simp
theorem sc_full : FnScope ["_law_bag_here", "_law_scope", "_law_left", "_law_deep", "_law_uses", "_law_way", "_law_many", "_law_name", "_law_fresh", "_law_k"] ["_law_bag_here", "_law_scope", "_law_left", "_law_deep", "_law_uses"] (defScope s__law_full) := ⟨rfl, rfl, rfl, by decide +kernel, rfl, by decide +kernel, by decide +kernel⟩
theorem f_full (T : Tx fa fn ex K mg) (d : Nat) : FnG P w K mg base (d + 6) "_law_full" ["_law_bag_here", "_law_scope", "_law_left", "_law_deep", "_law_uses"] (spG (fun sc : Sc => [bagT, scT sc.1, cellT, intT (d : Int), usesT K]) fun _ => anySay K d) := by
  have FT : FnG P w K mg base 1 "_law_take" ["_law_bag_here", "_law_many"] _ := f_take T
  have FO : FnG P w K mg base 2 "_law_of" ["_law_bag_here", "_law_things"] _ := f_of T
  have FA : FnG P w K mg base 5 "_law_some_atom" ["_law_bag_here", "_law_names_here", "_law_constants_here"] _ := f_atom T
  have FC : FnG P w K mg base 1 "_law_constants" [] _ := f_consts T
  have hint := T.free _ q_free_int
  induction d with
  | zero =>
    refine T.fn d__law_full i__law_full "_law_full" rfl q_glo__law_full rfl (fun _ _ _ _ _ _ us hl => match us, hl with | [_, _, _, _, _], _ => rfl) fun f fd F => ?_
    refine fn_G (k := 5) F sc_full (fun _ => rfl) fun sc cdv Ar outer s H E hr nd D hD _ => ?_
    obtain ⟨sc, hsc⟩ := sc
    refine b_asgX (F := fun r : Below 9 => intT r.1) 5 (g_call FT (hr.mono (by decide)) ⟨9, by decide⟩ (ga_cons (g_var 0) (ga_cons g_int ga_nil))) fun way => ?_
    refine b_if ((gt_or2 (k := true) (l := false) ((gt_eqI (g_var 3) g_int).is (by rfl)) (fun h => by cases h)).is (b' := true) rfl) (fun _ => ?_) fun h => by cases h
    exact b_ret (G.imp (g_call FA hr ⟨sc, hsc⟩ (ga_cons (g_var 0) (ga_cons (g_var 1) (ga_cons (g_call0 FC (hr.mono (by decide)) ()) ga_nil)))) fun v H h => atom_say 0 h) hD
  | succ d ih =>
    refine T.fn d__law_full i__law_full "_law_full" rfl q_glo__law_full rfl (fun _ _ _ _ _ _ us hl => match us, hl with | [_, _, _, _, _], _ => rfl) fun f fd F => ?_
    refine fn_G (k := d + 6) F sc_full (fun _ => rfl) fun sc cdv Ar outer s H E hr nd D hD _ => ?_
    obtain ⟨sc, hsc⟩ := sc
    have hr5 : Room 5 (Ar.deeper (envOfC d__law_full.qual d__law_full.scope s.heap.objs.size f cdv)) := hr.mono (by omega)
    have hr2 := hr5.mono (j := 2) (by decide)
    have hr1 := hr5.mono (j := 1) (by decide)
    have hdd : ((d + 1 : Nat) : Int) - 1 = (d : Int) := by omega
    change Bd _ [some bagT, some (scT sc), some cellT, some (intT ((d + 1 : Nat) : Int)), some (usesT K), none, none, none, none, none] _ _ _
    refine b_asgX (F := fun r : Below 9 => intT r.1) 5 (g_call FT hr1 ⟨9, by decide⟩ (ga_cons (g_var 0) (ga_cons g_int ga_nil))) fun way => ?_
    obtain ⟨way, w0, w1⟩ := way
    change Bd _ [some bagT, some (scT sc), some cellT, some (intT ((d + 1 : Nat) : Int)), some (usesT K), some (intT way), none, none, none, none] _ _ _
    refine b_if (gt_or2 (gt_eqI (g_var 3) g_int) (fun _ => gt_lt (g_var 5) g_int)) (fun _ => ?_) fun hw2 => ?_
    · exact b_ret (G.imp (g_call FA hr5 ⟨sc, hsc⟩ (ga_cons (g_var 0) (ga_cons (g_var 1) (ga_cons (g_call0 FC hr1 ()) ga_nil)))) fun v H h => atom_say (d + 1) h) hD
    refine b_skip ?_
    have hw2' : 2 ≤ way := by
      rw [Bool.or_eq_false_iff, decide_eq_false_iff_not, decide_eq_false_iff_not] at hw2
      omega
    refine b_if (gt_eqI (g_var 5) g_int) (fun _ => ?_) fun hw3 => ?_
    · refine b_ret (G.imp (g_tup (Ts := [strT "not", anySay K d]) (ga_cons g_str (ga_cons (g_call ih hr ⟨sc, hsc⟩ (ga_cons (g_var 0) (ga_cons (g_var 1) (ga_cons (g_var 2) (ga_cons ((g_sub (g_var 3) g_int).is (by rw [hdd])) (ga_cons (g_var 4) ga_nil)))))) ga_nil)) (hl := by show 2 ≤ sizeLine; decide)) fun v H hv => ?_) hD
      obtain ⟨l, vs, ev, hp, h2⟩ := hv
      obtain ⟨v0, v1, rfl, h0, ⟨z, h1⟩⟩ := all2_2 h2
      refine ⟨⟨.neg z.1, .neg z.2⟩, ?_⟩
      show sayT K (.neg z.1) v H
      rw [sayT]
      exact ⟨l, _, ev, hp, h0, h1, trivial⟩
    refine b_skip ?_
    have hw3' : 3 ≤ way := by
      rw [decide_eq_false_iff_not] at hw3
      omega
    refine b_if (gt_lt (g_var 5) g_int) (fun hw5 => ?_) fun hw5 => ?_
    · have hw5' : way < 5 := of_decide_eq_true hw5
      refine b_asgX (F := fun r : { i : Int // 2 ≤ i ∧ i ≤ 3 } => intT r.1) 6 (gx_add (g_int.ofI (p := fun i => i = 2) rfl) (gx_mul (n := 4) (k := 4) (p := fun i => 0 ≤ i ∧ i ≤ 1) (q := fun i => 0 ≤ i ∧ i < 2) (r := fun i => 0 ≤ i ∧ i ≤ 1) ((g_intB (g_eqI (g_var 3) g_int) hint).ofI (by split <;> omega)) (g_call FT hr1 ⟨2, by decide⟩ (ga_cons (g_var 0) (ga_cons g_int ga_nil))) fun i j hi hj => by
          have hi' : i = 0 ∨ i = 1 := by omega
          have hj' : j = 0 ∨ j = 1 := by omega
          rcases hi' with rfl | rfl <;> rcases hj' with rfl | rfl <;> decide) fun i j hi hj => by omega) fun m => ?_
      obtain ⟨m, m0, m1⟩ := m
      change Bd _ [some bagT, some (scT sc), some cellT, some (intT ((d + 1 : Nat) : Int)), some (usesT K), some (intT way), some (intT m), none, none, none] _ _ _
      refine b_ret (G.imp (g_addT (Ts := [exT fun c : Bool => strT (if c then "and" else "or")]) (Us := (List.range m.toNat).map fun _ => anySay K d) (g_tup (ga_cons (G.imp (g_ixLX (Ts := ([("and" : Str), "or"]).map fun z => strT z) (g_lst (ga_cons g_str (ga_cons g_str ga_nil))).rl ((g_sub (g_var 5) g_int).ofI (p := fun i => 0 ≤ i ∧ i < (2 : Int)) (by omega))) fun v H hv => ?_) ga_nil) (hl := by show 1 ≤ sizeLine; decide)) (G.one (F := fun _ : Unit => tupT K ((List.range m.toNat).map fun _ => anySay K d)) (g_tupleL (G.un (T := lstT ((List.range m.toNat).map fun _ => anySay K d)) (g_lcM (i := 9) (List.range m.toNat) (fun k => intT (0 + (k : Int))) (fun _ => anySay K d) (gi_rng1 (g_var 6) (T.free _ q_free_range) (by omega)) (by rw [List.length_range]; exact small3 (by omega)) fun k hk s H C cl fp => ?_)) (T.free _ q_free_tuple))) ?_) fun v H hv => ?_) hD
      · obtain ⟨⟨j, hj⟩, hv⟩ := hv
        have hj' : j < 2 := hj
        have : j = 0 ∨ j = 1 := by omega
        rcases this with rfl | rfl
        · exact ⟨true, hv⟩
        · exact ⟨false, hv⟩
      · exact g_call ih hr ⟨sc, hsc⟩ (ga_cons (g_var 0) (ga_cons (g_var 1) (ga_cons (g_var 2) (ga_cons ((g_sub (g_var 3) g_int).is (by rw [hdd])) (ga_cons (g_var 4) ga_nil)))))
      · rw [List.length_map, List.length_range]
        exact small3 (by simp only [List.length_cons, List.length_nil]; omega)
      · obtain ⟨l, vs, ev, hp, h2⟩ := hv
        obtain ⟨v0, ws, rfl, ⟨c, h0⟩, h1⟩ := all2_cons h2
        obtain ⟨zs, h3, h4⟩ := all2_ex (ks := List.range m.toNat) (C := fun _ (z : Say) => SayOk d z) (E := sayT K) h1
        have hl := h3.len
        rw [List.length_range] at hl
        refine ⟨⟨.con c zs, .con (by omega) (h3.right fun _ _ _ h => h)⟩, ?_⟩
        show sayT K (.con c zs) v H
        rw [sayT, saysT_map]
        exact ⟨l, _, ev, hp, h0, h4⟩
    refine b_skip ?_
    have hw5' : 5 ≤ way := by
      rw [decide_eq_false_iff_not] at hw5
      omega
    -- the rest, uses and atoms
    have fin : Bd (BX P w K mg base ["_law_bag_here", "_law_scope", "_law_left", "_law_deep", "_law_uses", "_law_way", "_law_many", "_law_name", "_law_fresh", "_law_k"] d__law_full.qual d__law_full.scope f cdv Ar outer s H E) [some bagT, some (scT sc), some cellT, some (intT ((d + 1 : Nat) : Int)), some (usesT K), some (intT way), none, none, none, none] ((defBody s__law_full).drop 5) (Bs.of H) D := by
      have last : ∀ u6 u7 : Option RL.Ty, Bd (BX P w K mg base ["_law_bag_here", "_law_scope", "_law_left", "_law_deep", "_law_uses", "_law_way", "_law_many", "_law_name", "_law_fresh", "_law_k"] d__law_full.qual d__law_full.scope f cdv Ar outer s H E) [some bagT, some (scT sc), some cellT, some (intT ((d + 1 : Nat) : Int)), some (usesT K), some (intT way), u6, u7, none, none] ((defBody s__law_full).drop 6) (Bs.of H) D := fun u6 u7 =>
        b_ret (G.imp (g_call FA hr5 ⟨sc, hsc⟩ (ga_cons (g_var 0) (ga_cons (g_var 1) (ga_cons (g_call0 FC hr1 ()) ga_nil)))) fun v H h => atom_say (d + 1) h) hD
      refine b_if ((gt_neD (room64 hr5) (g_var 4) (g_lst ga_nil) (usesT_dp _) (dp_lst .nil) (by decide +kernel) (by decide +kernel)).is (b' := true) (by decide +kernel)) (fun _ => ?_) fun h => by cases h
      refine b_asgT (T := tupT K [exT fun n : { n : Str // n ∈ allUses } => strT n.1, inT fun i => 0 ≤ i ∧ i ≤ 3]) (g := gTup K 2 (gCons (gName 7) (gCons (gName 6) gNil))) (pg_tup rfl (pgs_cons (pg_name nd rfl (Or.inl rfl)) (pgs_cons (pg_name nd rfl (Or.inl rfl)) pgs_nil))) (G.imp (g_call FO hr2 ⟨uses4.map (pwT K), by show 0 < 4; decide, by show 4 < 1000; decide⟩ (ga_cons (g_var 0) (ga_cons (g_var 4) ga_nil))) fun v H hv => ?_) tgts2 ?_
      · obtain ⟨⟨j, hj⟩, hv⟩ := hv
        have hj' : j < uses4.length := by simpa using hj
        have hg : (pwT K uses4[j]) v H := by simpa using hv
        obtain ⟨l, vs, ev, hp, h2⟩ := hg
        obtain ⟨v0, v1, rfl, h0, h1⟩ := all2_2 h2
        have hm : uses4[j] ∈ uses4 := List.getElem_mem hj'
        have hall : ∀ q ∈ uses4, q.1 ∈ allUses ∧ 0 ≤ q.2 ∧ q.2 ≤ 3 := by decide
        exact ⟨l, _, ev, hp, ⟨⟨_, (hall _ hm).1⟩, h0⟩, ⟨⟨_, (hall _ hm).2⟩, h1⟩, trivial⟩
      refine b_openS (F := fun n : { n : Str // n ∈ allUses } => strT n.1) 7 rfl fun nm => ?_
      refine b_openS (F := fun i : { i : Int // 0 ≤ i ∧ i ≤ 3 } => intT i.1) 6 rfl fun m => ?_
      obtain ⟨nm, hnm⟩ := nm
      obtain ⟨m, m0, m1⟩ := m
      change Bd _ [some bagT, some (scT sc), some cellT, some (intT ((d + 1 : Nat) : Int)), some (usesT K), some (intT way), some (intT m), some (strT nm), none, none] _ _ _
      refine b_if (gt_or2 (gt_eqI (g_var 6) g_int) fun _ => (gt_neD (room64 hr5) (g_var 1) (g_lst ga_nil) (scT_dp _ sc) (dp_lst .nil) (sc_shaped hsc) (by decide +kernel)).is (by rw [eqv_nil])) (fun h => ?_) fun _ => (by
        refine b_skip ?_
        refine b_skip ?_
        exact last _ _)
      have hms : 0 < m → 0 < sc.length := fun hm => by
        rw [Bool.or_eq_true, decide_eq_true_eq] at h
        rcases h with h | h
        · omega
        · refine List.length_pos_iff.mpr fun e => ?_
          subst e
          simp at h
      refine b_ret (G.imp (g_tup (Ts := [strT "use", strT nm, tupT K ((List.range m.toNat).map fun _ => exT fun z : { z : Str // z ∈ sc } => strT z.1)]) (ga_cons g_str (ga_cons (g_var 7) (ga_cons (G.one (F := fun _ : Unit => tupT K ((List.range m.toNat).map fun _ => exT fun z : { z : Str // z ∈ sc } => strT z.1)) (g_tupleL (G.un (T := lstT ((List.range m.toNat).map fun _ => exT fun z : { z : Str // z ∈ sc } => strT z.1)) (g_lcM (i := 9) (List.range m.toNat) (fun k => intT (0 + (k : Int))) (fun _ => exT fun z : { z : Str // z ∈ sc } => strT z.1) (gi_rng1 (g_var 6) (T.free _ q_free_range) (by omega)) (by rw [List.length_range]; exact small3 (by omega)) fun k hk s H C cl fp => ?_)) (T.free _ q_free_tuple))) ga_nil))) (hl := by show 3 ≤ sizeLine; decide)) fun v H hv => ?_) hD
      · have hk' : k < m.toNat := List.mem_range.mp hk
        have := hms (by omega)
        have := hsc.few
        refine G.imp (g_call FO hr2 ⟨sc.map fun z => strT z, by rw [List.length_map]; omega, by rw [List.length_map]; omega⟩ (ga_cons (g_var 0) (ga_cons (g_var 1) ga_nil))) fun v H hv => ?_
        obtain ⟨⟨j, hj⟩, hu⟩ := hv
        have hj' : j < sc.length := by simpa using hj
        exact ⟨⟨sc[j], List.getElem_mem hj'⟩, by simpa using hu⟩
      · obtain ⟨l, vs, ev, hp, h2⟩ := hv
        obtain ⟨v0, v1, v2, rfl, h0, h1, ⟨l', ws, ew, hp', h2'⟩⟩ := all2_3 h2
        obtain ⟨zs, h3, h4⟩ := all2_ex (ks := List.range m.toNat) (C := fun _ (z : Str) => z ∈ sc) (E := fun z => strT z) h2'
        have hl := h3.len
        rw [List.length_range] at hl
        refine ⟨⟨.use nm zs, .use hnm (by omega) (h3.right fun _ _ x hx => hsc.mem x hx)⟩, ?_⟩
        show sayT K (.use nm zs) v H
        rw [sayT]
        exact ⟨l, _, ev, hp, h0, h1, ⟨l', _, ew, hp', h4⟩, trivial⟩
    refine b_ifP (gp_and3 (p := fun b => b = decide (way < 7)) (q := fun _ => True) (r := fun b => b = decide ((sc.length : Int) < 3)) (gt_lt (g_var 5) g_int).gp (fun _ => gp_gt (k := fun _ => True) (g_cell (i := 2) rfl) (g_int.ofI (p := fun _ => True) trivial) (fun _ _ _ _ => trivial)) fun _ _ => (gt_lt ((g_lenL (g_var 1) (T.free _ q_free_len)).is (by rw [List.length_map])) g_int).gp) (fun h => ?_) fun _ => b_skip fin
    obtain ⟨_, h7, _, h3⟩ : true = true ∧ (true = decide (way < 7)) ∧ True ∧ (true = decide ((sc.length : Int) < 3)) := by
      rcases h with h | h
      · exact h
      · cases h
    have h7' : way < 7 := of_decide_eq_true h7.symm
    have h3' : (sc.length : Int) < 3 := of_decide_eq_true h3.symm
    obtain ⟨y, r, hf, hy⟩ := fresh_some (sc := sc) (by omega)
    refine b_asg 8 (T := strT y) (g_ixL (Ts := (freshOf sc).map fun z => strT z) (G.rl (g_lc (Ts := fresh3.map fun z => strT z) (own := [("_law_name", 7)]) (g := gName 7) (fresh3.map fun z => if (!(sc.any fun x => x == z)) = true then some (strT z) else none) (gi_list (g_lst (ga_cons g_str (ga_cons g_str (ga_cons g_str ga_nil))))) (by first | exact blkOk_by rfl | exact blkOk_by (by decide +kernel)) (fun _ _ _ _ _ => pg_name (by assumption) rfl (Or.inl rfl)) (by rw [List.length_map, List.length_map]) (by show 3 ≤ sizeLine; decide) (fun j T1 hT => ?_) (fun R hR => ?_) own_name ?_)) g_int (by
      rw [hf, atI_one (by decide) (by rw [List.length_map, List.length_cons]; omega)]
      rfl)) ?_
    · rw [List.getElem?_map] at hT
      cases hz : fresh3[j]? with
      | none => rw [hz] at hT; cases hT
      | some z =>
        rw [hz] at hT
        cases hT
        refine ⟨_, tgt_name, ?_⟩
        by_cases hc : (!(sc.any fun x => x == z)) = true
        · refine .inr ⟨strT z, by rw [List.getElem?_map, hz]; simp only [Option.map_some, hc, if_true], gct_one fun s H C cl fp => (gt_notinSL (g_var 7) (g_var 1)).is hc, fun s H C cl fp => g_var 7⟩
        · refine .inl ⟨by rw [List.getElem?_map, hz]; simp only [Option.map_some, hc, if_false]; rfl, gct_one fun s H C cl fp => (gt_notinSL (g_var 7) (g_var 1)).is (by simpa using hc)⟩
    · obtain ⟨z, _, e⟩ := List.mem_map.mp hR
      split at e
      · cases e; infer_instance
      · cases e
    · rw [kept_if (fun z => !(sc.any fun x => x == z)) (fun z => strT z) fresh3]
      rfl
    refine b_cellPut 2 rfl (fun b j => (g_sub (g_ixL (T := intT j) (g_var 2).rlm g_int) g_int).ofI trivial) ?_
    have hsc2 : ∀ zs : List Str, zs.Perm (sc ++ [y]) → ScOk zs := fun zs hp => ⟨by
      rw [hp.length_eq, List.length_append]
      simp only [List.length_cons, List.length_nil]
      omega, fun x hx => by
      rcases List.mem_append.mp (hp.mem_iff.mp hx) with h | h
      · exact hsc.mem x h
      · rw [List.mem_singleton.mp h]; exact hy⟩
    refine b_ret (G.imp (g_tup (Ts := [exT fun c : Bool => strT (if c then "some" else "all"), strT y, anySay K d]) (ga_cons (G.imp (g_ixLX (Ts := ([("some" : Str), "all"]).map fun z => strT z) (g_lst (ga_cons g_str (ga_cons g_str ga_nil))).rl ((g_sub (g_var 5) g_int).ofI (p := fun i => 0 ≤ i ∧ i < (2 : Int)) (by omega))) fun v H hv => ?_) (ga_cons (g_var 8) (ga_cons (g_callE (C := fun _ => True) (Ts := [bagT, exT fun zs : { zs : List Str // ScOk zs } => lstT (zs.1.map fun z => strT z), cellT, intT (d : Int), usesT K]) ih hr (ga_cons (g_var 0) (ga_cons (g_sortedS (ys := sc ++ [y]) _ ((g_cat (g_var 1) (g_lst (ga_cons (g_var 8) ga_nil) (hl := by show 1 ≤ sizeLine; decide)) ?_).is (by rw [List.map_append]; rfl)) (T.free _ q_free_sorted) ?_ fun zs hp _ => hsc2 zs hp) (ga_cons (g_var 2) (ga_cons ((g_sub (g_var 3) g_int).is (by rw [hdd])) (ga_cons (g_var 4) ga_nil))))) (fun vs H h => ?_) (fun i _ v H h => h)) ga_nil))) (hl := by show 3 ≤ sizeLine; decide)) fun v H hv => ?_) hD
    · obtain ⟨⟨j, hj⟩, hv⟩ := hv
      have hj' : j < 2 := hj
      have : j = 0 ∨ j = 1 := by omega
      rcases this with rfl | rfl
      · exact ⟨true, hv⟩
      · exact ⟨false, hv⟩
    · rw [List.length_map]
      exact small3 (by simp only [List.length_cons, List.length_nil]; omega)
    · rw [List.length_append]
      simp only [List.length_cons, List.length_nil]
      omega
    · obtain ⟨v0, w0', rfl, h0, h⟩ := all2_cons h
      obtain ⟨v1, w1', rfl, ⟨zs, h1⟩, h⟩ := all2_cons h
      exact ⟨⟨zs.1, zs.2⟩, ⟨h0, h1, h⟩, trivial⟩
    · obtain ⟨l, vs, ev, hp, h2⟩ := hv
      obtain ⟨v0, v1, v2, rfl, ⟨c, h0⟩, h1, ⟨z, h2⟩⟩ := all2_3 h2
      refine ⟨⟨.qu c y z.1, .qu hy z.2⟩, ?_⟩
      show sayT K (.qu c y z.1) v H
      rw [sayT]
      exact ⟨l, _, ev, hp, h0, h1, h2, trivial⟩
/-! names, sayings -/
def pools : List (List Str) := [["x", "y", "z"], ["a", "ab", "b"], ["far", "low", "top"], ["m", "n", "xyz"]]
theorem pools_ok : ∀ l ∈ pools, l.length = 3 ∧ ∀ x ∈ l, x ∈ allNames := by decide
theorem sc_names : FnScope ["_law_bag_here", "_law_many", "_law_pool", "_law_at"] ["_law_bag_here", "_law_many"] (defScope s__law_names) := ⟨rfl, rfl, rfl, by decide +kernel, rfl, by decide +kernel, by decide +kernel⟩
theorem f_names (T : Tx fa fn ex K mg) : FnG P w K mg base 3 "_law_names" ["_law_bag_here", "_law_many"] (spG (fun n : { n : Int // 0 ≤ n ∧ n ≤ 3 } => [bagT, intT n.1]) fun _ => exT fun sc : Sc => scT sc.1) := by
  have FT : FnG P w K mg base 1 "_law_take" ["_law_bag_here", "_law_many"] _ := f_take T
  have FO : FnG P w K mg base 2 "_law_of" ["_law_bag_here", "_law_things"] _ := f_of T
  refine T.fn d__law_names i__law_names "_law_names" rfl q_glo__law_names rfl (fun _ _ _ _ _ _ us hl => match us, hl with | [_, _], _ => rfl) fun f fd F => ?_
  refine fn_G F sc_names (fun _ => rfl) fun n cdv Ar outer s H E hr nd D hD _ => ?_
  obtain ⟨n, n0, n1⟩ := n
  have hr1 := hr.mono (j := 1) (by decide)
  refine b_asgX (F := fun l : { l : List Str // l ∈ pools } => scT l.1) 2 (G.imp (g_call FO hr ⟨pools.map scT, by show 0 < 4; decide, by show 4 < 1000; decide⟩ (ga_cons (g_var 0) (ga_cons (g_lst (ga_cons (g_lst (ga_cons g_str (ga_cons g_str (ga_cons g_str ga_nil)))) (ga_cons (g_lst (ga_cons g_str (ga_cons g_str (ga_cons g_str ga_nil)))) (ga_cons (g_lst (ga_cons g_str (ga_cons g_str (ga_cons g_str ga_nil)))) (ga_cons (g_lst (ga_cons g_str (ga_cons g_str (ga_cons g_str ga_nil)))) ga_nil))))) ga_nil))) fun v H hv => ?_) fun l => ?_
  · obtain ⟨⟨j, hj⟩, hv⟩ := hv
    have hj' : j < pools.length := by simpa using hj
    exact ⟨⟨pools[j], List.getElem_mem hj'⟩, by simpa using hv⟩
  obtain ⟨l, hl⟩ := l
  obtain ⟨l3, lm⟩ := pools_ok l hl
  refine b_asgX (F := fun r : Below 3 => intT r.1) 3 (g_call FT hr1 ⟨3, by decide⟩ (ga_cons (g_var 0) (ga_cons g_int ga_nil))) fun at_ => ?_
  obtain ⟨at_, a0, a1⟩ := at_
  change Bd _ [some bagT, some (intT n), some (scT l), some (intT at_)] _ _ _
  refine b_ret (G.imp (g_sortedS (ys := (l.drop at_.toNat ++ l.take at_.toNat).take n.toNat) ScOk ((g_to (g_cat (g_from (g_var 2) (g_var 3) a0) (g_to (g_var 2) (g_var 3) a0) ?_) (g_var 1) n0).is ?_) (T.free _ q_free_sorted) ?_ ?_) fun v H h => h) hD
  · rw [List.length_drop, List.length_take, List.length_map]
    exact small3 (by omega)
  · rw [List.map_take, List.map_append, List.map_drop, List.map_take]
  · rw [List.length_take]
    omega
  · intro zs hp _
    refine ⟨by rw [hp.length_eq, List.length_take]; omega, fun x hx => ?_⟩
    have h1 := List.mem_of_mem_take (hp.mem_iff.mp hx)
    rcases List.mem_append.mp h1 with h | h
    · exact lm x (List.mem_of_mem_drop h)
    · exact lm x (List.mem_of_mem_take h)
theorem sc_uses : FnScope [] [] (defScope s__law_some_uses) := ⟨rfl, rfl, rfl, by decide +kernel, rfl, by decide +kernel, by decide +kernel⟩
theorem f_uses (T : Tx fa fn ex K mg) : FnG P w K mg base 1 "_law_some_uses" [] (spG (fun _ : Unit => []) fun _ => usesT K) := by
  refine T.fn d__law_some_uses i__law_some_uses "_law_some_uses" rfl q_glo__law_some_uses rfl (fun _ _ _ _ _ _ us hl => match us, hl with | [], _ => rfl) fun f fd F => ?_
  refine fn_G F sc_uses (fun _ => rfl) fun z cdv Ar outer s H E hr nd D hD _ => ?_
  have two : ∀ {Ts : List RL.Ty}, Ts.length = 2 → Ts.length ≤ sizeLine := fun h => by rw [h]; decide
  exact b_ret (T := usesT K) (g_lst (Ts := uses4.map (pwT K)) (ga_cons (g_tup (ga_cons g_str (ga_cons g_int ga_nil)) (hl := two rfl)) (ga_cons (g_tup (ga_cons g_str (ga_cons g_int ga_nil)) (hl := two rfl)) (ga_cons (g_tup (ga_cons g_str (ga_cons g_int ga_nil)) (hl := two rfl)) (ga_cons (g_tup (ga_cons g_str (ga_cons g_int ga_nil)) (hl := two rfl)) ga_nil)))) (hl := by show 4 ≤ sizeLine; decide)) hD
theorem sc_saying : FnScope ["_law_bag_here", "_law_many"] ["_law_bag_here", "_law_many"] (defScope s__law_saying) := ⟨rfl, rfl, rfl, by decide +kernel, rfl, by decide +kernel, by decide +kernel⟩
/-- [e], hidden at once -/
theorem g_cellNew {X : Cx} {Γ : RL.Ctx} {e : Expr} {i : Int} {pos : Pos} (h : G X Γ e (intT i)) (hs : starEach [e] X.env = (false, eval e X.env) :: starEach [] X.env := by exact se_cons rfl) : G X Γ (.List [e] pos) cellT := fun σ H t Q q =>
  tE_retr (toE (pe_lst (RL.pa [e])) (ga_cons h ga_nil hs σ H t _ fun vs H1 e1 h1 => ⟨by rw [← h1.len]; show 1 ≤ sizeLine; decide, fun b hb => by
    obtain ⟨v, rfl, hv⟩ := one2 h1
    have hv' : v = .int i := hv
    subst hv'
    refine ⟨b, _, cellH b, upd_same, cell_close, ?_⟩
    rw [upd_upd]
    exact q _ _ (e1.trans (Ex.new hb)) ⟨b, rfl, upd_same⟩⟩))
theorem f_saying (T : Tx fa fn ex K mg) : FnG P w K mg base 10 "_law_saying" ["_law_bag_here", "_law_many"] (spG (fun n : { n : Int // 0 ≤ n ∧ n ≤ 3 } => [bagT, intT n.1]) fun _ => anySay K 3) := by
  have FF : FnG P w K mg base 9 "_law_full" ["_law_bag_here", "_law_scope", "_law_left", "_law_deep", "_law_uses"] _ := f_full T 3
  have FN : FnG P w K mg base 3 "_law_names" ["_law_bag_here", "_law_many"] _ := f_names T
  have FU : FnG P w K mg base 1 "_law_some_uses" [] _ := f_uses T
  refine T.fn d__law_saying i__law_saying "_law_saying" rfl q_glo__law_saying rfl (fun _ _ _ _ _ _ us hl => match us, hl with | [_, _], _ => rfl) fun f fd F => ?_
  refine fn_G F sc_saying (fun _ => rfl) fun n cdv Ar outer s H E hr nd D hD _ => ?_
  refine b_ret (g_callE (C := fun _ => True) (Ts := [bagT, exT fun sc : Sc => scT sc.1, cellT, intT 3, usesT K]) FF hr (ga_cons (g_var 0) (ga_cons (g_call FN (hr.mono (by decide)) n (ga_cons (g_var 0) (ga_cons (g_var 1) ga_nil))) (ga_cons (g_cellNew g_int) (ga_cons g_int (ga_cons (g_call0 FU (hr.mono (by decide)) ()) ga_nil))))) (fun vs H h => ?_) (fun i _ v H h => h)) hD
  obtain ⟨v0, w0', rfl, h0, h⟩ := all2_cons h
  obtain ⟨v1, w1', rfl, ⟨zs, h1⟩, h⟩ := all2_cons h
  exact ⟨zs, ⟨h0, h1, h⟩, trivial⟩
end
end K10

set_option Elab.async false
set_option linter.all false
set_option maxRecDepth 100000
set_option maxHeartbeats 4000000
namespace K10
open PySem PySem.Spec PyProof.Rows L2 RL StX
section
variable {X : Cx} {Γ : RL.Ctx} {a b e : Expr} {Ts Us : List RL.Ty} {pos p2 : Pos} {x : Str} {H0 : Bs} {D : Ends} {rest : List Stmt}
theorem b_forget {st : List Stmt} (i : Nat) (h : Bd X (Γ.set i none) st H0 D) : Bd X Γ st H0 D := fun σ H e t => h σ H e (t.drop i)
/-- x = a + b, a new list that may be changed -/
theorem b_catM (i : Nat) (ha : G X Γ a (lstT Ts)) (hb : G X Γ b (lstT Us)) (hz : Ts.length + Us.length ≤ sizeLine) (h : ∀ d, H0.e d = none → Bd X (Γ.set i (some (mlT d (Ts ++ Us)))) rest H0 D) {p' : Pos} (hN : X.N.Nodup := by first | assumption | decide) (hi : X.N[i]? = some x := by rfl) (hx : Loc X.env.scope x := by first | exact Or.inl rfl | exact Or.inr rfl)
    (hs : swapsWith (.BinOp a .Add b p2) (some (.Name x p')) pos.line X.env = pure false := by rfl) (hf : X.fn x = true ∨ X.env.scope.names.lookup x = some .local := by first | exact .inl rfl | exact .inr rfl) : Bd X Γ (.Assign [.Name x p'] (.BinOp a .Add b p2) pos :: rest) H0 D :=
  b_cons fun σ H e0 t => toS (ps_set (i := i) hN hi hx (pe_op op_catF (pe a) (pe b)) hs hf) (ha σ H t _ fun v H1 e1 h1 => hb σ H1 (t.up e1) _ fun u H2 e2 h2 => by
    obtain ⟨l, xs, ev, f1, a1⟩ := (lstT Ts).up e2 h1
    obtain ⟨l', ys, eu, f2, a2⟩ := h2
    refine ⟨l, l', xs, ys, ev, eu, f1, f2, by rw [← a1.len, ← a2.len]; exact hz, fun q hq => ?_⟩
    have e3 := (e1.trans e2).trans (Ex.new (o := .lst (xs ++ ys)) hq)
    exact h q (((e0.trans (e1.trans e2)).1).free hq) _ _ (e0.trans e3) ((t.up e3).set i ⟨rfl, _, upd_same, (a1.append a2).up (Ex.new hq)⟩))
end
section
variable {X : Cx} {Γ : RL.Ctx} {es : List Expr} {Ts : List RL.Ty} {pos : Pos}
theorem g_tu {k : Nat} (h : GA X Γ es Ts) (hl : Ts.length ≤ sizeLine := by first | (show 1 ≤ sizeLine; decide) | (show 2 ≤ sizeLine; decide) | (show 3 ≤ sizeLine; decide) | (show 4 ≤ sizeLine; decide) | (show 0 ≤ sizeLine; decide)) : G X Γ (.Tuple es k pos) (tupT X.K Ts) := g_tup h hl
theorem g_ls (h : GA X Γ es Ts) (hl : Ts.length ≤ sizeLine := by first | (show 1 ≤ sizeLine; decide) | (show 2 ≤ sizeLine; decide) | (show 3 ≤ sizeLine; decide)) : G X Γ (.List es pos) (lstT Ts) := g_lst h hl
end
section
variable {P : Program} {w : World} {K : PySem.W.Frag} {mg : Str → Option Value} {base : Heap}
abbrev NW : List Str := ["_law_script", "_law_bag_here", "_law_turn", "_law_my_saying", "_law_one", "_law_two", "_law_rows", "_law_row"]
theorem sc_law : FnScope NW ["_law_script"] (defScope s_law) := ⟨rfl, rfl, rfl, by decide +kernel, rfl, by decide +kernel, by decide +kernel⟩
theorem ok_law (T : Tx fa fn ex K mg) {f : Addr} {fd : FuncData} (F : FunD K d_law.name d_law.qual d_law.params d_law.body d_law.scope [] (d_law.kws K) f fd) : FnOk P w K mg base CX0 11 f fd ["_law_script"] (spG (fun ns : List Int => [rlT K (ns.map fun z => intT z)]) fun _ => blT true) := by
  have FB : FnG P w K mg base 1 "_law_bag" ["_law_script"] _ := f_bag T
  have FT : FnG P w K mg base 1 "_law_take" ["_law_bag_here", "_law_many"] _ := f_take T
  have FG : FnG P w K mg base 10 "_law_saying" ["_law_bag_here", "_law_many"] _ := f_saying T
  have FK : FnGK P w K mg base 9 "saying_text" ["saying"] _ := f_say T 3 (by decide)
  have FS : FnG P w K mg base 9 "saying_text" ["saying"] _ := FK.fn
  have FL : FnG P w K mg base 9 "_law_saying_text" ["_law_my_saying"] _ := f_lsay T 3 (by decide)
  have FA : FnG P w K mg base 2 "_law_alike" ["_law_found", "_law_due"] _ := f_alikeL T
  refine fn_G F sc_law (fun _ => rfl) fun ns cdv Ar outer s H E hr nd D hD _ => ?_
  have hr9 := hr.mono (j := 9) (by decide)
  have hr2 := hr.mono (j := 2) (by decide)
  have hr1 := hr.mono (j := 1) (by decide)
  refine b_asg 1 (g_call FB hr1 ns (ga_cons (g_var 0) ga_nil)) ?_
  refine b_for (g := gName 2) (fun i Δ => ∃ u2 u3, Δ = [some (rlT K (ns.map fun z => intT z)), some bagT, u2, u3, none, none, none, none]) (gi_rng1 g_int (T.free _ q_free_range)) (pg_name nd rfl (Or.inl rfl)) ⟨none, none, rfl⟩ (fun H1 i T1 Δ b1 hT hΔ => ?_) fun Δ hΔ => ?_
  · obtain ⟨u2, u3, rfl⟩ := hΔ
    refine ⟨_, tgt_name, ?_⟩
    refine b_asgX (F := fun z : SayAt 3 => sayT K z.1) 3 (g_callE (C := fun _ => True) (Ts := [bagT, choT 4]) FG hr (ga_cons (g_var 1) (ga_cons (g_call FT hr1 ⟨4, by decide⟩ (ga_cons (g_var 1) (ga_cons g_int ga_nil))) ga_nil)) (fun vs H h => ?_) (fun _ _ v H h => h)) fun sy => ?_
    · obtain ⟨v0, v1, rfl, h0, ⟨i, h1⟩⟩ := all2_2 h
      exact ⟨⟨i.1, by have := i.2; omega⟩, ⟨h0, h1, trivial⟩, trivial⟩
    · refine b_if (k := !true) ((gt_not (k := true) (gt_bl (g_call FA hr2 (⟨[sayS sy.1, sayS sy.1], Nat.le_of_ble_eq_true rfl⟩ : Strs) (ga_cons (g_ls (ga_cons (g_call FS hr9 sy (ga_cons (g_var 3) ga_nil)) (ga_cons (g_callK1 FK hr9 sy (g_var 3)) ga_nil))) (ga_cons (g_rep2 (g_call FL hr9 sy (ga_cons (g_var 3) ga_nil))) ga_nil)))))) (fun h => by cases h) fun _ => ?_
      refine b_skip ?_
      exact turn_nx ⟨_, _, rfl⟩
  · obtain ⟨u2, u3, rfl⟩ := hΔ
    refine b_forget 0 (b_forget 1 (b_forget 2 (b_forget 3 ?_)))
    change Bd (BX P w K mg base NW d_law.qual d_law.scope f cdv Ar outer s H E) [none, none, none, none, none, none, none, none] _ _ _
    refine b_asgT (T := tupT K [sayT K one, sayT K two]) (g := gTup K 2 (gCons (gName 4) (gCons (gName 5) gNil))) (pg_tup rfl (pgs_cons (pg_name nd rfl (Or.inl rfl)) (pgs_cons (pg_name nd rfl (Or.inl rfl)) pgs_nil))) (g_tu (ga_cons ((g_tu (Ts := [strT "use", strT "near", tupT K [strT "x"]]) (ga_cons g_str (ga_cons g_str (ga_cons (g_tu (ga_cons g_str ga_nil)) ga_nil)))).is (by rw [sayT]; rfl)) (ga_cons ((g_tu (Ts := [strT "use", strT "fact", tupT K []]) (ga_cons g_str (ga_cons g_str (ga_cons (g_tu ga_nil) ga_nil)))).is (by rw [sayT]; rfl)) ga_nil))) tgts2 ?_
    have two2 : ∀ {X : Cx} {Γ : RL.Ctx} {a b c : Expr} {k : Nat} {pos : Pos} {c' : Bool} {s t : Say}, X.K = K → G X Γ (.Tuple [a, b, c] k pos) (tupT X.K [strT (if c' then "and" else "or"), sayT K s, sayT K t]) → G X Γ (.Tuple [a, b, c] k pos) (sayT K (.con c' [s, t])) := fun hX h => h.is (by rw [sayT, saysT_map, hX]; rfl)
    refine b_asg 6 (T := lstT ([r1].map (row5T K))) (g_ls (ga_cons (g_tu (ga_cons (two2 (c' := true) rfl (g_tu (ga_cons g_str (ga_cons (two2 (c' := false) rfl (g_tu (ga_cons g_str (ga_cons (g_var 4) (ga_cons (g_var 5) ga_nil))))) (ga_cons (two2 (c' := true) rfl (g_tu (ga_cons g_str (ga_cons (g_var 4) (ga_cons (g_var 5) ga_nil))))) ga_nil))))) (ga_cons g_str ga_nil))) ga_nil)) ?_
    refine b_asg 6 (T := lstT ([r1, r2].map (row5T K))) (g_cat (Ts := [r1].map (row5T K)) (Us := [r2].map (row5T K)) (g_var 6) (g_ls (ga_cons (g_tu (ga_cons (two2 (c' := false) rfl (g_tu (ga_cons g_str (ga_cons (two2 (c' := true) rfl (g_tu (ga_cons g_str (ga_cons (g_var 4) (ga_cons (g_var 5) ga_nil))))) (ga_cons (two2 (c' := false) rfl (g_tu (ga_cons g_str (ga_cons (g_var 4) (ga_cons (g_var 5) ga_nil))))) ga_nil))))) (ga_cons g_str ga_nil))) ga_nil)) (by show 2 ≤ sizeLine; decide)) ?_
    refine b_asg 6 (T := lstT ([r1, r2, r3].map (row5T K))) (g_cat (Ts := [r1, r2].map (row5T K)) (Us := [r3].map (row5T K)) (g_var 6) (g_ls (ga_cons (g_tu (ga_cons ((g_tu (Ts := [strT "not", sayT K (.qu true "y" (.qu false "z" one))]) (ga_cons g_str (ga_cons ((g_tu (Ts := [strT "some", strT "y", sayT K (.qu false "z" one)]) (ga_cons g_str (ga_cons g_str (ga_cons ((g_tu (Ts := [strT "all", strT "z", sayT K one]) (ga_cons g_str (ga_cons g_str (ga_cons (g_var 4) ga_nil)))).is (sayT_eq K (.qu false "z" one)).symm) ga_nil)))).is (sayT_eq K (.qu true "y" (.qu false "z" one))).symm) ga_nil))).is (sayT_eq K (.neg (.qu true "y" (.qu false "z" one)))).symm) (ga_cons g_str ga_nil))) ga_nil)) (by show 3 ≤ sizeLine; decide)) ?_
    refine b_catM (Ts := [r1, r2, r3].map (row5T K)) (Us := [r4].map (row5T K)) 6 (g_var 6) (g_ls (ga_cons (g_tu (ga_cons ((g_tu (Ts := [strT "equal", trmT K ([("x", 2), ("y", 1)], 1), trmT K ([], 1)]) (ga_cons g_str (ga_cons (g_tu (ga_cons (g_tu (ga_cons (g_tu (ga_cons g_str (ga_cons g_int ga_nil))) (ga_cons (g_tu (ga_cons g_str (ga_cons g_int ga_nil))) ga_nil))) (ga_cons g_int ga_nil))) (ga_cons (g_tu (ga_cons (g_tu ga_nil) (ga_cons g_int ga_nil))) ga_nil)))).is (sayT_eq K r4.1).symm) (ga_cons g_str ga_nil))) ga_nil)) (by show 4 ≤ sizeLine; decide) fun d hd => ?_
    refine b_append (Ts := [r1, r2, r3, r4].map (row5T K)) (T := row5T K r5) 6 (by exact rfl) (by exact g_tu (ga_cons ((g_tu (Ts := strT "count" :: tailT K r5.1) (ga_cons g_str (ga_cons (g_tu (Ts := [cmpnT K ([("x", -1), ("y", 3)], ">=", -2), cmpnT K ([("y", 1)], "=", 1)]) (ga_cons (g_tu (Ts := [powT K [("x", -1), ("y", 3)], strT ">=", intT (-2)]) (ga_cons (g_tu (Ts := [pwT K ("x", -1), pwT K ("y", 3)]) (ga_cons (g_tu (ga_cons g_str (ga_cons (g_neg g_int) ga_nil))) (ga_cons (g_tu (ga_cons g_str (ga_cons g_int ga_nil))) ga_nil))) (ga_cons g_str (ga_cons (g_neg g_int) ga_nil)))) (ga_cons (g_tu (Ts := [powT K [("y", 1)], strT "=", intT 1]) (ga_cons (g_tu (Ts := [pwT K ("y", 1)]) (ga_cons (g_tu (ga_cons g_str (ga_cons g_int ga_nil))) ga_nil)) (ga_cons g_str (ga_cons g_int ga_nil)))) ga_nil))) (ga_cons g_str (ga_cons (g_tu (ga_cons g_int (ga_cons g_int ga_nil))) ga_nil))))).is (sayT_eq K r5.1).symm) (ga_cons g_str ga_nil))) (by show 4 < sizeLine; decide) hd (by repeat (first | exact stbC_nil | refine stbC_none ?_ | refine stbC_some inferInstance ?_)) ?_
    refine b_frzL (Ts := rows5.map (row5T K)) 6 rfl hd (by repeat (first | exact stbC_nil | refine stbC_none ?_ | refine stbC_some inferInstance ?_)) ?_
    refine b_ret (T := blT true) ((g_eqD (room64 (hr.mono (j := 0) (by decide))) (g_lcM (i := 7) rows5 (row5T K) (fun r => strT r.2) (gi_list (g_var 6)) (by show 5 ≤ sizeLine; decide) (fun r hr' s' H C cl fp => (g_call FS hr9 (⟨r.1, ok_rows r hr'⟩ : SayAt 3) (ga_cons (g_ixT (T := sayT K r.1) (Ts := [sayT K r.1, strT r.2]) (g_var 7) g_int) ga_nil)).is (congrArg (fun z => strT z) (txt_rows r hr'))) (hR := rfl)) (g_lcM (i := 7) rows5 (row5T K) (fun r => strT r.2) (gi_list (g_var 6)) (by show 5 ≤ sizeLine; decide) (fun r hr' s' H C cl fp => g_ixT (T := strT r.2) (Ts := [sayT K r.1, strT r.2]) (g_var 7) g_int) (hR := rfl)) (strs_dp _ (rows5.map (·.2))) (strs_dp _ (rows5.map (·.2))) (strs_shaped (by decide +kernel)) (strs_shaped (by decide +kernel))).is (congrArg (fun z => blT z) (by decide +kernel))) hD
end
end K10

set_option Elab.async false
set_option linter.all false
set_option maxRecDepth 100000
set_option maxHeartbeats 0
namespace K10
open PySem PySem.Spec PyProof.Rows L2 RL StX
theorem facts {P : Program} {w : World} {K : PySem.W.Frag} {h : Heap} {mg : Str → Option Value} {f : Addr} (X : K.In h) (G : h.Ns mainGlobals mg) (hfa : mg ("law" : Str) = some (.ref f)) (c : SaysX fa fn ex K) :
    ∃ fd : FuncData, (∀ (s : Shared) (v : Value), BindsTo s fd ⟨[v], []⟩ [("_law_script", v)]) ∧ ∀ base : Heap, K.In base → base.Ns mainGlobals mg → FnOk P w K mg base CX0 11 f fd ["_law_script"] (spG (fun ns : List Int => [rlT K (ns.map fun z => intT z)]) fun _ => blT true) := by
  have T : Tx fa fn ex K mg := ⟨c, h, X, G⟩
  obtain ⟨fd, F⟩ := T.def_ d_law i_law
  have e0 : d_law.dvs K = [] := rfl
  rw [e0] at F
  have e1 : He.fAd K d_law.at_ = He.ga K "law" := rfl
  have e := hfa.symm.trans (T.glo _ q_glo_law)
  rw [e1] at F
  cases e
  have b := FunD.bindsA (ps := ["_law_script"]) F fun _ _ _ _ _ _ us hl => match us, hl with | [_], _ => rfl
  exact ⟨fd, fun s v => b s [v] rfl, fun base _ _ => ok_law T F⟩
end K10
open PySem PySem.W PySem.Calls PyProof.Rows
theorem PySem.Challenge.cw_timesalone_k10_sayings_written_holds : PySem.Challenge.rw_timesalone_k10_sayings_written.Holds := by
  w_on; o_law
  refine HandSHeadRun.head_any (r := OpenLaw.row PySem.Challenge.rw_timesalone_k10_sayings_written) (q := view (OpenLaw.row PySem.Challenge.rw_timesalone_k10_sayings_written).prog [26]) (H := K10.hk) (ob := K10.ob) (M := 20000) (loose := K10.loose) (d := HandSHeadRun.topDef (OpenLaw.row PySem.Challenge.rw_timesalone_k10_sayings_written).prog 26) (kwd := []) K10.ob_eq
    (by kernel_rfl) (fun s => by kernel_rfl) K10.run (by kernel_rfl) (by kernel_rfl) (by kernel_rfl) (by rfl) (by first | assumption | decide +kernel) (by decide +kernel) ⟨rfl, rfl, rfl, rfl, rfl, by decide +kernel⟩ ?hw ?hc
  case hw => w_witness2
  case hc =>
    refine L2.walk_ofE (l := PySem.Challenge.rw_timesalone_k10_sayings_written) (n := 63) (k := 11) (x := "_law_script") (CX := L2.CX0) rfl (by decide) (by kernel_rfl) ⟨rfl, by decide, by decide⟩ ?F (fun _ _ _ _ z => z)
    intro w mg fa h Y G hmg0
    obtain ⟨K, KX, c⟩ := Y
    have hmg : mg ("law" : PySem.Str) = some (.ref fa) := by
      have e : (HandSHeadRun.topDef (OpenLaw.row PySem.Challenge.rw_timesalone_k10_sayings_written).prog 26).name = ("law" : PySem.Str) := by kernel_rfl
      rw [← e]
      exact hmg0
    obtain ⟨fd, hb, hF⟩ := K10.facts (P := (PySem.Challenge.rw_timesalone_k10_sayings_written).prog) (w := w) KX G hmg c
    refine ⟨K, fd, _, KX, hb, fun H a ns hl _ hS => ⟨ns, ⟨⟨a, ns.map L2.V.int, rfl, hS, ?_⟩, trivial⟩, fun v H' _ hv => hv⟩, hF⟩
    have z := RL.All2.of_vals (H := H) (ws := ns.map L2.V.int)
    rwa [List.map_map] at z
