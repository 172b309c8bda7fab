import PyProof.Rows.All
import Wide.All
import OpenK.AllK
import Wide.FinOn
import HandS.Set
import HandS.Lambda
import HandS.ForMost
import HandS.Defaults
import HandS.Star
import HandS.DictComp
import HandS.Wide
import HandS.IsInst
import HandS.Strs
import HandS.SetFor
import HandS.SortInts
import HandS.HeadHook1
import HandS.HeadHook2
import HandS.Conv
import HandS.OwnEq
import KE.KOpsOwn
import PyProof.InstEq
import HandS.Head0
import HandS.Head1
import HandS.Head2
import HandS.HeadEnd
import HandS.Flow
import HandS.Codes
import KE.GoesEnum
import HandS.TryOnly
import HandS.FStr
import HandS.TupAny
import HandS.Zip
import HandS.Style
import HandS.MakeKwOnly
import HandS.GenOver
import PyProof.GenQ
import HandS.GenCall
import HandS.GenList
import HandS.BoundList
import HandS.Rev
import HandS.ExcInit
import HandS.ExcField
import HandS.ExcOwn
import HandS.TryMany
import HandS.EndTab
import KE.KTryMore
import HandS.HotCalls
import HandS.HeadNt
import HandS.HeadHook3
import HandS.HeadHook4
import HandS.HeadWalk
import HandS.Property
import HandS.ClsMeth
import KE.KFromBytes
import HandS.ExcSuper
import HandS.Iter
import HandS.Text
import PyProof.Rows.StrMeet
import HandS.SortRule
import HandS.Small
import HandS.More
import KE.KEqDict
import PyProof.NeKinds
import HandS.Deep
import KE.IntTextLaws
import PyProof.StrOps2
import HandS.Ends
import PySem.Challenge.RW_timesalone_k03_texts_of_numbers
set_option Elab.async false
set_option linter.all false
set_option maxRecDepth 100000
set_option maxHeartbeats 4000000
/-! RL0: sets of texts as tracked things -/
namespace RL
open PySem PySem.Spec PyProof.Rows L2
def keyS (e : Int × Value) : Str := match e.2 with
  | .str x _ => x
  | _ => Str.empty
def GoodS (w : World) (e : Int × Value) : Prop := ∃ x tk, e.2 = Value.str x tk ∧ e.1 = hashStr w x
/-- at a: a set of texts, its members are those of ys -/
def SetT (w : World) (h : Heap) (a : Addr) (ys : List Str) : Prop := ∃ o es ep t, h.get? a = some o ∧ o.ExactSet ∧ o.data = .set es ep t ∧ (∀ e ∈ es.toList, GoodS w e) ∧ (es.toList.map keyS).Nodup ∧ (∀ k, k ∈ ys ↔ k ∈ es.toList.map keyS) ∧
  es.size ≤ ys.length ∧ es.size < scanBound ∧ t.fits es.size = true ∧ Ris t.place.toList ∧ (w.params.followText "set-order" = true ∨ t.led = true)
/-- a tracked set of texts -/
def tsetH (w : World) (a : Addr) (ys : List Str) : HO := .ext fun h => SetT w h a ys
/-- a heap with this object there and no set elsewhere -/
theorem heap_with (b : Addr) (o : Obj) (ho : o.isFreed = false) : ∃ h : Heap, h.get? b = some o ∧ ∀ a u, a ≠ b → h.get? a = some u → u = default := by
  refine ⟨Heap.push ⟨Array.replicate b default, {}⟩ o, ?_, fun a u ne e => ?_⟩
  · have e : (⟨Array.replicate b default, {}⟩ : Heap).objs.size = b := Array.size_replicate
    have z := Heap.get?_push_size (⟨Array.replicate b default, {}⟩ : Heap) ho
    rw [e] at z
    exact z
  · have hs : ((⟨Array.replicate b default, {}⟩ : Heap).push o).objs.size = b + 1 := by rw [Heap.size_push]; exact congrArg (· + 1) Array.size_replicate
    have hlt : a < b := by
      have z := Heap.lt_size e
      rw [hs] at z
      exact Nat.lt_of_le_of_ne (Nat.le_of_lt_succ z) ne
    obtain ⟨e1, _⟩ := Heap.get?_some_iff.mp e
    have e2 : ((⟨Array.replicate b default, {}⟩ : Heap).push o).objs[a]? = some default := by
      show ((Array.replicate b (default : Obj)).push o)[a]? = some default
      rw [Array.getElem?_push, if_neg (by rw [Array.size_replicate]; exact ne), Array.getElem?_replicate, if_pos hlt]
    rw [e1] at e2
    exact Option.some.inj e2
/-- two things that are not the same of some heap -/
theorem ext_ne {φ ψ : Heap → Prop} (h : Heap) (h1 : φ h) (h2 : ¬ ψ h) : HO.ext φ ≠ HO.ext ψ := fun e => by
  injection e with e
  exact h2 (e ▸ h1)
theorem default_noset : (default : Obj).cls ≠ .type "set" := by decide
/-- no set stands in such a heap -/
theorem no_tset {h : Heap} {b : Addr} {o : Obj} (hb : h.get? b = some o) (hc : o.cls ≠ .type "set") (hd : ∀ a u, a ≠ b → h.get? a = some u → u = default) (w : World) (a : Addr) (ys : List Str) : ¬ SetT w h a ys := by
  rintro ⟨o', es, ep, t, ho, hex, _⟩
  by_cases c : a = b
  · rw [c, hb] at ho
    cases ho
    exact hc hex.1
  · rw [hd a o' c ho] at hex
    exact default_noset hex.1
end RL

set_option Elab.async false
set_option linter.all false
set_option maxRecDepth 100000
set_option maxHeartbeats 4000000
/-! RL1: what a piece of the text does, told goal by goal (tE, tT, tS), and types of values that persist (Ty) -/
namespace RL
open PySem PySem.Spec PyProof.Rows L2

/-! no star among the elements -/
def notStar : Expr → Bool
  | .Starred _ _ => false
  | _ => true
theorem se_cons {a : Expr} {es : List Expr} {env : Env} (h : notStar a = true) : starEach (a :: es) env = (false, eval a env) :: starEach es env := by
  cases a <;> first | (simp [notStar] at h; done) | (rw [starEach]; done) | (simp only [starEach]; done) | rfl
theorem se_one {a : Expr} {env : Env} (h : notStar a = true) : starEach [a] env = [(false, eval a env)] := by
  rw [se_cons h, starEach]
theorem se_two {a b : Expr} {env : Env} (h : notStar a = true) (h' : notStar b = true) : starEach [a, b] env = [(false, eval a env), (false, eval b env)] := by
  rw [se_cons h, se_one h']
theorem se_any {pos : Pos} {es : List Expr} {env : Env} (h : es.all notStar = true) : (backTo pos (starEach es env)).any (·.1) = false := by
  unfold backTo
  rw [List.any_map]
  induction es with
  | nil => rw [starEach]; rfl
  | cons a es ih =>
    rw [List.all_cons, Bool.and_eq_true] at h
    rw [se_cons h.1, List.any_cons, ih h.2]
    rfl
/-! ### goals -/
structure TEs (X : Cx) (e : Expr) (σ : L2.St) (H : Hp) (Q : VK) : Prop where
  run : ∀ pins s, Inv X pins σ H s → wpAny (model X.prog X.w) X.A (eval e X.env) (EP X pins σ Q) X.xe s
structure TTst (X : Cx) (e : Expr) (σ : L2.St) (H : Hp) (Q : Bool → Hp → Prop) : Prop where
  run : ∀ pins s, Inv X pins σ H s → wpAny (model X.prog X.w) X.A (isTrue e X.env (eval e X.env)) (TP X pins σ Q) X.xe s
structure TAs (X : Cx) (es : List Expr) (σ : L2.St) (H : Hp) (Q : List V → Hp → Prop) : Prop where
  run : ∀ pos pins s, Inv X pins σ H s → wpAny (model X.prog X.w) X.A (spliced (backTo pos (starEach es X.env))) (AP X pins σ Q) X.xe s
structure TSs (X : Cx) (st : Stmt) (D : Ends) (σ : L2.St) (H : Hp) : Prop where
  run : ∀ pins s, Inv X pins σ H s → wpAny (model X.prog X.w) X.A (exec st X.env) (SP X pins D) X.xe s
structure TBs (X : Cx) (st : List Stmt) (D : Ends) (σ : L2.St) (H : Hp) : Prop where
  run : ∀ pins s, Inv X pins σ H s → wpAny (model X.prog X.w) X.A (execs st X.env) (SP X pins D) X.xe s
structure TTss (X : Cx) (ifs : List Expr) (σ : L2.St) (H : Hp) (Q : Bool → Hp → Prop) : Prop where
  run : ∀ pins s, Inv X pins σ H s → wpAny (model X.prog X.w) X.A (forIn ifs true fun c r => if r = true then do let ok ← isTrue c X.env (eval c X.env); pure (ForInStep.yield ok) else pure (ForInStep.yield r)) (TP X pins σ Q) X.xe s
abbrev tE (X : Cx) (e : Expr) : TE := fun σ H Q => TEs X e σ H Q
abbrev tT (X : Cx) (e : Expr) : TT := fun σ H Q => TTst X e σ H Q
abbrev tA (X : Cx) (es : List Expr) : TA := fun σ H Q => TAs X es σ H Q
abbrev tS (X : Cx) (st : Stmt) : TS := fun D σ H => TSs X st D σ H
abbrev tB (X : Cx) (st : List Stmt) : TS := fun D σ H => TBs X st D σ H
abbrev tTs (X : Cx) (ifs : List Expr) : TT := fun σ H Q => TTss X ifs σ H Q
section
variable {X : Cx}
theorem pe (e : Expr) : PE X e (tE X e) := ⟨fun pins s _ _ _ I h => h.run pins s I⟩
theorem pt (e : Expr) : PT X e (tT X e) := ⟨fun pins s _ _ _ I h => h.run pins s I⟩
theorem pa (es : List Expr) : PA X es (tA X es) := ⟨fun pos pins s _ _ _ I h => h.run pos pins s I⟩
theorem ps (st : Stmt) : PS X st (tS X st) := ⟨fun pins s _ _ _ I h => h.run pins s I⟩
theorem pb (st : List Stmt) : PSs X st (tB X st) := ⟨fun pins s _ _ _ I h => h.run pins s I⟩
theorem pts (ifs : List Expr) : PTs X ifs (tTs X ifs) := ⟨fun pins s _ _ _ I h => h.run pins s I⟩
theorem toE {e : Expr} {t : TE} (p : PE X e t) {σ : L2.St} {H : Hp} {Q : VK} (h : t σ H Q) : tE X e σ H Q := ⟨fun pins s I => p.run pins s σ H Q I h⟩
theorem toT {e : Expr} {t : TT} (p : PT X e t) {σ : L2.St} {H : Hp} {Q : Bool → Hp → Prop} (h : t σ H Q) : tT X e σ H Q := ⟨fun pins s I => p.run pins s σ H Q I h⟩
theorem toA {es : List Expr} {t : TA} (p : PA X es t) {σ : L2.St} {H : Hp} {Q : List V → Hp → Prop} (h : t σ H Q) : tA X es σ H Q := ⟨fun pos pins s I => p.run pos pins s σ H Q I h⟩
theorem toS {st : Stmt} {t : TS} (p : PS X st t) {σ : L2.St} {H : Hp} {D : Ends} (h : t D σ H) : tS X st D σ H := ⟨fun pins s I => p.run pins s σ H D I h⟩
theorem toB {st : List Stmt} {t : TS} (p : PSs X st t) {σ : L2.St} {H : Hp} {D : Ends} (h : t D σ H) : tB X st D σ H := ⟨fun pins s I => p.run pins s σ H D I h⟩
theorem toTs {ifs : List Expr} {t : TT} (p : PTs X ifs t) {σ : L2.St} {H : Hp} {Q : Bool → Hp → Prop} (h : t σ H Q) : tTs X ifs σ H Q := ⟨fun pins s I => p.run pins s σ H Q I h⟩
theorem tE_mono {e : Expr} {σ : L2.St} {H : Hp} {Q Q' : VK} (h : tE X e σ H Q) (k : ∀ v H', Q v H' → Q' v H') : tE X e σ H Q' := ⟨fun pins s I =>
  thn (h.run pins s I) fun _ _ ⟨v, H', I', r, q⟩ => ⟨v, H', I', r, k v H' q⟩⟩
theorem tA_mono {es : List Expr} {σ : L2.St} {H : Hp} {Q Q' : List V → Hp → Prop} (h : tA X es σ H Q) (k : ∀ v H', Q v H' → Q' v H') : tA X es σ H Q' := ⟨fun pos pins s I =>
  thn (h.run pos pins s I) fun _ _ ⟨v, H', I', r, q⟩ => ⟨v, H', I', r, k v H' q⟩⟩
theorem tT_mono {e : Expr} {σ : L2.St} {H : Hp} {Q Q' : Bool → Hp → Prop} (h : tT X e σ H Q) (k : ∀ v H', Q v H' → Q' v H') : tT X e σ H Q' := ⟨fun pins s I =>
  thn (h.run pins s I) fun _ _ ⟨H', I', q⟩ => ⟨H', I', k _ H' q⟩⟩
/-- what is tracked at d is frozen as it stands -/
theorem freeze_ok {pins : List (Addr × Obj)} {σ : L2.St} {H : Hp} {s : Shared} {d : Addr} {u : HO} (I : Inv X pins σ H s) (h : H d = some u) (mu : Mut (some u)) : ∃ od, Inv X pins σ (upd H d (.frz od u)) s := I.lock h mu
theorem tE_frz {e : Expr} {σ : L2.St} {H : Hp} {Q : VK} (h : tE X e σ H fun v H' => ∃ d u, H' d = some u ∧ Mut (some u) ∧ ∀ od, Q v (upd H' d (.frz od u))) : tE X e σ H Q := ⟨fun pins s I =>
  thn (h.run pins s I) fun _ _ ⟨v, H', I', r, d, u, hd, mu, q⟩ => by
    obtain ⟨od, J⟩ := I'.lock hd mu
    exact ⟨v, _, J, r, q od⟩⟩
theorem tB_frz {st : List Stmt} {σ : L2.St} {H : Hp} {D : Ends} {d : Addr} {u : HO} (hd : H d = some u) (mu : Mut (some u)) (h : ∀ od, tB X st D σ (upd H d (.frz od u))) : tB X st D σ H := ⟨fun pins s I => by
  obtain ⟨od, J⟩ := I.lock hd mu
  exact (h od).run pins s J⟩
theorem tE_frz0 {e : Expr} {σ : L2.St} {H : Hp} {Q : VK} {d : Addr} {u : HO} (hd : H d = some u) (mu : Mut (some u)) (h : ∀ od, tE X e σ (upd H d (.frz od u)) Q) : tE X e σ H Q := ⟨fun pins s I => by
  obtain ⟨od, J⟩ := I.lock hd mu
  exact (h od).run pins s J⟩
end

/-! ### orders of heaps -/
/-- the lambdas of laws -/
abbrev lamNm : Str := "law.<locals>.<lambda>"
/-- no table of code objects (a table may grow) -/
def NT : HO → Prop
  | .tbl _ => False
  | _ => True
/-- all that was tracked is as it was; tables may have grown -/
structure Ex (H H' : Hp) : Prop where
  sm : ∀ a o, H a = some o → (hn : NT o := by trivial) → H' a = some o
  dom : ∀ a, H' a = none → H a = none
  tab : ∀ p q, q = lamNm → LamX.TabS H p q → LamX.TabS H' p q
instance (H H' : Hp) : CoeFun (Ex H H') (fun _ => ∀ a o, H a = some o → (hn : NT o := by trivial) → H' a = some o) := ⟨fun e => @Ex.sm _ _ e⟩
/-- what may change while it is tracked -/
def Unf : HO → Prop
  | .lst _ => True
  | .dK _ => True
  | .set _ _ => True
  | .ext φ => ∃ w a ys, HO.ext φ = tsetH w a ys
  | _ => False
/-- all but lists, dicts, sets that are not frozen -/
structure Le (H H' : Hp) : Prop where
  sm : ∀ a o, ¬ Unf o → H a = some o → (hn : NT o := by trivial) → H' a = some o
  tab : ∀ p q, q = lamNm → LamX.TabS H p q → LamX.TabS H' p q
instance (H H' : Hp) : CoeFun (Le H H') (fun _ => ∀ a o, ¬ Unf o → H a = some o → (hn : NT o := by trivial) → H' a = some o) := ⟨fun e => @Le.sm _ _ e⟩
/-- all is kept -/
theorem Ex.of {H H' : Hp} (h : ∀ a o, H a = some o → H' a = some o) : Ex H H' := by
  refine ⟨fun a o e _ => h a o e, fun a e => ?_, fun p q _ t => LamX.TabS.ext t h⟩
  cases q : H a with
  | none => rfl
  | some o => rw [h a o q] at e; cases e
theorem Ex.refl (H : Hp) : Ex H H := .of fun _ _ h => h
theorem Ex.trans {H H1 H2 : Hp} (a : Ex H H1) (b : Ex H1 H2) : Ex H H2 := ⟨fun x o h n => b.sm x o (a.sm x o h n) n, fun x h => a.dom x (b.dom x h), fun p q z t => b.tab p q z (a.tab p q z t)⟩
theorem Ex.new {H : Hp} {p : Addr} {o : HO} (h : H p = none) : Ex H (upd H p o) := .of fun a u e => by
  rw [upd_ne (ne_of_none e h)]; exact e
/-- neither a table nor a code object -/
def Plain (p : Addr) (u : HO) : Prop := NT u ∧ ∀ q, u ≠ LamX.CodeO p q
theorem Unf.nt {u : HO} (h : Unf u) : NT u := by cases u <;> first | exact trivial | exact h.elim
theorem unf_ext {φ : Heap → Prop} {b : Addr} {o : Obj} (ho : o.isFreed = false) (hc : o.cls ≠ .type "set") (h : ∀ h : Heap, h.get? b = some o → φ h) : ¬ Unf (.ext φ) := by
  rintro ⟨w, a, ys, e⟩
  obtain ⟨hp, hb, hd⟩ := heap_with b o ho
  exact ext_ne hp (h hp hb) (no_tset hb hc hd w a ys) e
theorem unf_code {p : Addr} {q : Str} : ¬ Unf (LamX.CodeO p q) := unf_ext (b := p) (o := { cls := .none, data := .fields #[.none, .str q 0] }) rfl (by show Value.none ≠ _; decide) fun h e => ⟨_, _, 0, e, rfl, rfl⟩
theorem Unf.plain {p : Addr} {u : HO} (h : Unf u) : Plain p u := ⟨h.nt, fun q e => by
  rw [e] at h
  exact unf_code h⟩
theorem unf_set {w : World} {a : Addr} {ys : List Str} : Unf (tsetH w a ys) := ⟨w, a, ys, rfl⟩
theorem tab_mut {H : Hp} {p : Addr} {o u : HO} (h : H p = some u) (hu : Plain p u) {x : Addr} {q : Str} (t : LamX.TabS H x q) : LamX.TabS (upd H p o) x q := by
  obtain ⟨ps, h1, h2, h3⟩ := t
  have n1 : x ≠ p := fun z => by
    rw [z, h] at h1
    cases h1
    exact hu.1
  refine ⟨ps, by rw [upd_ne n1]; exact h1, h2, fun pos cv hc => ?_⟩
  obtain ⟨c, e1, e2⟩ := h3 pos cv hc
  have n2 : c ≠ p := fun z => by
    rw [z, h] at e2
    exact hu.2 q (Option.some.inj e2)
  exact ⟨c, e1, by rw [upd_ne n2]; exact e2⟩
/-- what the base does not know may change -/
theorem Ex.put {H H' : Hp} {p : Addr} {o u : HO} (e : Ex H H') (h : H p = none) (hu : H' p = some u) (un : Plain p u) : Ex H (upd H' p o) := ⟨fun a u ha n => by
  rw [upd_ne (ne_of_none ha h)]; exact e.sm a u ha n, fun a ha => by
  by_cases c : a = p
  · rw [c]; exact h
  · rw [upd_ne c] at ha; exact e.dom a ha, fun x q z t => tab_mut hu un (e.tab x q z t)⟩
theorem Ex.mut {H H' : Hp} {p : Addr} {o u : HO} (e : Ex H H') (h : H p = none) (hu : H' p = some u) (un : Unf u := by trivial) : Ex H (upd H' p o) := e.put h hu un.plain
theorem Ex.free {H H' : Hp} {p : Addr} (e : Ex H H') (h : H' p = none) : H p = none := e.dom p h
theorem Ex.le {H H' : Hp} (e : Ex H H') : Le H H' := ⟨fun a o _ h n => e.sm a o h n, e.tab⟩
theorem Le.refl (H : Hp) : Le H H := (Ex.refl H).le
theorem Le.trans {H H1 H2 : Hp} (a : Le H H1) (b : Le H1 H2) : Le H H2 := ⟨fun x o u h n => b.sm x o u (a.sm x o u h n) n, fun p q z t => b.tab p q z (a.tab p q z t)⟩
theorem Le.mut {H : Hp} {p : Addr} {o u : HO} (h : H p = some u) (hu : Unf u) : Le H (upd H p o) := ⟨fun a v nv e _ => by
  by_cases c : a = p
  · subst c; rw [h] at e; cases e; exact absurd hu nv
  · rw [upd_ne c]; exact e, fun _ _ _ t => tab_mut h hu.plain t⟩
theorem Le.new {H : Hp} {p : Addr} {o : HO} (h : H p = none) : Le H (upd H p o) := (Ex.new h).le
/-! ### types of values -/
structure Ty where
  is : V → Hp → Prop
  up : ∀ {v H H'}, Ex H H' → is v H → is v H'
instance : CoeFun Ty (fun _ => V → Hp → Prop) := ⟨Ty.is⟩
def anyT : Ty := ⟨fun _ _ => True, fun _ h => h⟩
/-- this very value -/
def valT (w : V) : Ty := ⟨fun v _ => v = w, fun _ h => h⟩
abbrev intT (i : Int) : Ty := valT (.int i)
abbrev strT (x : Str) : Ty := valT (.str x)
abbrev blT (b : Bool) : Ty := valT (.bl b)
abbrev nonT : Ty := valT .non
/-- some of a family -/
def exT {α : Sort u} (T : α → Ty) : Ty := ⟨fun v H => ∃ a, T a v H, fun e ⟨a, h⟩ => ⟨a, (T a).up e h⟩⟩
/-- and a fact -/
def andT (p : Prop) (T : Ty) : Ty := ⟨fun v H => p ∧ T v H, fun e ⟨a, h⟩ => ⟨a, T.up e h⟩⟩
/-- values of types, one by one -/
def All2 : List Ty → List V → Hp → Prop
  | [], [], _ => True
  | T :: Ts, v :: vs, H => T v H ∧ All2 Ts vs H
  | _, _, _ => False
theorem All2.up {H H' : Hp} (e : Ex H H') : ∀ {Ts : List Ty} {vs : List V}, All2 Ts vs H → All2 Ts vs H'
  | [], [], _ => trivial
  | T :: _, _ :: _, ⟨a, b⟩ => ⟨T.up e a, All2.up e b⟩
  | [], _ :: _, h => h.elim
  | _ :: _, [], h => h.elim
theorem All2.len {H : Hp} : ∀ {Ts : List Ty} {vs : List V}, All2 Ts vs H → Ts.length = vs.length
  | [], [], _ => rfl
  | _ :: _, _ :: _, ⟨_, b⟩ => congrArg (· + 1) (All2.len b)
  | [], _ :: _, h => h.elim
  | _ :: _, [], h => h.elim
theorem All2.get {H : Hp} : ∀ {Ts : List Ty} {vs : List V} {i : Nat} {T : Ty}, All2 Ts vs H → Ts[i]? = some T → ∃ v, vs[i]? = some v ∧ T v H
  | T :: _, v :: _, 0, _, ⟨a, _⟩, e => by simp at e; subst e; exact ⟨v, rfl, a⟩
  | _ :: _, _ :: _, i + 1, _, ⟨_, b⟩, e => by simpa using All2.get (i := i) b (by simpa using e)
  | [], _, _, _, _, e => by simp at e
  | _ :: _, [], _, _, h, _ => h.elim
theorem All2.append {H : Hp} : ∀ {Ts Us : List Ty} {vs ws : List V}, All2 Ts vs H → All2 Us ws H → All2 (Ts ++ Us) (vs ++ ws) H
  | [], _, [], _, _, h => h
  | _ :: _, _, _ :: _, _, ⟨a, b⟩, h => ⟨a, All2.append b h⟩
  | [], _, _ :: _, _, h, _ => h.elim
  | _ :: _, _, [], _, h, _ => h.elim
theorem All2.vals {H : Hp} : ∀ {ws vs : List V}, All2 (ws.map valT) vs H → vs = ws
  | [], [], _ => rfl
  | w :: ws, v :: vs, ⟨a, b⟩ => by have a' : v = w := a; rw [a', All2.vals b]
  | [], _ :: _, h => h.elim
  | _ :: _, [], h => h.elim
theorem All2.of_vals {H : Hp} : ∀ {ws : List V}, All2 (ws.map valT) ws H
  | [] => trivial
  | w :: ws => ⟨rfl, All2.of_vals⟩

/-- a frozen list -/
def FrzL (H : Hp) (a : Addr) (vs : List V) : Prop := ∃ o, H a = some (.frz o (.lst vs))
theorem FrzL.sq {K : PySem.W.Frag} {H : Hp} {a : Addr} {vs : List V} (h : FrzL H a vs) : SqL K H a vs := let ⟨o, h⟩ := h; .inl (.inr ⟨o, h⟩)
theorem FrzL.le {H H' : Hp} {a : Addr} {vs : List V} (e : Le H H') (h : FrzL H a vs) : FrzL H' a vs := let ⟨o, h⟩ := h; ⟨o, e a _ (by exact fun z => z) h⟩
theorem FrzL.up {H H' : Hp} {a : Addr} {vs : List V} (e : Ex H H') (h : FrzL H a vs) : FrzL H' a vs := h.le e.le
/-- a frozen list of such items -/
def lstT (Ts : List Ty) : Ty := ⟨fun v H => ∃ a vs, v = .ref a ∧ FrzL H a vs ∧ All2 Ts vs H, fun {v H H'} e ⟨a, vs, h1, h2, h3⟩ => ⟨a, vs, h1, h2.up e, h3.up e⟩⟩
/-- a tuple of such items -/
def PerT (K : PySem.W.Frag) (H : Hp) (a : Addr) (vs : List V) : Prop := H a = some (.tup vs) ∨ (∃ o, H a = some (.frz o (.tup vs))) ∨ ∀ H' : Hp, SqT K H' a vs
theorem PerT.sq {K : PySem.W.Frag} {H : Hp} {a : Addr} {vs : List V} (h : PerT K H a vs) : SqT K H a vs := by
  rcases h with h | ⟨o, h⟩ | h
  · exact .inl (.inl h)
  · exact .inl (.inr ⟨o, h⟩)
  · exact h H
theorem PerT.le {K : PySem.W.Frag} {H H' : Hp} {a : Addr} {vs : List V} (e : Le H H') (h : PerT K H a vs) : PerT K H' a vs := by
  rcases h with h | ⟨o, h⟩ | h
  · exact .inl (e a _ (by exact fun z => z) h)
  · exact .inr (.inl ⟨o, e a _ (by exact fun z => z) h⟩)
  · exact .inr (.inr h)
theorem PerT.up {K : PySem.W.Frag} {H H' : Hp} {a : Addr} {vs : List V} (e : Ex H H') (h : PerT K H a vs) : PerT K H' a vs := h.le e.le
def tupT (K : PySem.W.Frag) (Ts : List Ty) : Ty := ⟨fun v H => ∃ a vs, v = .ref a ∧ PerT K H a vs ∧ All2 Ts vs H, fun {v H H'} e ⟨a, vs, h1, h2, h3⟩ => ⟨a, vs, h1, h2.up e, h3.up e⟩⟩

/-! what stays though something is mutated -/
class Stb (T : Ty) : Prop where
  le : ∀ {v H H'}, Le H H' → T v H → T v H'
class Stbs (Ts : List Ty) : Prop where
  le : ∀ {vs H H'}, Le H H' → All2 Ts vs H → All2 Ts vs H'
instance : Stb anyT := ⟨fun _ h => h⟩
instance (w : V) : Stb (valT w) := ⟨fun _ h => h⟩
instance {α : Sort u} (T : α → Ty) [h : ∀ a, Stb (T a)] : Stb (exT T) := ⟨fun e ⟨a, k⟩ => ⟨a, (h a).le e k⟩⟩
instance (p : Prop) (T : Ty) [h : Stb T] : Stb (andT p T) := ⟨fun e ⟨a, k⟩ => ⟨a, h.le e k⟩⟩
instance : Stbs [] := ⟨fun {vs H H'} _ h => by cases vs; exact h; exact h⟩
instance (T : Ty) (Ts : List Ty) [h : Stb T] [k : Stbs Ts] : Stbs (T :: Ts) := ⟨fun {vs H H'} e z => match vs, z with | _ :: _, ⟨a, b⟩ => ⟨h.le e a, k.le e b⟩⟩
theorem stbs_of {Ts : List Ty} (h : ∀ T ∈ Ts, Stb T) : Stbs Ts := by
  induction Ts with
  | nil => infer_instance
  | cons T Ts ih =>
    have := h T List.mem_cons_self
    have := ih fun U hU => h U (List.mem_cons_of_mem _ hU)
    infer_instance
instance {α : Type u} (f : α → Ty) (l : List α) [h : ∀ a, Stb (f a)] : Stbs (l.map f) := stbs_of fun T hT => by
  obtain ⟨a, _, rfl⟩ := List.mem_map.mp hT
  exact h a
instance (Ts : List Ty) [h : Stbs Ts] : Stb (lstT Ts) := ⟨fun e ⟨a, vs, h1, h2, h3⟩ => ⟨a, vs, h1, h2.le e, h.le e h3⟩⟩
instance (K : PySem.W.Frag) (Ts : List Ty) [h : Stbs Ts] : Stb (tupT K Ts) := ⟨fun e ⟨a, vs, h1, h2, h3⟩ => ⟨a, vs, h1, h2.le e, h.le e h3⟩⟩

/-! ### contexts: what the slots hold -/
abbrev Ctx := List (Option Ty)
def Typed (σ : L2.St) (Γ : Ctx) (H : Hp) : Prop := σ.length = Γ.length ∧ ∀ (i : Nat) (T : Ty), Γ[i]? = some (some T) → ∃ v, σ[i]? = some (some v) ∧ T v H
theorem Typed.up {σ : L2.St} {Γ : Ctx} {H H' : Hp} (e : Ex H H') (h : Typed σ Γ H) : Typed σ Γ H' := ⟨h.1, fun i T g => let ⟨v, a, b⟩ := h.2 i T g; ⟨v, a, T.up e b⟩⟩
theorem Typed.set {σ : L2.St} {Γ : Ctx} {H : Hp} {T : Ty} {v : V} (i : Nat) (h : Typed σ Γ H) (t : T v H) : Typed (σ.set i (some v)) (Γ.set i (some T)) H := by
  refine ⟨by simp [h.1], fun j U g => ?_⟩
  by_cases c : j = i
  · subst c
    have hl : j < Γ.length := by
      rw [List.getElem?_set_self'] at g
      cases q : Γ[j]? with
      | none => rw [q] at g; cases g
      | some _ => exact (List.getElem?_eq_some_iff.mp q).1
    rw [List.getElem?_set_self hl] at g
    cases g
    exact ⟨v, List.getElem?_set_self (by rw [h.1]; exact hl), t⟩
  · rw [List.getElem?_set_ne (Ne.symm c)] at g ⊢
    exact h.2 j U g
theorem Typed.get {σ : L2.St} {Γ : Ctx} {H : Hp} {T : Ty} (i : Nat) (h : Typed σ Γ H) (g : Γ[i]? = some (some T)) : ∃ v, σ[i]? = some (some v) ∧ T v H := h.2 i T g
/-- fewer words about the slots -/
theorem Typed.weak {σ : L2.St} {Γ Δ : Ctx} {H : Hp} (h : Typed σ Γ H) (hl : Γ.length = Δ.length) (w : ∀ (i : Nat) (T : Ty), Δ[i]? = some (some T) → ∃ U : Ty, Γ[i]? = some (some U) ∧ ∀ v, U v H → T v H) : Typed σ Δ H :=
  ⟨h.1.trans hl, fun i T g => let ⟨U, g', k⟩ := w i T g; let ⟨v, a, b⟩ := h.2 i U g'; ⟨v, a, k v b⟩⟩
theorem Typed.wipe1 {σ : L2.St} {Γ : Ctx} {H : Hp} (i : Nat) (h : Typed σ Γ H) : Typed (σ.set i none) (Γ.set i none) H := by
  refine ⟨by simp [h.1], fun j U g => ?_⟩
  by_cases c : j = i
  · subst c
    rw [List.getElem?_set_self'] at g
    cases q : Γ[j]? with
    | none => rw [q] at g; cases g
    | some _ => rw [q] at g; cases g
  · rw [List.getElem?_set_ne (Ne.symm c)] at g ⊢
    exact h.2 j U g
theorem Typed.wipe {Γ : Ctx} {H : Hp} : ∀ {σ : L2.St} (vs : List Nat), Typed σ Γ H → Typed (L2.wipe σ vs) (vs.foldr (fun v G => G.set v none) Γ) H
  | _, [], h => h
  | _, v :: vs, h => Typed.wipe1 v (Typed.wipe vs h)

/-! ### expressions -/
/-- e gives a value of T, all that was tracked stays -/
def Ev (X : Cx) (σ : L2.St) (H : Hp) (e : Expr) (T : Ty) : Prop := ∀ Q : VK, (∀ v H', Ex H H' → T v H' → Q v H') → tE X e σ H Q
def EvT (X : Cx) (σ : L2.St) (H : Hp) (e : Expr) (b : Bool) : Prop := ∀ Q : Bool → Hp → Prop, (∀ H', Ex H H' → Q b H') → tT X e σ H Q
def EvA (X : Cx) (σ : L2.St) (H : Hp) (es : List Expr) (Ts : List Ty) : Prop := ∀ Q : List V → Hp → Prop, (∀ vs H', Ex H H' → All2 Ts vs H' → Q vs H') → tA X es σ H Q
def G (X : Cx) (Γ : Ctx) (e : Expr) (T : Ty) : Prop := ∀ σ H, Typed σ Γ H → Ev X σ H e T
def GT (X : Cx) (Γ : Ctx) (e : Expr) (b : Bool) : Prop := ∀ σ H, Typed σ Γ H → EvT X σ H e b
def GA (X : Cx) (Γ : Ctx) (es : List Expr) (Ts : List Ty) : Prop := ∀ σ H, Typed σ Γ H → EvA X σ H es Ts
section
variable {X : Cx} {Γ : Ctx} {e a b c : Expr} {es : List Expr} {T U : Ty} {Ts : List Ty} {pos p : Pos} {x : Str}
theorem G.imp (h : G X Γ e T) (k : ∀ v H, T v H → U v H) : G X Γ e U := fun σ H t Q q => h σ H t Q fun v H' ex hv => q v H' ex (k v H' hv)
theorem G.is (h : G X Γ e T) (k : T = U) : G X Γ e U := k ▸ h
theorem GT.is {b b' : Bool} (h : GT X Γ e b) (k : b = b') : GT X Γ e b' := k ▸ h
theorem g_var (i : Nat) (hT : Γ[i]? = some (some T) := by rfl) (hN : X.N[i]? = some x := by rfl) (hv : Vis X.env.scope x := by first | exact Or.inl rfl | exact Or.inr (Or.inl rfl) | exact Or.inr (Or.inr rfl)) (hd : (x == ("__debug__" : Str)) = false := by decide)
    (hcd : (x == ("__classdict__" : Str)) = false := by decide) : G X Γ (.Name x pos) T := fun σ H t Q q => by
  obtain ⟨v, h1, h2⟩ := t.get i hT
  exact toE (pe_var (i := i) hN hv hd hcd) ⟨v, h1, q v H (Ex.refl H) h2⟩
theorem g_int {i : Int} {j : Nat} : G X Γ (.Constant (.int i) j pos) (intT i) := fun σ H t Q q => toE pe_int (q _ H (Ex.refl H) rfl)
theorem g_bl {i : Bool} {j : Nat} : G X Γ (.Constant (.bool i) j pos) (blT i) := fun σ H t Q q => toE pe_bl (q _ H (Ex.refl H) rfl)
theorem g_str {i : Str} {j : Nat} : G X Γ (.Constant (.str i) j pos) (strT i) := fun σ H t Q q => toE pe_str (q _ H (Ex.refl H) rfl)
theorem g_non {j : Nat} : G X Γ (.Constant .none j pos) nonT := fun σ H t Q q => toE pe_non (q _ H (Ex.refl H) rfl)
/-- a module's constant -/
theorem g_glob {v : V} {u : Value} (hm : X.mg x = some u) (r : RelV v u) (hg : Gl X x := by rfl) (hd : (x == ("__debug__" : Str)) = false := by decide) : G X Γ (.Name x pos) (valT v) := fun σ H t Q q => toE (pe_glob hg hm r hd) (q _ H (Ex.refl H) rfl)
/-- a binary operation by its rule on values -/
theorem g_op {op : Operator} {r : R2} {T' : Ty} (ho : OpR X (binaryOp op) r) (ha : G X Γ a T) (hb : G X Γ b U) (hr : ∀ x y H, T x H → U y H → ∀ Q : VK, (∀ v H', Ex H H' → T' v H' → Q v H') → r x y H Q) : G X Γ (.BinOp a op b pos) T' := fun σ H t Q q =>
  toE (pe_op ho (pe a) (pe b)) (ha σ H t _ fun v H1 e1 h1 => hb σ H1 (t.up e1) _ fun u H2 e2 h2 => hr v u H2 (T.up e2 h1) h2 Q fun w H3 e3 h3 => q w H3 ((e1.trans e2).trans e3) h3)
theorem g_cmp {op : CmpOp} {r : R2} {T' : Ty} (ho : OpR X (compareOp op) r) (ha : G X Γ a T) (hb : G X Γ b U) (hr : ∀ x y H, T x H → U y H → ∀ Q : VK, (∀ v H', Ex H H' → T' v H' → Q v H') → r x y H Q) (hm : behindInMarks op b = false := by rfl) : G X Γ (.Compare a [op] [b] pos) T' := fun σ H t Q q =>
  toE (pe_cmpR ho (pe a) (pe b) hm) (ha σ H t _ fun v H1 e1 h1 => hb σ H1 (t.up e1) _ fun u H2 e2 h2 => hr v u H2 (T.up e2 h1) h2 Q fun w H3 e3 h3 => q w H3 ((e1.trans e2).trans e3) h3)
theorem gt_cmp {op : CmpOp} {r : R2} {k : Bool} (ho : OpR X (compareOp op) r) (ha : G X Γ a T) (hb : G X Γ b U) (hr : ∀ x y H, T x H → U y H → ∀ Q : VK, (∀ v H', Ex H H' → blT k v H' → Q v H') → r x y H Q) (hm : behindInMarks op b = false := by rfl) : GT X Γ (.Compare a [op] [b] pos) k := fun σ H t Q q =>
  toT (pt_cmpR ho (pe a) (pe b) hm) (ha σ H t _ fun v H1 e1 h1 => hb σ H1 (t.up e1) _ fun u H2 e2 h2 => hr v u H2 (T.up e2 h1) h2 _ fun w H3 e3 h3 => ⟨k, h3, q H3 ((e1.trans e2).trans e3)⟩)
theorem r_I0 {g : Int → Int → V} {i j : Int} : ∀ x y H, intT i x H → intT j y H → ∀ Q : VK, (∀ v H', Ex H H' → valT (g i j) v H' → Q v H') → rI0 g x y H Q := fun x y H hx hy Q q => ⟨i, j, hx, hy, q _ H (Ex.refl H) rfl⟩
theorem r_I {C : Int → Int → Prop} {g : Int → Int → V} {i j : Int} (hc : C i j) : ∀ x y H, intT i x H → intT j y H → ∀ Q : VK, (∀ v H', Ex H H' → valT (g i j) v H' → Q v H') → rI C g x y H Q := fun x y H hx hy Q q => ⟨i, j, hx, hy, hc, q _ H (Ex.refl H) rfl⟩
theorem r_Eq {v w : V} (h : scal v w = true) : ∀ x y H, valT v x H → valT w y H → ∀ Q : VK, (∀ u H', Ex H H' → blT (decide (v = w)) u H' → Q u H') → rEq x y H Q := fun x y H hx hy Q q => by
  have hx' : x = v := hx
  have hy' : y = w := hy
  subst hx'; subst hy'
  exact ⟨h, q _ H (Ex.refl H) rfl⟩
/-! argument lists -/
theorem ga_nil : GA X Γ [] [] := fun σ H t Q q => toA pa_nil (q [] H (Ex.refl H) trivial)
theorem ga_cons (ha : G X Γ a T) (hr : GA X Γ es Ts) (hs : starEach (a :: es) X.env = (false, eval a X.env) :: starEach es X.env := by first | exact se_cons rfl | exact se_one rfl | exact se_two rfl rfl | rfl) : GA X Γ (a :: es) (T :: Ts) := fun σ H t Q q =>
  toA (pa_cons (pe a) (pa es) hs) (ha σ H t _ fun v H1 e1 h1 => hr σ H1 (t.up e1) _ fun vs H2 e2 h2 => q _ H2 (e1.trans e2) ⟨T.up e2 h1, h2⟩)
/-- a written tuple -/
theorem g_tup {k : Nat} (h : GA X Γ es Ts) (hl : Ts.length ≤ sizeLine := by show _ ≤ _; decide) : G X Γ (.Tuple es k pos) (tupT X.K Ts) := fun σ H t Q q =>
  toE (pe_tup (pa es)) (h σ H t _ fun vs H1 e1 h1 => ⟨h1.len ▸ hl, fun p hp => q _ _ (e1.trans (Ex.new hp)) ⟨p, vs, rfl, .inl upd_same, h1.up (Ex.new hp)⟩⟩)
/-- a written list, frozen at once -/
theorem g_lst (h : GA X Γ es Ts) (hl : Ts.length ≤ sizeLine := by show _ ≤ _; decide) : G X Γ (.List es pos) (lstT Ts) := fun σ H t Q q =>
  tE_frz (toE (pe_lst (pa es)) (h σ H t _ fun vs H1 e1 h1 => ⟨h1.len ▸ hl, fun p hp => ⟨p, _, upd_same, trivial, fun od => by
    rw [upd_upd]
    exact q _ _ (e1.trans (Ex.new hp)) ⟨p, vs, rfl, ⟨od, upd_same⟩, h1.up (Ex.new hp)⟩⟩⟩))
/-! tests -/
theorem gt_bl {k : Bool} (h : G X Γ e (blT k)) (he : ∀ whole, isTrue e X.env whole = (do let v ← whole; standAt e.pos; holding [v] (truthy v)) := by intro _; rfl) : GT X Γ e k := fun σ H t Q q =>
  toT (pt_val (pe e) he) (h σ H t _ fun v H1 e1 h1 => ⟨k, h1, q H1 e1⟩)
theorem gt_not {k : Bool} (h : GT X Γ e k) : GT X Γ (.UnaryOp .Not e pos) (!k) := fun σ H t Q q => toT (pt_not (pt e)) (h σ H t _ fun H1 e1 => q H1 e1)
end
end RL

set_option Elab.async false
set_option linter.all false
set_option maxRecDepth 100000
set_option maxHeartbeats 4000000
/-! RL2: promises of defs, calls, fields, statements, loops -/
namespace RL
open PySem PySem.Spec PyProof.Rows L2

/-! ### promises -/
/-- of arguments of such types a value of such a type comes; all that was tracked stays -/
def spG {α : Type} (A : α → List Ty) (R : α → Ty) : Sp := fun vs H Q _ => ∃ a, All2 (A a) vs H ∧ ∀ v H', Ex H H' → R a v H' → Q v H'
/-- a def of the module that keeps a promise -/
structure FnG (P : Program) (w : World) (K : PySem.W.Frag) (mg : Str → Option Value) (base : Heap) (k : Nat) (x : Str) (ps : List Str) (sp : Sp) : Prop where
  ex : ∃ f fd, FnOk P w K mg base CX0 k f fd ps sp ∧ mg x = some (.ref f) ∧ PySem.W.keepIn K (.ref f) = true ∧ Binds K fd ps []
/-- what the classes in Cs have in common: the method m, its def keeps a promise -/
structure MtG (P : Program) (w : World) (K : PySem.W.Frag) (mg : Str → Option Value) (base : Heap) (k : Nat) (Cs : Addr → Prop) (m : Str) (ps : List Str) (sp : Sp) : Prop where
  ex : ∀ C, Cs C → ∃ f fd, FnOk P w K mg base CX0 k f fd ps sp ∧ Cls K C ∧ Meth K C m f ∧ Binds K fd ps []
section
variable {X : Cx} {Γ : Ctx} {e o a b c : Expr} {es : List Expr} {T U : Ty} {Ts : List Ty} {pos p apos : Pos} {x m : Str} {α : Type} {A : α → List Ty} {R : α → Ty} {k : Nat} {ps : List Str}
theorem g_call (F : FnG X.prog X.w X.K X.mg X.base k x ps (spG A R)) (hr : Room k X.A) (i : α) (ha : GA X Γ (e :: es) Ts) (hT : ∀ vs H, All2 Ts vs H → All2 (A i) vs H := by exact fun _ _ h => h)
    (hg : Gl X x := by rfl) (hdb : (x == ("__debug__" : Str)) = false := by decide) (he : starEach (e :: es) X.env = (false, eval e X.env) :: starEach es X.env := by first | exact se_cons rfl | exact se_one rfl | exact se_two rfl rfl | rfl) (hpl : (backTo pos (starEach es X.env)).any (·.1) = false := by first | exact se_any rfl | rfl) {T' : Ty} (hR : R i = T' := by rfl) :
    G X Γ (.Call (.Name x p) (e :: es) [] pos) T' := fun σ H t Q q => by
  subst hR
  obtain ⟨f, fd, F, hm, hk, hb⟩ := F.ex
  refine toE (pe_call F hr hg hm hk hb .nil pass0 (pa _) hdb he hpl) (ha σ H t _ fun vs H1 e1 h1 => ?_)
  rw [List.append_nil]
  exact ⟨i, hT _ _ h1, fun v H2 e2 h2 => q v H2 (e1.trans e2) h2⟩
theorem g_call0 (F : FnG X.prog X.w X.K X.mg X.base k x ps (spG A R)) (hr : Room k X.A) (i : α) (hT : ∀ H, All2 (A i) [] H := by exact fun _ => trivial)
    (hg : Gl X x := by rfl) (hdb : (x == ("__debug__" : Str)) = false := by decide) {T' : Ty} (hR : R i = T' := by rfl) : G X Γ (.Call (.Name x p) [] [] pos) T' := fun σ H t Q q => by
  subst hR
  obtain ⟨f, fd, F, hm, hk, hb⟩ := F.ex
  exact toE (pe_call0 F hr hg hm hk hb .nil pass0 hdb) ⟨i, hT _, fun v H2 e2 h2 => q v H2 e2 h2⟩
/-- an instance of one of the classes in Cs, without the attribute m of its own -/
def InsOf (Cs : Addr → Prop) (m : Str) (v : V) (H : Hp) : Prop := ∃ a C dx fs, v = .ref a ∧ H a = some (.ins C dx fs) ∧ Cs C ∧ fs.lookup m = none
theorem e_meth {pl : Sem Bool} {sp : Sp} {σ : L2.St} {H : Hp} {Q : VK} {Cs : Addr → Prop} (F : MtG X.prog X.w X.K X.mg X.base k Cs m ps sp) (hr : Room k X.A)
    (ht : eval (.Call (.Attribute o m apos) (e :: es) [] pos) X.env = (do
      let ov ← eval o X.env
      standAt apos.atName
      let (f, first) ← holding [ov] (getMethod ov m pl)
      callWith pos f first (backTo pos (starEach (e :: es) X.env)) (backToKw pos (keywordEach [] X.env))))
    (hst : starEach (e :: es) X.env = (false, eval e X.env) :: starEach es X.env) (hpl : (backTo pos (starEach es X.env)).any (·.1) = false)
    (h : tE X o σ H fun v H1 => InsOf Cs m v H1 ∧ tA X (e :: es) σ H1 fun vs H2 => sp (v :: vs) H2 Q E0) : tE X (.Call (.Attribute o m apos) (e :: es) [] pos) σ H Q := by
  refine ⟨fun pins s I => ?_⟩
  refine PySem.W.methodCall_KW (pl := pl) (thn (h.run pins s I) fun u s1 hh => ?_) ht
  obtain ⟨v, H1, I1, rx, ⟨a, C, dx, fs, ev, ea, hc, l⟩, q⟩ := hh
  subst ev
  obtain rfl : u = Value.ref a := rx
  obtain ⟨f, fd, F, c, hm, hb⟩ := F.ex C hc
  refine getmeth_ok I1 ea c hm l (PySem.W.callWith_K (first := [.ref a]) (h₀ := X.base) I.ok.mod.kin hm.kp (thn (q.run pos pins s1 I1) fun us s2 hh => ?_) hst hpl)
  obtain ⟨vs, H2, I2, r2, q2⟩ := hh
  refine ⟨I2.kIn, run_fn (us := .ref a :: us) (vs := .ref a :: vs) F hr hb .nil pass0 I2 (.cons rfl r2) ?_⟩
  rw [List.append_nil]
  exact q2
theorem e_meth0 {pl : Sem Bool} {sp : Sp} {σ : L2.St} {H : Hp} {Q : VK} {Cs : Addr → Prop} (F : MtG X.prog X.w X.K X.mg X.base k Cs m ps sp) (hr : Room k X.A)
    (ht : eval (.Call (.Attribute o m apos) [] [] pos) X.env = (do
      let ov ← eval o X.env
      standAt apos.atName
      let (f, first) ← holding [ov] (getMethod ov m pl)
      callWith pos f first (backTo pos (starEach [] X.env)) (backToKw pos (keywordEach [] X.env))))
    (h : tE X o σ H fun v H1 => InsOf Cs m v H1 ∧ sp [v] H1 Q E0) : tE X (.Call (.Attribute o m apos) [] [] pos) σ H Q := by
  refine ⟨fun pins s I => ?_⟩
  refine PySem.W.methodCall_KW (pl := pl) (thn (h.run pins s I) fun u s1 hh => ?_) ht
  obtain ⟨v, H1, I1, rx, ⟨a, C, dx, fs, ev, ea, hc, l⟩, q⟩ := hh
  subst ev
  obtain rfl : u = Value.ref a := rx
  obtain ⟨f, fd, F, c, hm, hb⟩ := F.ex C hc
  exact getmeth_ok I1 ea c hm l (PySem.W.callWith_K0 (first := [.ref a]) I1.kIn hm.kp (run_fn (us := [.ref a]) (vs := [.ref a]) F hr hb .nil pass0 I1 (.cons rfl .nil) q))
/-- o.m(e, ..) -/
theorem g_meth {pl : Sem Bool} {Cs : Addr → Prop} (F : MtG X.prog X.w X.K X.mg X.base k Cs m ps (spG A R)) (hr : Room k X.A) (i : α) (ho : G X Γ o T) (ha : GA X Γ (e :: es) Ts) (hI : ∀ v H, T v H → InsOf Cs m v H) (hT : ∀ v vs H, T v H → All2 Ts vs H → All2 (A i) (v :: vs) H := by exact fun _ _ _ h h' => ⟨h, h'⟩)
    (ht : eval (.Call (.Attribute o m apos) (e :: es) [] pos) X.env = (do
      let ov ← eval o X.env
      standAt apos.atName
      let (f, first) ← holding [ov] (getMethod ov m pl)
      callWith pos f first (backTo pos (starEach (e :: es) X.env)) (backToKw pos (keywordEach [] X.env))) := by rfl)
    (hst : starEach (e :: es) X.env = (false, eval e X.env) :: starEach es X.env := by first | exact se_cons rfl | exact se_one rfl | exact se_two rfl rfl | rfl) (hpl : (backTo pos (starEach es X.env)).any (·.1) = false := by first | exact se_any rfl | rfl) {T' : Ty} (hR : R i = T' := by rfl) : G X Γ (.Call (.Attribute o m apos) (e :: es) [] pos) T' := fun σ H t Q q => by
  subst hR
  exact e_meth F hr ht hst hpl (ho σ H t _ fun v H1 e1 h1 => ⟨hI v H1 h1, ha σ H1 (t.up e1) _ fun vs H2 e2 h2 => ⟨i, hT v vs H2 (T.up e2 h1) h2, fun w H3 e3 h3 => q w H3 ((e1.trans e2).trans e3) h3⟩⟩)
/-- o.m() -/
theorem g_meth0 {pl : Sem Bool} {Cs : Addr → Prop} (F : MtG X.prog X.w X.K X.mg X.base k Cs m ps (spG A R)) (hr : Room k X.A) (i : α) (ho : G X Γ o T) (hI : ∀ v H, T v H → InsOf Cs m v H) (hT : ∀ v H, T v H → All2 (A i) [v] H := by exact fun _ _ h => ⟨h, trivial⟩)
    (ht : eval (.Call (.Attribute o m apos) [] [] pos) X.env = (do
      let ov ← eval o X.env
      standAt apos.atName
      let (f, first) ← holding [ov] (getMethod ov m pl)
      callWith pos f first (backTo pos (starEach [] X.env)) (backToKw pos (keywordEach [] X.env))) := by rfl) {T' : Ty} (hR : R i = T' := by rfl) : G X Γ (.Call (.Attribute o m apos) [] [] pos) T' := fun σ H t Q q => by
  subst hR
  exact e_meth0 F hr ht (ho σ H t _ fun v H1 e1 h1 => ⟨hI v H1 h1, i, hT v H1 h1, fun w H3 e3 h3 => q w H3 (e1.trans e3) h3⟩)
/-- o.f, a field of an instance -/
theorem g_fld {f : Str} (ho : G X Γ o T) (hf : ∀ v H, T v H → ∃ a C dx fs w, v = .ref a ∧ H a = some (.ins C dx fs) ∧ Cls X.K C ∧ NoAttr X.K C f ∧ fs.lookup f = some w ∧ U w H)
    (hb : attributeBase o f X.env (eval o X.env) = eval o X.env := by rfl) : G X Γ (.Attribute o f pos) U := fun σ H t Q q =>
  toE (pe_fld (pe o) hb) (ho σ H t _ fun v H1 e1 h1 => by
    obtain ⟨a, C, dx, fs, w, h2, h3, h4, h5, h6, h7⟩ := hf v H1 h1
    exact ⟨a, C, dx, fs, w, h2, h3, h4, h5, h6, q w H1 e1 h7⟩)

/-! ### statements -/
/-- what is kept: all of the heap at the entry, and of a later heap what is not mutable -/
structure Bs where
  e : Hp
  l : Hp
def Bs.ok (B : Bs) (H : Hp) : Prop := Ex B.e H ∧ Le B.l H
def Bs.of (H : Hp) : Bs := ⟨H, H⟩
/-- the same entry, a later heap -/
def Bs.at (B : Bs) (H : Hp) : Bs := ⟨B.e, H⟩
theorem Bs.up {B : Bs} {H H' : Hp} (h : B.ok H) (e : Ex H H') : B.ok H' := ⟨h.1.trans e, h.2.trans e.le⟩
theorem Bs.ok.trans {B : Bs} {H H' : Hp} (h : B.ok H) (e : Ex H H') : B.ok H' := ⟨h.1.trans e, h.2.trans e.le⟩
theorem Bs.here {B : Bs} {H : Hp} (h : B.ok H) : (B.at H).ok H := ⟨h.1, Le.refl H⟩
theorem Bs.back {B : Bs} {H1 H : Hp} (h : B.ok H1) (k : (B.at H1).ok H) : B.ok H := ⟨k.1, h.2.trans k.2⟩
theorem Bs.refl (H : Hp) : (Bs.of H).ok H := ⟨Ex.refl H, Le.refl H⟩
/-- from such a context, with the heap H0 at the entry -/
def Bd (X : Cx) (Γ : Ctx) (sts : List Stmt) (B : Bs) (D : Ends) : Prop := ∀ σ H, B.ok H → Typed σ Γ H → tB X sts D σ H
def Sd (X : Cx) (Γ : Ctx) (st : Stmt) (B : Bs) (D : Ends) : Prop := ∀ σ H, B.ok H → Typed σ Γ H → tS X st D σ H
variable {H0 : Bs} {D : Ends} {st : Stmt} {rest body orelse : List Stmt}
theorem tB_cons {σ : L2.St} {H : Hp} (h : tS X st { D with nx := tB X rest D } σ H) : tB X (st :: rest) D σ H := toB (pss_cons (ps st) (pb rest)) h
theorem b_cons (h : Sd X Γ st H0 { D with nx := tB X rest D }) : Bd X Γ (st :: rest) H0 D := fun σ H e t => tB_cons (h σ H e t)
theorem b_nil (h : ∀ σ H, H0.ok H → Typed σ Γ H → D.nx σ H) : Bd X Γ [] H0 D := fun σ H e t => toB pss_nil (h σ H e t)
/-- what follows, from the context behind -/
theorem Bd.nx (h : Bd X Γ rest H0 D) : ∀ σ H, H0.ok H → Typed σ Γ H → tB X rest D σ H := h
theorem b_weak {Δ : Ctx} (h : Bd X Δ rest H0 D) (w : ∀ σ H, Typed σ Γ H → Typed σ Δ H) : Bd X Γ rest H0 D := fun σ H e t => h σ H e (w σ H t)
/-- x = e -/
theorem b_asg (i : Nat) (he : G X Γ e T) (h : Bd X (Γ.set i (some T)) rest H0 D) {p' : Pos} (hN : X.N.Nodup := by first | assumption | decide) (hi : X.N[i]? = some x := by rfl) (hx : Loc X.env.scope x := by first | exact Or.inl rfl | exact Or.inr rfl)
    (hs : swapsWith e (some (.Name x p')) pos.line X.env = pure false := by rfl) (hf : X.fn x = true ∨ X.env.scope.names.lookup x = some .local := by first | exact .inl rfl | exact .inr rfl) : Bd X Γ (.Assign [.Name x p'] e pos :: rest) H0 D :=
  b_cons fun σ H e0 t => toS (ps_set (i := i) hN hi hx (pe e) hs hf) (he σ H t _ fun v H1 e1 h1 => h _ _ (e0.trans e1) ((t.up e1).set i h1))
/-- x = e, e of some type of a family -/
theorem b_asgX {β : Sort u} {F : β → Ty} (i : Nat) (he : G X Γ e (exT F)) (h : ∀ z, Bd X (Γ.set i (some (F z))) rest H0 D) {p' : Pos} (hN : X.N.Nodup := by first | assumption | decide) (hi : X.N[i]? = some x := by rfl) (hx : Loc X.env.scope x := by first | exact Or.inl rfl | exact Or.inr rfl)
    (hs : swapsWith e (some (.Name x p')) pos.line X.env = pure false := by rfl) (hf : X.fn x = true ∨ X.env.scope.names.lookup x = some .local := by first | exact .inl rfl | exact .inr rfl) : Bd X Γ (.Assign [.Name x p'] e pos :: rest) H0 D :=
  b_cons fun σ H e0 t => toS (ps_set (i := i) hN hi hx (pe e) hs hf) (he σ H t _ fun v H1 e1 ⟨z, h1⟩ => h z _ _ (e0.trans e1) ((t.up e1).set i h1))
/-- return e -/
theorem b_ret (he : G X Γ e T) (h : ∀ v H', H0.ok H' → T v H' → D.rt v H') : Bd X Γ (.Return (some e) pos :: rest) H0 D := b_cons fun σ H e0 t => toS (ps_ret (pe e)) (he σ H t _ fun v H1 e1 h1 => h v H1 (e0.trans e1) h1)
theorem b_expr (he : G X Γ e T) (h : Bd X Γ rest H0 D) (hs : swapsWith e none pos.line X.env = pure false := by rfl) : Bd X Γ (.Expr e pos :: rest) H0 D :=
  b_cons fun σ H e0 t => toS (ps_expr (pe e) hs) (he σ H t _ fun v H1 e1 h1 => h _ _ (e0.trans e1) (t.up e1))
theorem b_if {k : Bool} (hc : GT X Γ c k) (h1 : k = true → Bd X Γ body H0 { D with nx := tB X rest D }) (h2 : k = false → Bd X Γ orelse H0 { D with nx := tB X rest D }) : Bd X Γ (.If c body orelse pos :: rest) H0 D :=
  b_cons fun σ H e0 t => toS (ps_if (pt c) (pb body) (pb orelse)) (hc σ H t _ fun H1 e1 => by
    cases k with
    | true => exact iteT (h1 rfl _ _ (e0.trans e1) (t.up e1))
    | false => exact iteF (h2 rfl _ _ (e0.trans e1) (t.up e1)))
/-- what an assignment to a target makes of the context -/
def Tgt (g : TG) (T : Ty) (Δ Δ2 : Ctx) : Prop := ∀ v σ H (Q : L2.St → Hp → Prop), T v H → Typed σ Δ H → (∀ σ2, Typed σ2 Δ2 H → Q σ2 H) → g v σ H Q
theorem tgt_name {j : Nat} {Δ : Ctx} : Tgt (gName j) T Δ (Δ.set j (some T)) := fun v σ H Q h t q => q _ (t.set j h)
theorem tgts2 {K : PySem.W.Frag} {i j : Nat} {Δ : Ctx} {T1 T2 : Ty} : Tgt (gTup K 2 (gCons (gName i) (gCons (gName j) gNil))) (tupT K [T1, T2]) Δ ((Δ.set i (some T1)).set j (some T2)) := fun v σ H Q h t q => by
  obtain ⟨a, vs, ev, ht, h2⟩ := h
  match vs, h2 with
  | [v1, v2], ⟨h1, h2, _⟩ => exact ⟨a, _, ev, ht.sq, rfl, _, _, rfl, _, _, rfl, rfl, q _ ((t.set i h1).set j h2)⟩
theorem tgts3 {K : PySem.W.Frag} {i j l : Nat} {Δ : Ctx} {T1 T2 T3 : Ty} : Tgt (gTup K 3 (gCons (gName i) (gCons (gName j) (gCons (gName l) gNil)))) (tupT K [T1, T2, T3]) Δ (((Δ.set i (some T1)).set j (some T2)).set l (some T3)) := fun v σ H Q h t q => by
  obtain ⟨a, vs, ev, ht, h2⟩ := h
  match vs, h2 with
  | [v1, v2, v3], ⟨h1, h2, h3, _⟩ => exact ⟨a, _, ev, ht.sq, rfl, _, _, rfl, _, _, rfl, _, _, rfl, rfl, q _ (((t.set i h1).set j h2).set l h3)⟩
/-- the ends of a loop's turn: W the next turn's contexts, base H1 -/
def turnD (D : Ends) (X : Cx) (rest : List Stmt) (H1 : Bs) (Ok : Ctx → Prop) : Ends := { D with nx := fun σ H => ∃ Δ, Ok Δ ∧ H1.ok H ∧ Typed σ Δ H, ct := fun σ H => ∃ Δ, Ok Δ ∧ H1.ok H ∧ Typed σ Δ H, bk := tB X rest D }
theorem turn_nx {H1 : Bs} {Ok : Ctx → Prop} (h : Ok Γ) : Bd X Γ [] H1 (turnD D X rest H1 Ok) := b_nil fun σ H e t => ⟨Γ, h, e, t⟩
/-! what is walked -/
/-- items of these types, from a heap on -/
def Turns (J : It) (H1 : Hp) (Ts : List Ty) : Prop := ∀ i H', Le H1 H' → (i < Ts.length → J.go i H' ∧ ∀ x H2, J.yld i H' x H2 → Ex H' H2 ∧ ∃ T : Ty, Ts[i]? = some T ∧ T x H2) ∧ (i = Ts.length → J.stop i H')
structure TIs (X : Cx) (tg iter : Expr) (σ : L2.St) (H : Hp) (Q : It → Hp → Prop) : Prop where
  run : ∀ pins s, Inv X pins σ H s → wpAny (model X.prog X.w) X.A (eval iter X.env) (fun v s1 => wpAny (model X.prog X.w) X.A (pyIter v) (PIE X pins σ tg Q) X.xe s1) X.xe s
abbrev tI (X : Cx) (tg iter : Expr) : TI := fun σ H Q => TIs X tg iter σ H Q
theorem pi {tg iter : Expr} : PI X tg iter (tI X tg iter) := ⟨fun pins s _ _ _ I h => h.run pins s I⟩
theorem toI {tg iter : Expr} {t : TI} (q : PI X tg iter t) {σ : L2.St} {H : Hp} {Q : It → Hp → Prop} (h : t σ H Q) : tI X tg iter σ H Q := ⟨fun pins s I => q.run pins s σ H Q I h⟩
def GI (X : Cx) (Γ : Ctx) (tg iter : Expr) (Ts : List Ty) : Prop := ∀ σ H, Typed σ Γ H → ∀ Q : It → Hp → Prop, (∀ J H1, Ex H H1 → Turns J H1 Ts → Q J H1) → tI X tg iter σ H Q
theorem gi_list [hS : Stbs Ts] {tg it : Expr} (h : G X Γ it (lstT Ts)) : GI X Γ tg it Ts := fun σ H t Q q => toI (pi_list (pe it)) (h σ H t _ fun v H1 e1 ⟨a, vs, ev, hl, h2⟩ => by
  subst ev
  have up : ∀ {H'}, Le H1 H' → SqL X.K H' a vs := fun e => (hl.le e).sq
  refine ⟨a, rfl, ⟨vs, hl.sq⟩, q _ H1 e1 fun i H' e => ⟨fun hi => ?_, fun hi => ⟨vs, up e, by rw [hi, h2.len]; exact Nat.le_refl _⟩⟩⟩
  obtain ⟨v, hv, tv⟩ := (hS.le e h2).get (List.getElem?_eq_getElem hi)
  refine ⟨⟨vs, v, up e, hv⟩, fun x H2 hy => ?_⟩
  obtain ⟨eH, hx⟩ := hy
  subst eH
  have hx' := hx vs (up e)
  rw [hv] at hx'; cases hx'
  exact ⟨Ex.refl _, _, List.getElem?_eq_getElem hi, tv⟩)
theorem gi_tup [hS : Stbs Ts] {tg it : Expr} (h : G X Γ it (tupT X.K Ts)) : GI X Γ tg it Ts := fun σ H t Q q => toI (pi_tup (pe it)) (h σ H t _ fun v H1 e1 ⟨a, vs, ev, hl, h2⟩ => by
  subst ev
  have up : ∀ {H'}, Le H1 H' → SqT X.K H' a vs := fun e => (hl.le e).sq
  refine ⟨a, rfl, ⟨vs, hl.sq⟩, q _ H1 e1 fun i H' e => ⟨fun hi => ?_, fun hi => ⟨vs, up e, by rw [hi, h2.len]; exact Nat.le_refl _⟩⟩⟩
  obtain ⟨v, hv, tv⟩ := (hS.le e h2).get (List.getElem?_eq_getElem hi)
  refine ⟨⟨vs, v, up e, hv⟩, fun x H2 hy => ?_⟩
  obtain ⟨eH, hx⟩ := hy
  subst eH
  have hx' := hx vs (up e)
  rw [hv] at hx'; cases hx'
  exact ⟨Ex.refl _, _, List.getElem?_eq_getElem hi, tv⟩)
def rngT (lo : Int) (n : Nat) : List Ty := (List.range n).map fun (i : Nat) => intT (lo + (i : Int))
theorem rngT_len {lo : Int} {n : Nat} : (rngT lo n).length = n := by simp [rngT]
theorem rngT_get {lo : Int} {n i : Nat} (h : i < n) : (rngT lo n)[i]? = some (intT (lo + (i : Int))) := by simp [rngT, List.getElem?_map, List.getElem?_range h]
theorem turns_rng {lo : Int} {n : Nat} {H1 : Hp} : Turns (Itr lo n) H1 (rngT lo n) := fun i H' e => ⟨fun hi => by
  rw [rngT_len] at hi
  exact ⟨hi, fun x H2 hy => by
    obtain ⟨eH, hx⟩ := hy
    subst eH
    exact ⟨Ex.refl _, _, rngT_get hi, hx⟩⟩, fun hi => by rw [hi, rngT_len]; exact Nat.le_refl _⟩
theorem gi_rng1 {tg : Expr} {p2 : Pos} {n : Int} (h : G X Γ a (intT n)) (hm : X.mg "range" = none) (hn : -(2 ^ 62) ≤ n ∧ n < 2 ^ 62 := by decide) (hg : Gl X "range" := by rfl) (hst : starEach [a] X.env = [(false, eval a X.env)] := by first | exact se_cons rfl | exact se_one rfl | exact se_two rfl rfl | rfl) :
    GI X Γ tg (.Call (.Name "range" p) [a] [] p2) (rngT 0 n.toNat) := fun σ H t Q q => toI (pi_range1 hg hm (pa_cons (pe a) pa_nil hst) hst) (h σ H t _ fun v H1 e1 hv => by
  have hv' : v = .int n := hv
  subst hv'
  exact ⟨n, rfl, hn.1, hn.2, q _ H1 e1 turns_rng⟩)
theorem gi_rng2 {tg : Expr} {p2 : Pos} {lo n : Int} (ha : G X Γ a (intT lo)) (hb : G X Γ b (intT n)) (hm : X.mg "range" = none) (hn : -(2 ^ 62) ≤ lo ∧ lo < 2 ^ 62 ∧ -(2 ^ 62) ≤ n ∧ n < 2 ^ 62) (hg : Gl X "range" := by rfl) (hst : starEach [a, b] X.env = [(false, eval a X.env), (false, eval b X.env)] := by first | exact se_cons rfl | exact se_one rfl | exact se_two rfl rfl | rfl) (hst2 : starEach [b] X.env = [(false, eval b X.env)] := by first | exact se_cons rfl | exact se_one rfl | exact se_two rfl rfl | rfl) :
    GI X Γ tg (.Call (.Name "range" p) [a, b] [] p2) (rngT lo (n - lo).toNat) := fun σ H t Q q => toI (pi_range2 hg hm (pa_cons (pe a) (pa_cons (pe b) pa_nil hst2) (by rw [hst, hst2])) hst hst2) (ha σ H t _ fun v H1 e1 hv => hb σ H1 (t.up e1) _ fun v2 H2 e2 hv2 => by
  have hv' : v = .int lo := hv
  have hv2' : v2 = .int n := hv2
  subst hv'; subst hv2'
  exact ⟨lo, n, rfl, hn, q _ H2 (e1.trans e2) turns_rng⟩)
/-- a frozen dict of such pairs -/
def dicT (kvs : List (Key × V)) : Ty := ⟨fun v H => ∃ a o, v = .ref a ∧ H a = some (.frz o (.dK kvs)), fun {v H H'} e ⟨a, o, h1, h2⟩ => ⟨a, o, h1, e a _ h2⟩⟩
instance (kvs : List (Key × V)) : Stb (dicT kvs) := ⟨fun e ⟨a, o, h1, h2⟩ => ⟨a, o, h1, e a _ (by exact fun z => z) h2⟩⟩
def keysT (kvs : List (Key × V)) : List Ty := kvs.map fun q => valT (kV q.1)
theorem gi_keys {tg it : Expr} {kvs : List (Key × V)} (h : G X Γ it (dicT kvs)) : GI X Γ tg it (keysT kvs) := fun σ H t Q q => toI (pi_keys (pe it)) (h σ H t _ fun v H1 e1 ⟨d, o, ev, hd⟩ => by
  subst ev
  refine ⟨d, o, rfl, .inl ⟨kvs, hd, q _ H1 e1 fun i H' e => ⟨fun hi => ⟨⟨e _ _ (by exact fun z => z) hd, by simpa [keysT] using hi⟩, fun x H2 hy => ?_⟩, fun hi => ⟨e _ _ (by exact fun z => z) hd, by rw [hi]; simp [keysT]⟩⟩⟩⟩
  obtain ⟨eH, k, v, hk, hx⟩ := hy
  subst eH
  exact ⟨Ex.refl _, valT (kV k), by simp [keysT, hk], hx⟩)
/-- for x in .. -/
theorem b_for {it tg : Expr} {g : TG} (Ok : Nat → Ctx → Prop) (hi : GI X Γ tg it Ts) (hg : PG X tg g) (h0 : Ok 0 Γ)
    (hs : ∀ (H1 : Hp) (i : Nat) (T : Ty) (Δ : Ctx), H0.ok H1 → Ts[i]? = some T → Ok i Δ → ∃ Δ2, Tgt g T Δ Δ2 ∧ Bd X Δ2 body (H0.at H1) (turnD D X rest (H0.at H1) (Ok (i + 1))))
    (hd : ∀ Δ, Ok Ts.length Δ → Bd X Δ rest H0 D) (hc : X.calm = true := by rfl) (hp : PassesOwn (model X.prog X.w) X.A X.env X.xe := by exact PassesOwn.never) (hf : ∀ x, foldedSetIterable it X.env x = pure x := by intro _; rfl) : Bd X Γ (.For tg it body [] pos :: rest) H0 D :=
  b_cons fun σ H e0 t => toS (ps_for hp hc pi hg (pb body) hf) (hi σ H t _ fun J H1 e1 tn => by
    have b1 : H0.ok H1 := Bs.up e0 e1
    refine ⟨fun i m σ H => i ≤ Ts.length ∧ m = Ts.length - i ∧ ∃ Δ, Ok i Δ ∧ (H0.at H1).ok H ∧ Typed σ Δ H, ⟨_, Nat.zero_le _, rfl, Γ, h0, Bs.here b1, t.up e1⟩, ?_⟩
    rintro i m σ H ⟨hi, rfl, Δ, ok, e2, t2⟩
    obtain ⟨t3, t4⟩ := tn i H e2.2
    by_cases c : i < Ts.length
    · obtain ⟨go, yl⟩ := t3 c
      refine .inr ⟨go, fun σ H => ∃ Δ, Ok (i + 1) Δ ∧ (H0.at H1).ok H ∧ Typed σ Δ H, fun σ' H' h => ⟨Ts.length - (i + 1), by omega, by omega, rfl, h⟩, fun x H' hy => ?_⟩
      obtain ⟨e3, T, hT, hx⟩ := yl x H' hy
      obtain ⟨Δ2, tg, bd⟩ := hs H1 i T Δ b1 hT ok
      exact tg x σ H' _ hx (t2.up e3) fun σ2 t3 => bd σ2 H' (Bs.up e2 e3) t3
    · have hi' : i = Ts.length := by omega
      refine .inl ⟨t4 hi', ?_⟩
      rw [hi'] at ok
      exact hd Δ ok σ H (Bs.back b1 e2) t2)

/-! ### comprehensions -/
/-- what the block of a comprehension is run in, whatever the block's own addresses are -/
def GC (X : Cx) (scope : Scope) (Γ : Ctx) (e : Expr) (T : Ty) : Prop := ∀ (s : Shared) (H : Hp) (C : Addr) (cl : List (Str × Addr)) (fp : List Addr), G (X.blk s H scope (compEnvC scope cl C X.env) fp) Γ e T
def GCTs (X : Cx) (scope : Scope) (Γ : Ctx) (ifs : List Expr) (b : Bool) : Prop := ∀ (s : Shared) (H : Hp) (C : Addr) (cl : List (Str × Addr)) (fp : List Addr) σ H1, Typed σ Γ H1 → ∀ Q : Bool → Hp → Prop, (∀ H', Ex H1 H' → Q b H') → tTs (X.blk s H scope (compEnvC scope cl C X.env) fp) ifs σ H1 Q
theorem gct_nil {scope : Scope} : GCTs X scope Γ [] true := fun s H C cl fp σ H1 t Q q => toTs pts_nil (q H1 (Ex.refl H1))
theorem gct_one {scope : Scope} {k : Bool} (h : ∀ (s : Shared) (H : Hp) (C : Addr) (cl : List (Str × Addr)) (fp : List Addr), GT (X.blk s H scope (compEnvC scope cl C X.env) fp) Γ c k) : GCTs X scope Γ [c] k := fun s H C cl fp σ H1 t Q q => toTs (pts_one (pt c)) (h s H C cl fp σ H1 t Q q)
/-- what is kept of the items, from the left -/
def keptT : List (Option Ty) → List Ty := fun l => l.filterMap id
theorem keptT_take {l : List (Option Ty)} {i : Nat} {o : Option Ty} (h : l[i]? = some o) : keptT (l.take (i + 1)) = keptT (l.take i) ++ o.toList := by
  unfold keptT
  rw [List.take_succ, h, List.filterMap_append]
  cases o <;> rfl
theorem keptT_stb {l : List (Option Ty)} (h : ∀ R, some R ∈ l → Stb R) (i : Nat) : Stbs (keptT (l.take i)) := stbs_of fun T hT => by
  obtain ⟨o, ho, e⟩ := List.mem_filterMap.mp hT
  have e' : o = some T := e
  subst e'
  exact h T (List.mem_of_mem_take ho)
theorem keptT_len (l : List (Option Ty)) (i : Nat) : (keptT (l.take i)).length ≤ i := Nat.le_trans (List.length_filterMap_le _ _) (by rw [List.length_take]; exact Nat.min_le_left _ _)
/-- the block's element, test and target as readings -/
def tCE (X : Cx) (scope : Scope) (e : Expr) : TE := fun σ H1 Q => ∀ (s : Shared) (H : Hp) (C : Addr) (cl : List (Str × Addr)) (fp : List Addr), tE (X.blk s H scope (compEnvC scope cl C X.env) fp) e σ H1 Q
def tCT (X : Cx) (scope : Scope) (ifs : List Expr) : TT := fun σ H1 Q => ∀ (s : Shared) (H : Hp) (C : Addr) (cl : List (Str × Addr)) (fp : List Addr), tTs (X.blk s H scope (compEnvC scope cl C X.env) fp) ifs σ H1 Q
/-- a target whose names are the block's own -/
def OwnTgt (g : TG) (own : List (Str × Nat)) : Prop := ∀ v σ H (Q : L2.St → Hp → Prop), g v (L2.wipe σ (own.map (·.2))) H Q → g v (L2.wipe σ (own.map (·.2))) H fun σ2 H2 => L2.wipe σ2 (own.map (·.2)) = L2.wipe σ (own.map (·.2)) ∧ Q σ2 H2
theorem own_name {y : Str} {i : Nat} : OwnTgt (gName i) [(y, i)] := fun v σ H Q h => ⟨by show ((σ.set i none).set i (some v)).set i none = σ.set i none; rw [List.set_set, List.set_set], h⟩
theorem own_tup2 {K : PySem.W.Frag} {y z : Str} {i j : Nat} (hij : i ≠ j) : OwnTgt (gTup K 2 (gCons (gName i) (gCons (gName j) gNil))) [(y, i), (z, j)] := fun v σ H Q h => by
  obtain ⟨a, xs, ev, ht, hl, v1, r1, e1, v2, r2, e2, e3, q⟩ := h
  refine ⟨a, xs, ev, ht, hl, v1, r1, e1, v2, r2, e2, e3, ?_, q⟩
  show (((((σ.set j none).set i none).set i (some v1)).set j (some v2)).set j none).set i none = (σ.set j none).set i none
  apply List.ext_getElem?
  intro n
  simp only [List.getElem?_set, List.length_set]
  by_cases h1 : i = n <;> by_cases h2 : j = n <;> simp_all
/-- [elt for tg in .. if ..]; rs tells for each item what is kept -/
theorem g_lcU {elt tg iter : Expr} {ifs : List Expr} {scope : Scope} {own : List (Str × Nat)} {g : TG} (rs : List (Option Ty)) (hi : GI X Γ tg iter Ts) (ok : BlkOk X.N X.env.scope scope own)
    (hg : ∀ (s : Shared) (H : Hp) (C : Addr) (cl : List (Str × Addr)) (fp : List Addr), PG (X.blk s H scope (compEnvC scope cl C X.env) fp) tg g)
    (hl : rs.length = Ts.length) (hz : Ts.length ≤ sizeLine)
    (hw : ∀ (i : Nat) (T : Ty), Ts[i]? = some T → ∃ Δ2, Tgt g T ((own.map (·.2)).foldr (fun v G => G.set v none) Γ) Δ2 ∧
      ((rs[i]? = some none ∧ GCTs X scope Δ2 ifs false) ∨ ∃ R, rs[i]? = some (some R) ∧ GCTs X scope Δ2 ifs true ∧ GC X scope Δ2 elt R))
    (hS : ∀ R, some R ∈ rs → Stb R)
    (hwipe : OwnTgt g own)
    (hc : X.calm = true := by rfl) (hN : X.N.Nodup := by first | assumption | decide) (hf : ∀ x, foldedSetIterable iter X.env x = pure x := by intro _; rfl) {σ : L2.St} {H : Hp} (t : Typed σ Γ H) {Q : VK}
    (q : ∀ D H' acc, Ex H H' → H D = none → H' D = some (.lst acc) → All2 (keptT rs) acc H' → Q (.ref D) H') : tE X (.ListComp elt [⟨tg, iter, ifs, 0⟩] scope pos) σ H Q := by
  refine toE (pe_lc (te := tCE X scope elt) (tt := tCT X scope ifs) (own := own) hc hN pi ok hg (fun s H C cl fp => ⟨fun pins s' σ H1 Q I h => (h s H C cl fp).run pins s' I⟩) (fun s H C cl fp => ⟨fun pins s' σ H1 Q I h => (h s H C cl fp).run pins s' I⟩) hf) ?_
  refine hi σ H t _ fun J H1 e1 tn => ?_
  intro Da hD
  have e1D : Ex H1 (upd H1 Da (.lst [])) := Ex.new hD
  refine ⟨fun i m H' => i ≤ Ts.length ∧ m = Ts.length - i ∧ Ex H1 H' ∧ ∃ acc, H' Da = some (.lst acc) ∧ All2 (keptT (rs.take i)) acc H', ⟨_, Nat.zero_le _, rfl, e1D, [], upd_same, by simp [keptT, All2]⟩, ?_⟩
  rintro i m H' ⟨hi', rfl, e2, acc, hacc, hA⟩
  obtain ⟨t3, t4⟩ := tn i H' e2.le
  by_cases c : i < Ts.length
  · obtain ⟨go, yl⟩ := t3 c
    refine .inr ⟨go, fun H' => Ex H1 H' ∧ ∃ acc, H' Da = some (.lst acc) ∧ All2 (keptT (rs.take (i + 1))) acc H', fun H' h => ⟨Ts.length - (i + 1), by omega, by omega, rfl, h⟩, fun v Hy hy => ?_⟩
    obtain ⟨ey, T, hT, hv⟩ := yl v Hy hy
    obtain ⟨Δ2, tg, alt⟩ := hw i T hT
    have tσ : Typed (L2.wipe σ (own.map (·.2))) ((own.map (·.2)).foldr (fun v G => G.set v none) Γ) Hy := Typed.wipe _ (t.up ((e1.trans e2).trans ey))
    refine hwipe v σ Hy _ (tg v _ Hy _ hv tσ fun σ2 t2 => ?_)
    have hlen : acc.length < sizeLine := by
      rw [← hA.len]
      exact Nat.lt_of_le_of_lt (keptT_len rs i) (Nat.lt_of_lt_of_le c hz)
    rcases alt with ⟨hr, hT⟩ | ⟨R, hr, hT, hE⟩
    · intro s0 H0 C cl fp
      refine hT s0 H0 C cl fp σ2 Hy t2 _ fun H3 e3 => ?_
      refine iteF ⟨e2.trans (ey.trans e3), acc, e3 _ _ (ey _ _ hacc), ?_⟩
      rw [keptT_take hr]
      simpa using hA.up (ey.trans e3)
    · intro s0 H0 C cl fp
      refine hT s0 H0 C cl fp σ2 Hy t2 _ fun H3 e3 => iteT ?_
      intro s1 H1' C1 cl1 fp1
      refine hE s1 H1' C1 cl1 fp1 σ2 H3 (t2.up e3) _ fun y H4 e4 hy => ⟨acc, e4 _ _ (e3 _ _ (ey _ _ hacc)), hlen, (e2.trans (ey.trans (e3.trans e4))).mut hD (e4 _ _ (e3 _ _ (ey _ _ hacc))), acc ++ [y], upd_same, ?_⟩
      rw [keptT_take hr]
      have hm := Le.mut (o := .lst (acc ++ [y])) (e4 _ _ (e3 _ _ (ey _ _ hacc))) trivial
      exact All2.append ((keptT_stb hS i).le ((ey.trans (e3.trans e4)).le.trans hm) hA) ⟨(hS R (List.mem_of_getElem? hr)).le hm hy, trivial⟩
  · have hi2 : i = Ts.length := by omega
    refine .inl ⟨t4 hi2, ?_⟩
    rw [hi2, ← hl, List.take_length] at hA
    exact q Da H' acc (e1.trans e2) (e1.free hD) hacc hA
/-- the same, the list frozen at once -/
theorem g_lc {elt tg iter : Expr} {ifs : List Expr} {scope : Scope} {own : List (Str × Nat)} {g : TG} (rs : List (Option Ty)) (hi : GI X Γ tg iter Ts) (ok : BlkOk X.N X.env.scope scope own)
    (hg : ∀ (s : Shared) (H : Hp) (C : Addr) (cl : List (Str × Addr)) (fp : List Addr), PG (X.blk s H scope (compEnvC scope cl C X.env) fp) tg g)
    (hl : rs.length = Ts.length) (hz : Ts.length ≤ sizeLine)
    (hw : ∀ (i : Nat) (T : Ty), Ts[i]? = some T → ∃ Δ2, Tgt g T ((own.map (·.2)).foldr (fun v G => G.set v none) Γ) Δ2 ∧
      ((rs[i]? = some none ∧ GCTs X scope Δ2 ifs false) ∨ ∃ R, rs[i]? = some (some R) ∧ GCTs X scope Δ2 ifs true ∧ GC X scope Δ2 elt R))
    (hS : ∀ R, some R ∈ rs → Stb R)
    (hwipe : OwnTgt g own) {T' : Ty} (hR : lstT (keptT rs) = T')
    (hc : X.calm = true := by rfl) (hN : X.N.Nodup := by first | assumption | decide) (hf : ∀ x, foldedSetIterable iter X.env x = pure x := by intro _; rfl) : G X Γ (.ListComp elt [⟨tg, iter, ifs, 0⟩] scope pos) T' := hR ▸ fun σ H t Q q =>
  tE_frz (g_lcU rs hi ok hg hl hz hw hS hwipe hc hN hf t fun D H' acc e hD hacc hA => ⟨D, _, hacc, trivial, fun od => q _ _ (e.mut hD hacc) ⟨D, acc, rfl, ⟨od, upd_same⟩, by
    have z := keptT_stb hS rs.length
    rw [List.take_length] at z
    exact z.le (Le.mut hacc trivial) hA⟩⟩)
/-- {k: v for tg in .. if ..}; rs tells for each item what is kept -/
theorem g_dcU {kx vx tg iter : Expr} {ifs : List Expr} {scope : Scope} {own : List (Str × Nat)} {g : TG} (rs : List (Option (Key × V))) (hi : GI X Γ tg iter Ts) (ok : BlkOk X.N X.env.scope scope own)
    (hg : ∀ (s : Shared) (H : Hp) (C : Addr) (cl : List (Str × Addr)) (fp : List Addr), PG (X.blk s H scope (compEnvC scope cl C X.env) fp) tg g)
    (hl : rs.length = Ts.length) (hz : Ts.length ≤ sizeLine)
    (hw : ∀ (i : Nat) (T : Ty), Ts[i]? = some T → ∃ Δ2, Tgt g T ((own.map (·.2)).foldr (fun v G => G.set v none) Γ) Δ2 ∧
      ((rs[i]? = some none ∧ GCTs X scope Δ2 ifs false) ∨ ∃ k v, rs[i]? = some (some (k, v)) ∧ GCTs X scope Δ2 ifs true ∧ GC X scope Δ2 kx (valT (kV k)) ∧ GC X scope Δ2 vx (valT v)))
    (hwipe : OwnTgt g own) (hnd : ((rs.filterMap id).map (·.1)).Nodup)
    (hc : X.calm = true := by rfl) (hN : X.N.Nodup := by first | assumption | decide) (hf : ∀ x, foldedSetIterable iter X.env x = pure x := by intro _; rfl) {σ : L2.St} {H : Hp} (t : Typed σ Γ H) {Q : VK}
    (q : ∀ D H', Ex H H' → H D = none → H' D = some (.dK (rs.filterMap id)) → Q (.ref D) H') : tE X (.DictComp kx vx [⟨tg, iter, ifs, 0⟩] scope pos) σ H Q := by
  refine toE (pe_dc (tk := tCE X scope kx) (tv := tCE X scope vx) (tt := tCT X scope ifs) (own := own) hc hN pi ok hg (fun s H C cl fp => ⟨fun pins s' σ H1 Q I h => (h s H C cl fp).run pins s' I⟩) (fun s H C cl fp => ⟨fun pins s' σ H1 Q I h => (h s H C cl fp).run pins s' I⟩) (fun s H C cl fp => ⟨fun pins s' σ H1 Q I h => (h s H C cl fp).run pins s' I⟩) hf) ?_
  refine hi σ H t _ fun J H1 e1 tn => ?_
  intro Da hD
  have e1D : Ex H1 (upd H1 Da (.dK [])) := Ex.new hD
  refine ⟨fun i m H' => i ≤ Ts.length ∧ m = Ts.length - i ∧ Ex H1 H' ∧ H' Da = some (.dK ((rs.take i).filterMap id)), ⟨_, Nat.zero_le _, rfl, e1D, upd_same⟩, ?_⟩
  rintro i m H' ⟨hi', rfl, e2, hacc⟩
  obtain ⟨t3, t4⟩ := tn i H' e2.le
  by_cases c : i < Ts.length
  · obtain ⟨go, yl⟩ := t3 c
    refine .inr ⟨go, fun H' => Ex H1 H' ∧ H' Da = some (.dK ((rs.take (i + 1)).filterMap id)), fun H' h => ⟨Ts.length - (i + 1), by omega, by omega, rfl, h⟩, fun v Hy hy => ?_⟩
    obtain ⟨ey, T, hT, hv⟩ := yl v Hy hy
    obtain ⟨Δ2, tg, alt⟩ := hw i T hT
    have tσ : Typed (L2.wipe σ (own.map (·.2))) ((own.map (·.2)).foldr (fun v G => G.set v none) Γ) Hy := Typed.wipe _ (t.up ((e1.trans e2).trans ey))
    refine hwipe v σ Hy _ (tg v _ Hy _ hv tσ fun σ2 t2 => ?_)
    have hlen : ((rs.take i).filterMap id).length < sizeLine :=
      Nat.lt_of_le_of_lt (Nat.le_trans (List.length_filterMap_le _ _) (by rw [List.length_take]; exact Nat.min_le_left _ _)) (Nat.lt_of_lt_of_le c hz)
    rcases alt with ⟨hr, hT⟩ | ⟨k, y, hr, hT, hK, hE⟩
    · intro s0 H0 C cl fp
      refine hT s0 H0 C cl fp σ2 Hy t2 _ fun H3 e3 => ?_
      refine iteF ⟨e2.trans (ey.trans e3), ?_⟩
      rw [List.take_succ, hr, List.filterMap_append]
      simpa using e3 _ _ (ey _ _ hacc)
    · intro s0 H0 C cl fp
      refine hT s0 H0 C cl fp σ2 Hy t2 _ fun H3 e3 => iteT ?_
      intro s1 H1' C1 cl1 fp1
      refine hK s1 H1' C1 cl1 fp1 σ2 H3 (t2.up e3) _ fun y1 H4 e4 hy1 => ?_
      intro s2 H2' C2 cl2 fp2
      refine hE s2 H2' C2 cl2 fp2 σ2 H4 (t2.up (e3.trans e4)) _ fun y2 H5 e5 hy2 => ?_
      have hy1' : y1 = kV k := hy1
      have hy2' : y2 = y := hy2
      subst hy1'; subst hy2'
      refine ⟨_, k, rfl, e5 _ _ (e4 _ _ (e3 _ _ (ey _ _ hacc))), hlen, (e2.trans (ey.trans (e3.trans (e4.trans e5)))).mut hD (e5 _ _ (e4 _ _ (e3 _ _ (ey _ _ hacc)))), ?_⟩
      rw [upd_same, List.take_succ, hr, List.filterMap_append]
      have hnew : valV ((rs.take i).filterMap id) k = none := by
        have hrs : rs = rs.take i ++ some (k, y2) :: rs.drop (i + 1) := by
          have hlt : i < rs.length := by rw [hl]; exact c
          have e := List.take_append_drop i rs
          rw [List.drop_eq_getElem_cons hlt] at e
          have hg : rs[i] = some (k, y2) := by rw [List.getElem?_eq_getElem hlt] at hr; exact Option.some.inj hr
          rw [hg] at e
          exact e.symm
        rw [hrs, List.filterMap_append, List.map_append] at hnd
        have hdis := (List.nodup_append.mp hnd).2.2
        cases hq : valV ((rs.take i).filterMap id) k with
        | none => rfl
        | some z =>
          have hin := valV_in hq
          exact absurd rfl (hdis k (by simpa using hin) k (by simp))
      rw [putK_new _ hnew]
      rfl
  · have hi2 : i = Ts.length := by omega
    refine .inl ⟨t4 hi2, ?_⟩
    rw [hi2, ← hl, List.take_length] at hacc
    exact q Da H' (e1.trans e2) (e1.free hD) hacc
end
end RL

set_option Elab.async false
set_option linter.all false
set_option maxRecDepth 100000
set_option maxHeartbeats 8000000
/-! RLset: set(list of ints), and sorted(set(..)) as one expression -/
namespace RL
open PySem PySem.Spec PyProof.Rows L2
section
variable {P : Program} {w : World} {A : Around} {E : Value → Shared → Prop} {s : Shared}
/-- the empty set's object -/
abbrev set0 (w : World) : Obj := { cls := .type "set", dict := none, data := .set #[] 0 (.fresh 0 0 (!w.params.followText "set-order")) }
/-- the loop that fills a fresh set, over a list that stands -/
theorem fill_list {l : Addr} {items : Array Value} (ns : List Int) {R : Result → Shared → Prop} (hh : A.handled = none) (hl : s.heap.IsList l items) (hit : IntsAre items.toList ns) (hb : ns.length + 1 < scanBound)
    (h : ∀ (h' : Heap) (tk c : Nat), SetR w h' s.heap.objs.size (fun j => decide (j ∈ ns)) c → c ≤ ns.length → (∀ b o, s.heap.get? b = some o → h'.get? b = some o) → R (.ok (.ret .none)) { s with heap := h', toks := tk }) :
    codeAny (model P w) A (.builtin "set.update.loop" ⟨[.ref s.heap.objs.size, .ref (s.heap.objs.size + 1)], []⟩) R
      { s with heap := (s.heap.push (set0 w)).push { cls := .type "list_iterator", data := .fields #[.ref l, .int 0 0] } } := by
  have hn : items.size = ns.length := by have q := IntsAre.length hit; rwa [Array.length_toList] at q
  obtain ⟨ol, hol, hcl, nl, hdl⟩ := id hl
  have hlS : l < s.heap.objs.size := Heap.lt_size hol
  have z1 : (s.heap.push (set0 w)).objs.size = s.heap.objs.size + 1 := Heap.size_push ..
  have hS : ((s.heap.push (set0 w)).push { cls := .type "list_iterator", data := .fields #[.ref l, .int 0 0] }).get? s.heap.objs.size = some (set0 w) := Heap.get?_push_of_some _ (Heap.get?_push_size _ rfl)
  have hL : ((s.heap.push (set0 w)).push { cls := .type "list_iterator", data := .fields #[.ref l, .int 0 0] }).IsList l items := ⟨ol, Heap.get?_push_of_some _ (Heap.get?_push_of_some _ hol), hcl, nl, hdl⟩
  have hI : ((s.heap.push (set0 w)).push { cls := .type "list_iterator", data := .fields #[.ref l, .int 0 0] }).get? (s.heap.objs.size + 1) = some { cls := .type "list_iterator", data := .fields #[.ref l, .int 0 0] } := by
    rw [← z1]; exact Heap.get?_push_size _ rfl
  have hval : ∀ (i : Nat) (v : Value), items[i]? = some v → ∃ k t, ns[i]? = some k ∧ v = .int k t := fun i v hv => by
    have hi : i < ns.length := hn ▸ (Array.getElem?_eq_some_iff.mp hv).1
    obtain ⟨t, e⟩ := PyProof.Rows.IntsAre.int_at hit i v (by rw [Array.getElem?_toList]; exact hv)
    exact ⟨ns[i], t, List.getElem?_eq_getElem hi, by rw [e, List.getD_eq_getElem?_getD, List.getElem?_eq_getElem hi] <;> rfl⟩
  have W := (Walks.list (prog := P) (w := w) (A := A.in1) hh (s.heap.objs.size + 1) l (Nat.ne_of_lt (Nat.lt_succ_of_lt hlS)) items).toS
  refine set_update_ints W s.heap.objs.size (by simp only [List.mem_cons, List.not_mem_nil, or_false, not_or]; exact ⟨Nat.ne_of_lt (Nat.lt_succ_self _), Nat.ne_of_gt hlS⟩) ns hn hb hval (items.size - 0) 0 _ rfl (Nat.zero_le _) ⟨⟨_, hI, rfl, rfl⟩, hL⟩ ⟨0, Nat.le_refl 0, setR_new_at hS⟩ fun s' c hm hc hR => ?_
  obtain ⟨h', g', d', tk', os'⟩ := s'
  obtain rfl : g' = s.gens := hm.gens
  obtain rfl : d' = s.drawn := hm.drawn
  obtain rfl : os' = s.os := hm.os
  refine h h' tk' c hR (hn ▸ hc) fun b o e => ?_
  have hb : b < s.heap.objs.size := Heap.lt_size e
  exact hm.heap b o (by simp only [List.mem_cons, List.not_mem_nil, or_false, not_or]; exact ⟨Nat.ne_of_lt hb, Nat.ne_of_lt (Nat.lt_succ_of_lt hb)⟩) (Heap.get?_push_of_some _ (Heap.get?_push_of_some _ e))
/-- set(l), l a list of ints -/
theorem set_of_list {l : Addr} {items : Array Value} (ns : List Int) {Q : Value → Shared → Prop} (hh : A.handled = none) (hl : s.heap.IsList l items) (hit : IntsAre items.toList ns) (hb : ns.length + 1 < scanBound)
    (h : ∀ (h' : Heap) (tk c : Nat), SetR w h' s.heap.objs.size (fun j => decide (j ∈ ns)) c → c ≤ ns.length → (∀ b o, s.heap.get? b = some o → h'.get? b = some o) → Q (.ref s.heap.objs.size) { s with heap := h', toks := tk }) :
    wpAny (model P w) A (call (.type "set") [.ref l]) Q E s := by
  obtain ⟨_, _, hmro⟩ := F.called_set.mro
  have c1 := F.called_set.made
  have c2 := F.called_set.sub
  have c3 := F.called_set.notType
  have c4 := F.called_set.canCreate
  have c5 := F.typeCall_set_1 (.ref l)
  refine wpAny_call (codeAny_of_tree ?_)
  show wpAny _ _ (callAny (.type "set") _) _ _ _
  refine wpAny_pure ⟨Code.quiet_builtin _ (by decide +kernel), codeAny_builtin F.entry_type_call ?_⟩
  rw [Around.under_plain (weight_type_call_type "set" [.ref l] []) rfl]
  repeat (any_goals (first | assumption | wp_step))
  refine codeAny_mono (code_set_led1 (.ref l) (E := E) (Q₁ := fun obj s₁ => obj = .ref s.heap.objs.size ∧ s₁ = { s with heap := s.heap.push (set0 w) }) ⟨rfl, rfl⟩) fun r s₁ hr => ?_
  match r, hr with
  | .error e, hr => exact hr
  | .ok (.ret obj), ⟨h1, h2⟩ =>
    subst h1; subst h2
    have hT : Shared.TypeIs { s with heap := s.heap.push (set0 w) } (.ref s.heap.objs.size) "set" := ⟨_, Heap.get?_push_size _ rfl, rfl⟩
    have i1 := F.called_set.init.lookup
    have i2 := F.called_set.init.bind (.ref s.heap.objs.size)
    repeat (any_goals (first | assumption | wp_step))
    refine codeAny_mono (codeAny_call_builtin (R := wants (fun r s₂ => r = .none ∧ Q (.ref s.heap.objs.size) s₂) E) F.called_set.init.plain F.entry_set_init (check_set_init_1 hT ?_)) fun r₂ s₂ hr₂ => ?_
    · obtain ⟨⟨ocls, odict, odata, oslots⟩, hol, hcl, nl, hdl⟩ := id hl
      simp only at hcl hdl
      subst hcl; subst hdl
      have hol' : (s.heap.push (set0 w)).get? l = some { cls := .type "list", dict := odict, data := .seq items nl, slots := oslots } := Heap.get?_push_of_some _ hol
      have t1 := F.sub_list_set
      have t2 := F.sub_list_frozenset
      have t3 : (Value.type "list" == Value.type "dict") = false := by decide
      unfold Builtin.«set.__init__» noKeywords Builtin.Frozenset.updateFrom
      generalize hPI : pyIter = PI
      wp_walk
      subst hPI
      refine wpAny_pyIter_list ⟨_, hol', rfl, nl, rfl⟩ (wpAny_bind (wpAny_runValue ?_))
      have z1 : (s.heap.push (set0 w)).objs.size = s.heap.objs.size + 1 := Heap.size_push ..
      rw [z1]
      exact fill_list ns (by simp [hh]) hl hit hb fun h' tk c hR hc k => wpAny_pure (wpAny_pure ⟨rfl, h h' tk c hR hc k⟩)
    · match r₂, hr₂ with
      | .error e, hr₂ => exact hr₂
      | .ok (.ret r), ⟨h1, hq⟩ =>
        subst h1
        repeat (any_goals (first | assumption | wp_step))
end
end RL

set_option Elab.async false
set_option linter.all false
set_option maxRecDepth 100000
set_option maxHeartbeats 4000000
/-! RL3: a def by its body; dicts, sorted, own operators -/
namespace RL
open PySem PySem.Spec PyProof.Rows L2

/-! ### a def by its body -/
def ctx0 (N : List Str) (Ts : List Ty) : Ctx := Ts.map some ++ List.replicate (N.length - Ts.length) none
theorem typed0 {N : List Str} {Ts : List Ty} {vs : List V} {H : Hp} (h : All2 Ts vs H) : Typed (L2.start N vs) (ctx0 N Ts) H := by
  refine ⟨by simp [L2.start, ctx0, h.len], fun i T g => ?_⟩
  unfold ctx0 at g
  by_cases c : i < Ts.length
  · rw [List.getElem?_append_left (by simpa using c), List.getElem?_map, List.getElem?_eq_getElem c] at g
    obtain ⟨v, hv, tv⟩ := h.get (List.getElem?_eq_getElem c)
    refine ⟨v, ?_, ?_⟩
    · unfold L2.start
      rw [List.getElem?_append_left (by simpa [← h.len] using c), List.getElem?_map, hv]
      rfl
    · cases g
      exact tv
  · rw [List.getElem?_append_right (by simpa using c), List.getElem?_replicate] at g
    split at g <;> cases g
/-- the context of a def's body -/
abbrev BX (P : Program) (w : World) (K : PySem.W.Frag) (mg : Str → Option Value) (base : Heap) (N : List Str) (qual : Str) (scope : Scope) (f : Addr) (cd : Value) (A : Around) (outer : List Env) (s : Shared) (H : Hp) (E : XK) : Cx := (cxOf CX0 P w K mg base N qual scope f cd A outer s H E).nox
section
variable {P : Program} {w : World} {K : PySem.W.Frag} {mg : Str → Option Value} {base : Heap} {x qual : Str} {params : Arguments} {body : List Stmt} {scope : Scope} {dvs : List V} {kws : List (Str × V)} {f : Addr} {fd : FuncData} {N ps : List Str} {k : Nat}
/-- any promise, the body as a goal -/
theorem fn_sp {sp : Sp} (F : FunD K x qual params body scope dvs kws f fd) (S : FnScope N ps scope) (len : ∀ vs H Q E, sp vs H Q E → vs.length = ps.length)
    (h : ∀ cdv A outer s H vs Q E, Room k (A.deeper (envOfC qual scope s.heap.objs.size f cdv)) → sp vs H Q E → tB (BX P w K mg base N qual scope f cdv A outer s H E) body { nx := fun _ H' => Q .non H', rt := Q } (L2.start N vs) H) : FnOk P w K mg base CX0 (k + 1) f fd ps sp :=
  F.ok S len fun cdv A outer s H vs Q E hr hs => ⟨_, (pb body).nox, h cdv A outer s H vs Q E hr hs⟩
theorem fn_G {α : Type} {A : α → List Ty} {R : α → Ty} (F : FunD K x qual params body scope dvs kws f fd) (S : FnScope N ps scope) (hl : ∀ a, (A a).length = ps.length)
    (h : ∀ a cdv Ar outer s H E, Room k (Ar.deeper (envOfC qual scope s.heap.objs.size f cdv)) → (BX P w K mg base N qual scope f cdv Ar outer s H E).N.Nodup → ∀ D : Ends, (∀ v H', (Bs.of H).ok H' → R a v H' → D.rt v H') → (∀ σ H', (Bs.of H).ok H' → R a .non H' → D.nx σ H') → Bd (BX P w K mg base N qual scope f cdv Ar outer s H E) (ctx0 N (A a)) body (Bs.of H) D) :
    FnOk P w K mg base CX0 (k + 1) f fd ps (spG A R) :=
  fn_sp F S (fun vs H Q E ⟨a, h2, _⟩ => by rw [← h2.len]; exact hl a) fun cdv Ar outer s H vs Q E hr ⟨a, h2, q⟩ => h a cdv Ar outer s H E hr S.nd _ (fun v H' e hv => q v H' e.1 hv) (fun _ H' e hv => q _ H' e.1 hv) _ H (Bs.refl H) (typed0 h2)
end

/-! ### operations on values -/
section
variable {X : Cx} {Γ : Ctx} {e o a b c : Expr} {es : List Expr} {T U : Ty} {Ts Us : List Ty} {pos p p2 apos : Pos} {x m : Str}
/-- what a call of a built-in gives, by its rule -/
theorem g_callB {id : String} {r : List V → Hp → VK → Prop} (hc : CallR X (.builtin id) r) (hm : X.mg x = none) (hv : bootBuiltins x = some (.builtin id)) (ha : GA X Γ (e :: es) Ts) (hr : ∀ vs H, All2 Ts vs H → ∀ Q : VK, (∀ v H', Ex H H' → U v H' → Q v H') → r vs H Q)
    (hg : Gl X x := by rfl) (hn : x ≠ "__name__" := by decide) (hdb : (x == ("__debug__" : Str)) = false := by decide) (he : starEach (e :: es) X.env = (false, eval e X.env) :: starEach es X.env := by first | exact se_cons rfl | exact se_one rfl | exact se_two rfl rfl | rfl) (hpl : (backTo pos (starEach es X.env)).any (·.1) = false := by first | exact se_any rfl | rfl) : G X Γ (.Call (.Name x p) (e :: es) [] pos) U := fun σ H t Q q =>
  toE (pe_callB hc hg hm hv (pa _) hn hdb he hpl) (ha σ H t _ fun vs H1 e1 h1 => hr vs H1 h1 Q fun v H2 e2 h2 => q v H2 (e1.trans e2) h2)
theorem g_callTy {id : String} {r : List V → Hp → VK → Prop} (hc : CallR X (.type id) r) (hm : X.mg x = none) (hv : bootBuiltins x = some (.type id)) (ha : GA X Γ (e :: es) Ts) (hr : ∀ vs H, All2 Ts vs H → ∀ Q : VK, (∀ v H', Ex H H' → U v H' → Q v H') → r vs H Q)
    (hg : Gl X x := by rfl) (hn : x ≠ "__name__" := by decide) (hdb : (x == ("__debug__" : Str)) = false := by decide) (he : starEach (e :: es) X.env = (false, eval e X.env) :: starEach es X.env := by first | exact se_cons rfl | exact se_one rfl | exact se_two rfl rfl | rfl) (hpl : (backTo pos (starEach es X.env)).any (·.1) = false := by first | exact se_any rfl | rfl) : G X Γ (.Call (.Name x p) (e :: es) [] pos) U := fun σ H t Q q =>
  toE (pe_callTy hc hg hm hv (pa _) hn hdb he hpl) (ha σ H t _ fun vs H1 e1 h1 => hr vs H1 h1 Q fun v H2 e2 h2 => q v H2 (e1.trans e2) h2)
/-- .. a new list, frozen at once -/
theorem g_callBL {id : String} {r : List V → Hp → VK → Prop} (hc : CallR X (.builtin id) r) (hm : X.mg x = none) (hv : bootBuiltins x = some (.builtin id)) (ha : GA X Γ (e :: es) Ts) (hr : ∀ vs H, All2 Ts vs H → ∀ Q : VK, (∀ ys q, H q = none → All2 Us ys H → Q (.ref q) (upd H q (.lst ys))) → r vs H Q)
    (hg : Gl X x := by rfl) (hn : x ≠ "__name__" := by decide) (hdb : (x == ("__debug__" : Str)) = false := by decide) (he : starEach (e :: es) X.env = (false, eval e X.env) :: starEach es X.env := by first | exact se_cons rfl | exact se_one rfl | exact se_two rfl rfl | rfl) (hpl : (backTo pos (starEach es X.env)).any (·.1) = false := by first | exact se_any rfl | rfl) : G X Γ (.Call (.Name x p) (e :: es) [] pos) (lstT Us) := fun σ H t Q q =>
  tE_frz (toE (pe_callB hc hg hm hv (pa _) hn hdb he hpl) (ha σ H t _ fun vs H1 e1 h1 => hr vs H1 h1 _ fun ys d hd h2 => ⟨d, _, upd_same, trivial, fun od => by
    rw [upd_upd]
    exact q _ _ (e1.trans (Ex.new hd)) ⟨d, ys, rfl, ⟨od, upd_same⟩, h2.up (Ex.new hd)⟩⟩))
theorem g_callTyL {id : String} {r : List V → Hp → VK → Prop} (hc : CallR X (.type id) r) (hm : X.mg x = none) (hv : bootBuiltins x = some (.type id)) (ha : GA X Γ (e :: es) Ts) (hr : ∀ vs H, All2 Ts vs H → ∀ Q : VK, (∀ ys q, H q = none → All2 Us ys H → Q (.ref q) (upd H q (.lst ys))) → r vs H Q)
    (hg : Gl X x := by rfl) (hn : x ≠ "__name__" := by decide) (hdb : (x == ("__debug__" : Str)) = false := by decide) (he : starEach (e :: es) X.env = (false, eval e X.env) :: starEach es X.env := by first | exact se_cons rfl | exact se_one rfl | exact se_two rfl rfl | rfl) (hpl : (backTo pos (starEach es X.env)).any (·.1) = false := by first | exact se_any rfl | rfl) : G X Γ (.Call (.Name x p) (e :: es) [] pos) (lstT Us) := fun σ H t Q q =>
  tE_frz (toE (pe_callTy hc hg hm hv (pa _) hn hdb he hpl) (ha σ H t _ fun vs H1 e1 h1 => hr vs H1 h1 _ fun ys d hd h2 => ⟨d, _, upd_same, trivial, fun od => by
    rw [upd_upd]
    exact q _ _ (e1.trans (Ex.new hd)) ⟨d, ys, rfl, ⟨od, upd_same⟩, h2.up (Ex.new hd)⟩⟩))
theorem vals2 {H : Hp} {x y : V} {vs : List V} (h : All2 [valT x, valT y] vs H) : vs = [x, y] := All2.vals (ws := [x, y]) h
theorem vals1' {H : Hp} {x : V} {vs : List V} (h : All2 [valT x] vs H) : vs = [x] := All2.vals (ws := [x]) h
theorem one2 {H : Hp} {vs : List V} (h : All2 [T] vs H) : ∃ v, vs = [v] ∧ T v H := by
  match vs, h with
  | [v], ⟨a, _⟩ => exact ⟨v, rfl, a⟩

/-! ### dicts that are frozen -/
theorem rd_dict {kvs : List (Key × V)} {v : V} {H : Hp} (h : dicT kvs v H) : ∃ a, v = .ref a ∧ Rd H a (.dK kvs) := by
  obtain ⟨a, o, ev, ha⟩ := h
  exact ⟨a, ev, .inr ⟨o, ha⟩⟩
/-- d.get(k, x) -/
theorem g_get2 {kvs : List (Key × V)} {k : Key} {f : Expr} {y : V} {cpos : Pos} (hu : X.A.units + 1 < cLine) (ho : G X Γ o (dicT kvs)) (hk : G X Γ e (valT (kV k))) (hf : G X Γ f (valT y)) (m : M2 X o "get" apos e f cpos) : G X Γ (.Call (.Attribute o "get" apos) [e, f] [] cpos) (valT ((valV kvs k).getD y)) := fun σ H t Q q =>
  toE (pe_dget2 hu (pe o) (pe e) (pe f) m) (ho σ H t _ fun v H1 e1 h1 => by
    obtain ⟨a, ev, ha⟩ := rd_dict h1
    refine ⟨a, ev, .inl ⟨kvs, ha⟩, hk σ H1 (t.up e1) _ fun u H2 e2 h2 => hf σ H2 (t.up (e1.trans e2)) _ fun z H3 e3 h3 => ?_⟩
    obtain ⟨a', ev', ha'⟩ := rd_dict ((dicT kvs).up (e2.trans e3) h1)
    rw [ev] at ev'; cases ev'
    have hz : z = y := h3
    subst hz
    exact ⟨_, .inl ⟨kvs, k, ha', h2, rfl⟩, q _ H3 (e1.trans (e2.trans e3)) rfl⟩)
/-- d[k], the key is there -/
theorem g_ixd {kvs : List (Key × V)} {k : Key} {y : V} (hu : X.A.units + 1 < cLine) (ho : G X Γ o (dicT kvs)) (hk : G X Γ e (valT (kV k))) (hy : valV kvs k = some y) (hs : NoSl e := by exact fun _ _ => rfl) : G X Γ (.Subscript o e pos) (valT y) := fun σ H t Q q =>
  toE (pe_dget hu (pe o) (pe e) hs) (ho σ H t _ fun v H1 e1 h1 => hk σ H1 (t.up e1) _ fun u H2 e2 h2 => by
    obtain ⟨a, ev, ha⟩ := rd_dict ((dicT kvs).up e2 h1)
    exact ⟨a, y, ev, .inl ⟨kvs, k, ha, h2, hy.symm⟩, q _ H2 (e1.trans e2) rfl⟩)
/-- l + l', both frozen -/
theorem op_catF : OpR X (binaryOp .Add) (fun v w H Q => ∃ l l' xs ys, v = .ref l ∧ w = .ref l' ∧ FrzL H l xs ∧ FrzL H l' ys ∧ xs.length + ys.length ≤ sizeLine ∧ ∀ q, H q = none → Q (.ref q) (upd H q (.lst (xs ++ ys)))) := by
  intro pins s σ H v w u u' Q I r r' h
  obtain ⟨l, l', xs, ys, ev, ew, ⟨o1, f1⟩, ⟨o2, f2⟩, hz, q⟩ := h
  subst ev; subst ew; cases r; cases r'
  obtain ⟨_, z1, is1, n1, v1, g1⟩ := I.hok l _ f1
  obtain ⟨_, z2, is2, n2, v2, g2⟩ := I.hok l' _ f2
  have s1 := v1.length
  have s2 := v2.length
  refine PySem.P.add_list g1 g2 ?_ (by simp only [List.size_toArray]; omega)
  rw [List.append_toArray]
  exact ⟨.ref _, _, I.lnew (t' := s.toks) (v1.append v2) (by rw [List.length_append]; exact hz), rfl, q _ I.fresh⟩
theorem g_cat (ha : G X Γ a (lstT Ts)) (hb : G X Γ b (lstT Us)) (hz : Ts.length + Us.length ≤ sizeLine) : G X Γ (.BinOp a .Add b pos) (lstT (Ts ++ Us)) := fun σ H t Q q =>
  tE_frz (toE (pe_op op_catF (pe a) (pe b)) (ha σ H t _ fun v H1 e1 h1 => hb σ H1 (t.up e1) _ fun u H2 e2 h2 => by
    obtain ⟨l, xs, ev, f1, a1⟩ := (lstT Ts).up e2 h1
    obtain ⟨l', ys, eu, f2, a2⟩ := h2
    refine ⟨l, l', xs, ys, ev, eu, f1, f2, by rw [← a1.len, ← a2.len]; exact hz, fun d hd => ⟨d, _, upd_same, trivial, fun od => ?_⟩⟩
    rw [upd_upd]
    exact q _ _ ((e1.trans e2).trans (Ex.new hd)) ⟨d, _, rfl, ⟨od, upd_same⟩, (a1.append a2).up (Ex.new hd)⟩))
/-- list(d), d frozen -/
theorem cr_listF (hc : X.calm = true) : CallR X (.type "list") (fun vs H Q => ∃ d o kvs, vs = [V.ref d] ∧ H d = some (.frz o (.dK kvs)) ∧ ∀ q, H q = none → Q (.ref q) (upd H q (.lst (kvs.map fun z => kV z.1)))) := by
  intro pins s σ H vs us Q I r h
  obtain ⟨d, o, kvs, ev, hd, q⟩ := h
  subst ev
  match us, r with
  | [u], .cons ru .nil =>
    obtain rfl : u = Value.ref d := ru
    obtain ⟨_, z, lo, ws, rk, hat⟩ := I.hok d _ hd
    obtain ⟨ep, hat⟩ := Heap.DictOf.dictAt hat
    have hn : kvs.length = ws.length := Paired.length rk
    refine PySem.W.kdl_call (PySem.W.kdl_dict (knd := mixKind X.prog X.w) (kvs := ws) (ep := ep) lo) (I.ok.hd hc) hat (by rw [← hn]; exact z) fun h' tk its c keep hS hits => ?_
    have hlen : (kvs.map fun z => kV z.1).length = its.toList.length := by
      have z2 : its.toList.length = its.size := by simp
      rw [z2, hits.1, List.length_map, hn]
    have vals : Vals (kvs.map fun z => kV z.1) its.toList := by
      refine vals_of_at hlen fun j v w h1 h2 => ?_
      obtain ⟨k, y, hky, hi⟩ := hits.2 j w (by rw [← Array.getElem?_toList]; exact h2)
      have e1 : (kvs.map (·.1))[j]? = some k := by rw [KV.keys rk, List.getElem?_map, hky]; rfl
      rw [List.getElem?_map] at e1 h1
      cases hj : kvs[j]? with
      | none => rw [hj] at e1; cases e1
      | some z =>
        rw [hj] at e1 h1
        cases e1; cases h1
        exact keyIs_rel hi
    exact ⟨.ref _, _, I.laid keep (Nat.le_refl _) (show ObjOk X.prog X.w _ _ _ (.lst _) from ⟨by rw [List.length_map]; exact z, its.toList, c, vals, by rw [Array.toArray_toList]; exact hS⟩), rfl, q _ (I.hok.fresh (Nat.le_refl _))⟩
theorem g_listD {kvs : List (Key × V)} (h : G X Γ e (dicT kvs)) (hm : X.mg "list" = none) (hc : X.calm = true := by rfl) (hg : Gl X "list" := by rfl) (he : starEach [e] X.env = (false, eval e X.env) :: starEach [] X.env := by first | exact se_cons rfl | exact se_one rfl | exact se_two rfl rfl | rfl) : G X Γ (.Call (.Name "list" p) [e] [] pos) (lstT (kvs.map fun z => valT (kV z.1))) :=
  g_callTyL (cr_listF hc) hm (by decide +kernel) (ga_cons h ga_nil he) (fun vs H h2 Q q => by
    obtain ⟨v, ev, d, o, e2, hd⟩ := one2 h2
    subst ev; subst e2
    exact ⟨d, o, kvs, rfl, hd, fun p hp => q _ p hp (by have z := All2.of_vals (H := H) (ws := kvs.map fun z => kV z.1); rwa [List.map_map] at z)⟩) hg (he := he)
/-- sorted(d), d a frozen dict of ints -/
theorem g_sortedD {kvs : List (Key × V)} {ks : List Int} (h : G X Γ e (dicT kvs)) (hm : X.mg "sorted" = none) (hk : kvs.map (·.1) = ks.map Sum.inl) (h64 : ks.length < 64) (ys : List Int) (hy : ∀ zs : List Int, zs.Perm ks → zs.Pairwise (· ≤ ·) → zs = ys) (hc : X.calm = true := by rfl) (hg : Gl X "sorted" := by rfl) (he : starEach [e] X.env = (false, eval e X.env) :: starEach [] X.env := by first | exact se_cons rfl | exact se_one rfl | exact se_two rfl rfl | rfl) :
    G X Γ (.Call (.Name "sorted" p) [e] [] pos) (lstT (ys.map fun z => intT z)) :=
  g_callBL (call_sortedDI hc) hm (by decide +kernel) (ga_cons h ga_nil he) (fun vs H h2 Q q => by
    obtain ⟨v, ev, h3⟩ := one2 h2
    obtain ⟨a, e2, ha⟩ := rd_dict h3
    subst ev; subst e2
    refine ⟨a, kvs, ks, rfl, ha, hk, h64, fun zs p hp hs hn => ?_⟩
    rw [hy zs hp hs]
    exact q _ p hn (by have z := All2.of_vals (H := H) (ws := ys.map V.int); rwa [List.map_map] at z)) hg (he := he)
/-- all(l), l a frozen list of truth values -/
theorem g_all {bs : List Bool} (h : G X Γ e (lstT (bs.map fun k => blT k))) (hm : X.mg "all" = none) (hc : X.calm = true := by rfl) (hg : Gl X "all" := by rfl) (he : starEach [e] X.env = (false, eval e X.env) :: starEach [] X.env := by first | exact se_cons rfl | exact se_one rfl | exact se_two rfl rfl | rfl) : G X Γ (.Call (.Name "all" p) [e] [] pos) (blT (bs.all id)) :=
  g_callB (cr_all hc) hm (by decide +kernel) (ga_cons h ga_nil he) (fun vs H h2 Q q => by
    obtain ⟨v, ev, a, ws, e2, f, h3⟩ := one2 h2
    subst ev; subst e2
    have z : ws = bs.map V.bl := All2.vals (H := H) (by rw [List.map_map]; exact h3)
    subst z
    exact ⟨a, bs, rfl, f.sq, q _ H (Ex.refl H) rfl⟩) hg (he := he)
end
end RL

set_option Elab.async false
set_option linter.all false
set_option maxRecDepth 100000
set_option maxHeartbeats 4000000
/-! RL4: own operators and own equality, of classes of which one may descend from another -/
namespace RL
open PySem PySem.Spec L2 PySem.W
/-- what two classes must have that their number slots go by a def of the text: nm "mul" .. -/
structure NumOp (K : Frag) (Cs : Addr → Prop) (nm : String) : Prop where
  first : ∀ C, Cs C → selfFirst K C = true
  noR : ∀ C, Cs C → findIn K (.ref C) (dunderR nm) = some none
  sub : ∀ C D, Cs C → Cs D → C ≠ D → ∃ r, subIn K (.ref D) (.ref C) = some r
theorem inst_up {h h' : Heap} {x C : Addr} {ox : Obj} {od : Option Obj} (k : ∀ b o, h.get? b = some o → h'.get? b = some o) (I : InstAt h x ox C od) : InstAt h' x ox C od := by
  obtain ⟨h1, h2, h3, h4⟩ := I
  refine ⟨k _ _ h1, h2, h3, ?_⟩
  obtain ⟨c, dct, dat, sl⟩ := ox
  cases dct with
  | none =>
    cases od with
    | none => trivial
    | some o => exact h4
  | some d =>
    cases od with
    | none => exact h4
    | some o => exact k _ _ h4
section
variable {prog : Program} {w : World} {A : Around} {E : Value → Shared → Prop} {s : Shared} {K : Frag} {x y C D f : Addr} {ox oy : Obj} {od oe : Option Obj} {Q : Value → Shared → Prop}
/-- an AttributeError is made and raised -/
theorem raise_attr {α : Type} {msg : Str} {Q : α → Shared → Prop} (hh : A.handled = none) (hm : msg.length ≤ sizeLine)
    (h : ∀ (h' : Heap) (tk : Nat) (e : Addr), (∀ b o, s.heap.get? b = some o → h'.get? b = some o) → (∃ o, h'.get? e = some o ∧ o.cls = .type "AttributeError") → E (.ref e) { s with heap := h', toks := tk }) :
    wpAny (model prog w) A (raiseErrorStr "AttributeError" msg : Sem α) Q E s := by
  unfold raiseErrorStr
  refine wpAny_bind (wpAny_mkStr (wpAny_bind ?_) hm)
  unfold newExc newTuple
  refine wpAny_bind (wpAny_newObj_type ?_ (by size_fits))
  refine wpAny_bind (m := firstArgMember _ _) (wpAny_of_eq (a := Value.none) (by simp only [firstArgMember, attrError_no_first]; rfl) ?_)
  rw [ownMembersOf_AttributeError]
  refine wpAny_newObj_type ?_ (by size_fits)
  unfold raiseNew
  refine wpAny_bind (wpAny_handled ?_)
  rw [hh]
  first
    | refine wpAny_throw ?_
    | refine wpAny_bind (wpAny_pure (wpAny_throw ?_))
  exact h _ _ _ (fun b o hb => Heap.get?_push_of_some _ (Heap.get?_push_of_some _ hb)) ⟨_, Heap.get?_push_size _ rfl, rfl⟩
/-- what a class of the text must have that it is known to lack a name -/
structure Lacks (K : Frag) (D : Addr) (name : Str) : Prop where
  any : nsIn K cStatics "thirdparty.any" = some none
  ty : typeIn K (.ref D) = some (.type "type")
  ga : findIn K (.type "type") "__getattribute__" = some (some (.builtin "type.__getattribute__"))
  gg : findIn K (.type "type") "__getattr__" = some none
  sub : subIn K (.type "type") (.type "type") = some true
  meta' : findIn K (.type "type") name = some none
  own : findIn K (.ref D) name = some none
  nm : ∃ cd, clsIn K D = some cd ∧ (cd.name.cps.foldl (fun k c => k + (Str.utf8Of c).length) 0 ≤ 100) ∧ (((s!"type object '{cd.name.toString}' has no attribute '" : String) : Str) ++ name ++ "'").length ≤ sizeLine
theorem miss_cls {name : Str} {tk : Tok} {Q : Option Value → Shared → Prop} (X : K.In s.heap) (hA : A.handled = none) (l : Lacks K D name) (h : ∀ (h' : Heap) (tk : Nat), (∀ b o, s.heap.get? b = some o → h'.get? b = some o) → Q none { s with heap := h', toks := tk }) :
    wpAny (model prog w) A (getAttrBy? (.ref D) (.str name tk)) Q E s := by
  obtain ⟨cd, hcd, hshort, hlen⟩ := l.nm
  obtain ⟨hh, g0, d0, t0, os0⟩ := s
  have L1 : Looks (model prog w) hh (typeOf (.ref D)) (.type "type") := looks_typeIn X l.ty
  have L2 : Looks (model prog w) hh (typeLookup (.type "type") "__getattribute__") (some (.builtin "type.__getattribute__")) := looks_findIn X l.ga
  have L3 : Looks (model prog w) hh (opaqueClassAbove (.ref D)) none := looks_opaque X l.any
  have L4 : Looks (model prog w) hh (typeLookup (.type "type") name) none := looks_findIn X l.meta'
  have L5 : Looks (model prog w) hh (typeLookup (.ref D) name) none := looks_findIn X l.own
  have L6 : Looks (model prog w) hh (classData D) cd := looks_clsIn X hcd
  have ne : (Value.builtin "type.__getattribute__" == Value.builtin "object.__getattribute__") = false := by decide +kernel
  unfold getAttrBy? getAttrBy
  refine wpAny_bind (wpAny_attempt (wpAny_holding (wpAny_bind (L1.at (wpAny_bind (L2.at ?_))))))
  dsimp only
  rw [ne, Bool.and_false, if_neg Bool.false_ne_true]
  unfold getAttrByItsOwn
  refine wpAny_bind (m := hookBefore (.type "type")) (wpAny_pure (wpAny_bind (wpAny_attempt (wpAny_holding ?_))))
  unfold callGetattribute
  rw [Bool.false_and, if_neg Bool.false_ne_true]
  unfold boundAndCalled
  rw [KF.slot_tga.bind]
  refine wpAny_bind (wpAny_pure ?_)
  show wpAny _ _ (call (.builtin "type.__getattribute__") [.ref D, .str name tk]) _ _ _
  refine wpAny_call (codeAny_call_builtin KF.slot_tga.plain KF.entry_tga ?_)
  refine @check_slot (model prog w) _ _ ⟨hh, g0, d0, t0, os0⟩ "type.__getattribute__" "type" "__getattribute__" (.ref D) [.str name tk] [] _ (by decide +kernel) (by decide +kernel) (L1.andThen (looks_subIn X l.sub)) (KF.args_tga (.ref D) (.str name tk)) ?_
  unfold Builtin.«type.__getattribute__»
  refine wpAny_bind (wpAny_pure (wpAny_bind (L3.at (wpAny_bind (L1.at (wpAny_bind (L4.at ?_)))))))
  refine wpAny_bind (wpAny_pure ?_)
  dsimp only
  refine wpAny_bind (L5.at ?_)
  dsimp only
  refine wpAny_bind (m := typeNameCut 100 (.ref D)) ?_
  unfold typeNameCut
  refine wpAny_bind (L6.at ?_)
  rw [if_pos hshort]
  refine wpAny_pure ?_
  refine raise_attr (s := ⟨hh, g0, d0, t0, os0⟩) hA hlen fun h' tk' e k he => ?_
  obtain ⟨o, ho, hc⟩ := he
  have Li : ∀ {A : Around} {E : Value → Shared → Prop} {Q' : Bool → Shared → Prop}, Q' true ⟨h', g0, d0, tk', os0⟩ → wpAny (model prog w) A (isInstance (.ref e) (.type "AttributeError")) Q' E ⟨h', g0, d0, tk', os0⟩ := fun q => by
    unfold isInstance
    refine wpAny_bind (wpAny_typeOf_ref ho ?_)
    rw [hc, sub_AttributeError]
    exact wpAny_pure q
  have Lg : Looks (model prog w) h' (typeLookup (.type "type") "__getattr__") none := looks_findIn (X.keeps k) l.gg
  unfold getattributeRaised
  refine wpAny_bind (Li ?_)
  rw [if_pos rfl]
  refine wpAny_bind (m := hookBehind (.type "type") none) (Lg.at ?_)
  unfold hookOrError attributeErrorLeaves
  refine wpAny_bind (wpAny_throw ?_)
  refine wpAny_bind (Li ?_)
  rw [if_pos rfl]
  exact wpAny_pure (h h' tk' k)
theorem no_reflected {nm : String} {Q : Bool → Shared → Prop} (X : K.In s.heap) (hA : A.handled = none) (p1 : Looks (model prog w) s.heap (numberSlotInPython (.ref C) nm) true) (p2 : Looks (model prog w) s.heap (numberSlotInPython (.ref D) nm) true)
    (hr : Lacks K D (dunderR nm)) (hz : (dunderR nm).length ≤ sizeLine) (h : ∀ (h' : Heap) (tk : Nat), (∀ b o, s.heap.get? b = some o → h'.get? b = some o) → Q false { s with heap := h', toks := tk }) : wpAny (model prog w) A (reflectedDiffers (.ref C) (.ref D) nm) Q E s := by
  unfold reflectedDiffers
  refine wpAny_bind (p1.here ?_)
  simp only [Bool.not_true, Bool.false_eq_true, if_false]
  refine wpAny_bind (p2.here ?_)
  simp only [Bool.not_true, Bool.false_eq_true, if_false]
  refine wpAny_bind (wpAny_mkStr ?_ hz)
  refine wpAny_bind (miss_cls (s := { s with toks := s.toks + 1 }) X hA hr fun h' tk k => ?_)
  exact wpAny_pure (h h' tk k)
/-- x op y, both of the text's own classes -/
theorem binop_own {op : Operator} (X : K.In s.heap) (hA : A.handled = none) (I : InstAt s.heap x ox C od) (J : InstAt s.heap y oy D oe) (nC : selfFirst K C = true) (nD : selfFirst K D = true)
    (hs : findIn K (.ref C) (PySem.dunder op.info.2) = some (some (.ref f))) (hf : isFn K (.ref f) = true) (hr : findIn K (.ref C) (dunderR op.info.2) = some none) (hsD : ∃ g : Addr, findIn K (.ref D) (PySem.dunder op.info.2) = some (some (.ref g))) (hrD : Lacks K D (dunderR op.info.2)) (hz : (dunderR op.info.2).length ≤ sizeLine)
    (hsub : C ≠ D → ∃ r, subIn K (.ref D) (.ref C) = some r)
    (h : ∀ (h' : Heap) (tk : Nat), (∀ b o, s.heap.get? b = some o → h'.get? b = some o) → wpAny (model prog w) A (call (.ref f) [.ref x, .ref y]) (CmpBack Q) E { s with heap := h', toks := tk }) : wpAny (model prog w) A (binaryOp op (.ref x) (.ref y)) Q E s := by
  obtain ⟨cd, rest, hcd, hm⟩ := ksp_first nC
  obtain ⟨cd', rest', hcd', hm'⟩ := ksp_first nD
  obtain ⟨g, hsD⟩ := hsD
  rcases hi : op.info with ⟨sym, nm⟩
  rw [hi] at hs hr hsD hrD hz
  dsimp only at hs hr hsD hrD hz
  have tail : ∀ (h' : Heap) (tk : Nat), (∀ b o, s.heap.get? b = some o → h'.get? b = some o) → wpAny (model prog w) A (tryMethod (.ref x) (PySem.dunder nm) (.ref y)) (fun r s' => ∃ v, r = some v ∧ Q v s') E { s with heap := h', toks := tk } := fun h' tk k =>
    ksp_try (X.keeps k) (inst_up k I) hs hf (h h' tk k)
  have L1 : Looks (model prog w) s.heap (typeOf (.ref x)) (.ref C) := I.type
  have L2 : Looks (model prog w) s.heap (typeOf (.ref y)) (.ref D) := J.type
  have L3 : Looks (model prog w) s.heap (fillsNumberSlot (.ref C) nm) true := fills_K X hcd hm hs
  have L4 : Looks (model prog w) s.heap (fillsNumberSlot (.ref D) nm) true := fills_K X hcd' hm' hsD
  have L6 : Looks (model prog w) s.heap (numberSlotInPython (.ref C) nm) true := ksp_inPy X hs hr (.inl rfl)
  have L7 : Looks (model prog w) s.heap (numberSlotInPython (.ref D) nm) true := ksp_inPy X hsD hrD.own (.inl rfl)
  obtain ⟨hh, g0, d0, t0, os0⟩ := s
  have one : wpAny (model prog w) A (tryMethod (.ref x) (PySem.dunder nm) (.ref y)) (fun r s' => ∃ v, r = some v ∧ Q v s') E ⟨hh, g0, d0, t0, os0⟩ := tail hh t0 fun _ _ z => z
  simp only [binaryOp, hi]
  refine wpAny_holding (wpAny_bind ?_)
  unfold binaryOp1
  refine wpAny_bind (L1.at (wpAny_bind (L2.at (wpAny_bind (L3.at ?_)))))
  by_cases e : C = D
  · subst e
    simp only [beq_self_eq_true, if_true]
    ksp_lk
    refine wpAny_mono one (fun r s' hr' => ?_) fun _ _ e => e
    obtain ⟨v, rfl, hq⟩ := hr'
    ksp_lk
    exact hq
  · have hne : (Value.ref C == Value.ref D) = false := Bool.eq_false_iff.mpr fun q => e (by cases beq_iff_eq.mp q; rfl)
    obtain ⟨r, hr2⟩ := hsub e
    have L5 : Looks (model prog w) hh (isSubtype (.ref D) (.ref C)) r := looks_subIn X hr2
    simp only [hne, Bool.false_eq_true, if_false]
    cases r with
    | false =>
      ksp_lk
      refine wpAny_mono one (fun r s' hr' => ?_) fun _ _ e => e
      obtain ⟨v, rfl, hq⟩ := hr'
      ksp_lk
      exact hq
    | true =>
      refine wpAny_bind (L4.at ?_)
      simp only [Bool.and_self, if_true]
      refine wpAny_bind (L5.at ?_)
      simp only [if_true]
      refine wpAny_bind (no_reflected (s := ⟨hh, g0, d0, t0, os0⟩) X hA L6 L7 hrD hz fun h' tk k => ?_)
      have L6' : Looks (model prog w) h' (numberSlotInPython (.ref C) nm) true := ksp_inPy (X.keeps k) hs hr (.inl rfl)
      have L7' : Looks (model prog w) h' (numberSlotInPython (.ref D) nm) true := ksp_inPy (X.keeps k) hsD hrD.own (.inl rfl)
      have two : wpAny (model prog w) A (tryMethod (.ref x) (PySem.dunder nm) (.ref y)) (fun r s' => ∃ v, r = some v ∧ Q v s') E ⟨h', g0, d0, tk, os0⟩ := tail h' tk k
      simp only [Bool.false_eq_true, if_false, Bool.not_false, Bool.and_self, if_true]
      ksp_lk
      refine wpAny_mono two (fun r s' hr' => ?_) fun _ _ e => e
      obtain ⟨v, rfl, hq⟩ := hr'
      ksp_lk
      exact hq
/-- x == y, both of the text's own classes: the def of the one, or of the other where that one's class descends -/
theorem eq_own {f g : Addr} (X : K.In s.heap) (hu : A.units < cLine) (I : InstAt s.heap x ox C od) (J : InstAt s.heap y oy D oe)
    (hs : findIn K (.ref C) "__eq__" = some (some (.ref f))) (hf : isFn K (.ref f) = true) (hsD : findIn K (.ref D) "__eq__" = some (some (.ref g))) (hg : isFn K (.ref g) = true)
    (hsub : C ≠ D → ∃ r, subIn K (.ref D) (.ref C) = some r)
    (h1 : wpAny (model prog w) A (call (.ref f) [.ref x, .ref y]) (PySem.W.CmpBack Q) E s) (h2 : wpAny (model prog w) A (call (.ref g) [.ref y, .ref x]) (PySem.W.CmpBack Q) E s) : wpAny (model prog w) A (richCompare .Eq (.ref x) (.ref y)) Q E s := by
  have try' : ∀ {u v : Addr} {c e : Addr} {ou : Obj} {oo : Option Obj}, InstAt s.heap u ou c oo → findIn K (.ref c) "__eq__" = some (some (.ref e)) → isFn K (.ref e) = true → wpAny (model prog w) A (call (.ref e) [.ref u, .ref v]) (PySem.W.CmpBack Q) E s →
      wpAny (model prog w) A (tryCompare (.ref u) "__eq__" (.ref v)) (fun r s' => ∃ z, r = some z ∧ Q z s') E s := fun U a b hh => by
    unfold tryCompare
    refine wpAny_bind (ifBound_K X U a b (wpAny_mono hh (fun z s' hz => ?_) fun _ _ e => e))
    cases z <;> first | exact hz.elim | exact wpAny_pure ⟨_, rfl, hz⟩
  unfold richCompare
  simp only [oneThing_ref]
  refine wpAny_holding (wpAny_bind (wpAny_cRoomFor hu ?_))
  refine wpAny_bind (I.type.here (wpAny_bind (J.type.here ?_)))
  by_cases e : C = D
  · subst e
    have ne : (Value.ref C != Value.ref C) = false := by simp
    rw [ne, if_neg Bool.false_ne_true]
    refine wpAny_bind (wpAny_pure ?_)
    simp only [Bool.false_eq_true, if_false]
    refine wpAny_bind (wpAny_mono (try' I hs hf h1) (fun r s' z => ?_) fun _ _ e => e)
    obtain ⟨v, rfl, hq⟩ := z
    exact wpAny_pure hq
  · have ne : (Value.ref C != Value.ref D) = true := by simpa using e
    rw [ne, if_pos rfl]
    obtain ⟨r, hr⟩ := hsub e
    refine wpAny_bind ((looks_subIn X hr).here ?_)
    cases r with
    | false =>
      simp only [Bool.false_eq_true, if_false]
      refine wpAny_bind (wpAny_mono (try' I hs hf h1) (fun r s' z => ?_) fun _ _ e => e)
      obtain ⟨v, rfl, hq⟩ := z
      exact wpAny_pure hq
    | true =>
      simp only [if_true]
      refine wpAny_bind (m := tryCompare (.ref y) _ (.ref x)) (wpAny_mono (try' J hsD hg h2) (fun r s' z => ?_) fun _ _ e => e)
      obtain ⟨v, rfl, hq⟩ := z
      exact wpAny_bind (wpAny_rule (wpAny_pure hq))
/-- x != y by the built-in way, which asks == -/
theorem ne_try {f : Addr} (X : K.In s.heap) (hu : A.units + 1 < cLine) (I : InstAt s.heap x ox C od) (hn : findIn K (.ref C) "__ne__" = some (some (.builtin "object.__ne__"))) (ho : subIn K (.ref C) (.type "object") = some true)
    (hs : findIn K (.ref C) "__eq__" = some (some (.ref f))) (hf : isFn K (.ref f) = true) (h : wpAny (model prog w) A.in1 (call (.ref f) [.ref x, .ref y]) (fun v s' => ∃ b, v = .bool b ∧ Q (.bool !b) s') E s) :
    wpAny (model prog w) A (tryCompare (.ref x) "__ne__" (.ref y)) (fun r s' => ∃ z, r = some z ∧ Q z s') E s := by
  unfold tryCompare
  refine wpAny_bind (m := callSpecialIfBound? (.ref x) "__ne__" [.ref y]) ?_
  simp only [callSpecialIfBound?, bindSpecialIfBound?]
  refine wpAny_holding (wpAny_bind (wpAny_bind (wpAny_bind (I.type.here ((looks_findIn X hn).here ?_)))))
  refine wpAny_bind (wpAny_askSetting (wpAny_ite ?_))
  have bnd : bindSpecial (.builtin "object.__ne__") (.ref x) = pure (.builtin "object.__ne__", [.ref x]) := F.cmp_object.ne.bind (.ref x)
  have body : wpAny (model prog w) A (call (.builtin "object.__ne__") [.ref x, .ref y]) (fun v s' => ∃ b, v = .bool (!b) ∧ Q (.bool !b) s') E s := by
    refine wpAny_call (codeAny_call_builtin F.cmp_object.ne.plain F.cmpEntry_ne (PySem.W.check_slot F.cmpKind_ne F.cmpSplit_ne (I.type.andThen (looks_subIn X ho)) (F.cmpArgs_ne _ _) ?_))
    unfold Builtin.«object.__ne__»
    refine wpAny_bind (wpAny_of_eq (a := ((Value.ref x : Value), [Value.ref y])) (by first | rfl | (simp only [slotArgs]; rfl)) ?_)
    refine wpAny_bind (wpAny_cRoomFor (by show A.units + 1 < cLine; exact hu) ?_)
    refine wpAny_bind (ifBound_K X I hs hf (wpAny_mono h (fun v s' hv => ?_) fun _ _ z => z))
    obtain ⟨b, rfl, hq⟩ := hv
    exact wpAny_bind (m := truthy (.bool b)) (wpAny_pure (wpAny_pure ⟨b, rfl, hq⟩))
  have fin : wpAny (model prog w) A (call (.builtin "object.__ne__") ([.ref x] ++ [.ref y]) >>= fun v => pure (some v)) (fun r s' => wpAny (model prog w) A (match r with
      | some .notImplemented | none => pure none
      | some v => pure (some v)) (fun r s' => ∃ z, r = some z ∧ Q z s') E s') E s := wpAny_bind (wpAny_mono body (fun v s' h' => by
    obtain ⟨b, rfl, hq⟩ := h'
    exact wpAny_pure (wpAny_pure ⟨_, rfl, hq⟩)) fun _ _ h' => h')
  rw [bnd]
  split
  · exact wpAny_bind (wpAny_pure (wpAny_pure (by exact fin)))
  · exact wpAny_tryCatch (wpAny_bind (wpAny_pure (wpAny_pure (by exact fin))))
theorem ne_own {f g : Addr} (X : K.In s.heap) (hu : A.units + 1 < cLine) (I : InstAt s.heap x ox C od) (J : InstAt s.heap y oy D oe)
    (hn : findIn K (.ref C) "__ne__" = some (some (.builtin "object.__ne__"))) (hnD : findIn K (.ref D) "__ne__" = some (some (.builtin "object.__ne__"))) (ho : subIn K (.ref C) (.type "object") = some true) (hoD : subIn K (.ref D) (.type "object") = some true)
    (hs : findIn K (.ref C) "__eq__" = some (some (.ref f))) (hf : isFn K (.ref f) = true) (hsD : findIn K (.ref D) "__eq__" = some (some (.ref g))) (hg : isFn K (.ref g) = true)
    (hsub : C ≠ D → ∃ r, subIn K (.ref D) (.ref C) = some r)
    (h1 : wpAny (model prog w) A.in1 (call (.ref f) [.ref x, .ref y]) (fun v s' => ∃ b, v = .bool b ∧ Q (.bool !b) s') E s) (h2 : wpAny (model prog w) A.in1 (call (.ref g) [.ref y, .ref x]) (fun v s' => ∃ b, v = .bool b ∧ Q (.bool !b) s') E s) : wpAny (model prog w) A (richCompare .NotEq (.ref x) (.ref y)) Q E s := by
  unfold richCompare
  simp only [oneThing_ref]
  refine wpAny_holding (wpAny_bind (wpAny_cRoomFor (Nat.lt_of_succ_lt hu) ?_))
  refine wpAny_bind (I.type.here (wpAny_bind (J.type.here ?_)))
  by_cases e : C = D
  · subst e
    have ne : (Value.ref C != Value.ref C) = false := by simp
    rw [ne, if_neg Bool.false_ne_true]
    refine wpAny_bind (wpAny_pure ?_)
    simp only [Bool.false_eq_true, if_false]
    refine wpAny_bind (wpAny_mono (ne_try X hu I hn ho hs hf h1) (fun r s' z => ?_) fun _ _ e => e)
    obtain ⟨v, rfl, hq⟩ := z
    exact wpAny_pure hq
  · have ne : (Value.ref C != Value.ref D) = true := by simpa using e
    rw [ne, if_pos rfl]
    obtain ⟨r, hr⟩ := hsub e
    refine wpAny_bind ((looks_subIn X hr).here ?_)
    cases r with
    | false =>
      simp only [Bool.false_eq_true, if_false]
      refine wpAny_bind (wpAny_mono (ne_try X hu I hn ho hs hf h1) (fun r s' z => ?_) fun _ _ e => e)
      obtain ⟨v, rfl, hq⟩ := z
      exact wpAny_pure hq
    | true =>
      simp only [if_true]
      refine wpAny_bind (m := tryCompare (.ref y) _ (.ref x)) (wpAny_mono (ne_try X hu J hnD hoD hsD hg h2) (fun r s' z => ?_) fun _ _ e => e)
      obtain ⟨v, rfl, hq⟩ := z
      exact wpAny_bind (wpAny_rule (wpAny_pure hq))
end
end RL

set_option Elab.async false
set_option linter.all false
set_option maxRecDepth 100000
set_option maxHeartbeats 4000000
/-! RL5: own operators as rules over the layer -/
namespace RL
open PySem PySem.Spec PyProof.Rows L2
/-- a family of classes of the text whose instances meet in operators -/
structure Fam (K : PySem.W.Frag) (Cs : Addr → Prop) : Prop where
  cls : ∀ C, Cs C → Cls K C
  first : ∀ C, Cs C → PySem.W.selfFirst K C = true
  sub : ∀ C D, Cs C → Cs D → C ≠ D → ∃ r, PySem.W.subIn K (.ref D) (.ref C) = some r
  obj : ∀ C, Cs C → PySem.W.subIn K (.ref C) (.type "object") = some true
  ne : ∀ C, Cs C → PySem.W.findIn K (.ref C) "__ne__" = some (some (.builtin "object.__ne__"))
def InsAny (Cs : Addr → Prop) (v : V) (H : Hp) : Prop := ∃ a C dx fs, v = .ref a ∧ H a = some (.ins C dx fs) ∧ Cs C
section
variable {X : Cx} {Cs : Addr → Prop} {k : Nat} {m : Str} {ps : List Str} {sp : Sp}
theorem inst_of {pins : List (Addr × Obj)} {σ : L2.St} {H : Hp} {s : Shared} {a C dx : Addr} {fs : List (Str × V)} (I : Inv X pins σ H s) (h : H a = some (.ins C dx fs)) : ∃ ox od, PySem.W.InstAt s.heap a ox C od := by
  obtain ⟨mA, J, _⟩ := ins_get I.hok h
  obtain ⟨od, J, _⟩ := J.look
  exact ⟨_, _, J⟩
theorem not_ni {v : V} {u : Value} (r : L2.RelV v u) : u ≠ .notImplemented := by
  cases v <;> (unfold L2.RelV at r; first | (subst r; intro z; cases z) | (obtain ⟨_, rfl⟩ := r; intro z; cases z))
theorem back_of {pins : List (Addr × Obj)} {σ : L2.St} {Q : VK} {u : Value} {s' : Shared} (h : EP X pins σ Q u s') : PySem.W.CmpBack (EP X pins σ Q) u s' := by
  obtain ⟨v, H', I, r, q⟩ := h
  have hn := not_ni r
  cases u <;> first | exact ⟨v, H', I, r, q⟩ | exact absurd rfl hn
/-- x op y by the text's own def -/
theorem op_ownB {op : Operator} (Fa : Fam X.K Cs) (F : MtG X.prog X.w X.K X.mg X.base k Cs (PySem.dunder op.info.2) ps sp) (hr : Room k X.A) (hl : ∀ D, Cs D → Lacks X.K D (dunderR op.info.2)) (hz : (dunderR op.info.2).length ≤ sizeLine := by decide +kernel) :
    OpR X (binaryOp op) (fun x y H Q => InsAny Cs x H ∧ InsAny Cs y H ∧ sp [x, y] H Q E0) := by
  intro pins s σ H x y v u Q I rx ry h
  obtain ⟨⟨a, C, dx, fs, ex, ha, hC⟩, ⟨b, D, dy, gs, ey, hb, hD⟩, q⟩ := h
  subst ex; subst ey; cases rx; cases ry
  obtain ⟨ox, od, J⟩ := inst_of I ha
  obtain ⟨oy, oe, J2⟩ := inst_of I hb
  obtain ⟨f, fd, F1, _, M, B⟩ := F.ex C hC
  obtain ⟨g, _, _, _, M2, _⟩ := F.ex D hD
  refine binop_own I.kIn hr.hd J J2 (Fa.first C hC) (Fa.first D hD) M.at_ M.fn (hl C hC).own ⟨g, M2.at_⟩ (hl D hD) hz (fun ne => Fa.sub C D hC hD ne) fun h' tk kp => ?_
  have I' : Inv X pins σ H { s with heap := h', toks := tk } := I.un (Un.kept kp) (I.hok.kept kp)
  exact wpAny_mono (run_fn (us := [.ref a, .ref b]) (vs := [.ref a, .ref b]) F1 hr B .nil pass0 I' (.cons rfl (.cons rfl .nil)) q) (fun _ _ z => back_of z) fun _ _ z => z
/-- what an own == promises: of instances in the family a truth value -/
theorem op_ownE (Fa : Fam X.K Cs) (F : MtG X.prog X.w X.K X.mg X.base k Cs "__eq__" ps sp) (hr : Room k X.A) :
    OpR X (compareOp .Eq) (fun x y H Q => InsAny Cs x H ∧ InsAny Cs y H ∧ sp [x, y] H Q E0 ∧ sp [y, x] H Q E0) := by
  intro pins s σ H x y v u Q I rx ry h
  obtain ⟨⟨a, C, dx, fs, ex, ha, hC⟩, ⟨b, D, dy, gs, ey, hb, hD⟩, q, q'⟩ := h
  subst ex; subst ey; cases rx; cases ry
  obtain ⟨ox, od, J⟩ := inst_of I ha
  obtain ⟨oy, oe, J2⟩ := inst_of I hb
  obtain ⟨f, fd, F1, _, M, B⟩ := F.ex C hC
  obtain ⟨g, gd, F2, _, M2, B2⟩ := F.ex D hD
  show wpAny _ _ (richCompare .Eq (.ref a) (.ref b)) _ _ _
  exact eq_own I.kIn hr.units0 J J2 M.at_ M.fn M2.at_ M2.fn (fun ne => Fa.sub C D hC hD ne)
    (wpAny_mono (run_fn (us := [.ref a, .ref b]) (vs := [.ref a, .ref b]) F1 hr B .nil pass0 I (.cons rfl (.cons rfl .nil)) q) (fun _ _ z => back_of z) fun _ _ z => z)
    (wpAny_mono (run_fn (us := [.ref b, .ref a]) (vs := [.ref b, .ref a]) F2 hr B2 .nil pass0 I (.cons rfl (.cons rfl .nil)) q') (fun _ _ z => back_of z) fun _ _ z => z)
end
section
variable {X : Cx} {Cs : Addr → Prop} {k : Nat} {m : Str} {ps : List Str} {sp : Sp}
theorem run_fn1 {f : Addr} {fd : FuncData} {pins : List (Addr × Obj)} {σ : L2.St} {H : Hp} {s : Shared} {Q : VK} {us : List Value} {vs : List V} (F : FnOk X.prog X.w X.K X.mg X.base CX0 k f fd ps sp) (hr : Room (k + 1) X.A) (hb : Binds X.K fd ps [])
    (I : Inv X pins σ H s) (r : Vals vs us) (h : sp vs H Q E0) : wpAny (model X.prog X.w) X.A.in1 (call (.ref f) us) (EP X pins σ Q) X.xe s := by
  have hl : us.length = ps.length := by rw [← r.length]; exact F.len _ _ _ _ h
  have b := hb s us I.kIn (by simpa using hl)
  rw [List.append_nil] at b
  refine wpAny_call (codeAny_mono (F.run X.A.in1 X.stack s H ⟨us, []⟩ us vs Q E0 hr.in1 I.env0.in1 b r h) fun r s' hq => ?_)
  cases r with
  | error e => exact False.elim hq
  | ok fl =>
    cases fl with
    | ret u => exact I.after hq
    | next => exact False.elim hq
    | brk => exact False.elim hq
    | cont => exact False.elim hq
theorem op_ownN (Fa : Fam X.K Cs) (F : MtG X.prog X.w X.K X.mg X.base k Cs "__eq__" ps sp) (hr : Room (k + 1) X.A) :
    OpR X (compareOp .NotEq) (fun x y H Q => InsAny Cs x H ∧ InsAny Cs y H ∧ sp [x, y] H (fun v H' => ∃ c, v = .bl c ∧ Q (.bl !c) H') E0 ∧ sp [y, x] H (fun v H' => ∃ c, v = .bl c ∧ Q (.bl !c) H') E0) := by
  intro pins s σ H x y v u Q I rx ry h
  obtain ⟨⟨a, C, dx, fs, ex, ha, hC⟩, ⟨b, D, dy, gs, ey, hb, hD⟩, q, q'⟩ := h
  subst ex; subst ey; cases rx; cases ry
  obtain ⟨ox, od, J⟩ := inst_of I ha
  obtain ⟨oy, oe, J2⟩ := inst_of I hb
  obtain ⟨f, fd, F1, _, M, B⟩ := F.ex C hC
  obtain ⟨g, gd, F2, _, M2, B2⟩ := F.ex D hD
  have fin : ∀ {u : Value} {s' : Shared}, EP X pins σ (fun v H' => ∃ c, v = .bl c ∧ Q (.bl !c) H') u s' → ∃ c, u = .bool c ∧ EP X pins σ Q (.bool !c) s' := fun h => by
    obtain ⟨v, H', I, r, c, ev, q⟩ := h
    subst ev
    exact ⟨c, r, .bl (!c), H', I, rfl, q⟩
  show wpAny _ _ (richCompare .NotEq (.ref a) (.ref b)) _ _ _
  refine ne_own I.kIn ?_ J J2 (Fa.ne C hC) (Fa.ne D hD) (Fa.obj C hC) (Fa.obj D hD) M.at_ M.fn M2.at_ M2.fn (fun ne => Fa.sub C D hC hD ne)
    (wpAny_mono (run_fn1 (us := [.ref a, .ref b]) (vs := [.ref a, .ref b]) F1 hr B I (.cons rfl (.cons rfl .nil)) q) (fun _ _ z => fin z) fun _ _ z => z)
    (wpAny_mono (run_fn1 (us := [.ref b, .ref a]) (vs := [.ref b, .ref a]) F2 hr B2 I (.cons rfl (.cons rfl .nil)) q') (fun _ _ z => fin z) fun _ _ z => z)
  have := hr.units
  omega
end
end RL

set_option Elab.async false
set_option linter.all false
set_option maxRecDepth 100000
set_option maxHeartbeats 4000000
/-! RL6: a head's facts with further ones of one's own; from facts to promises -/
namespace RL
open PySem PySem.Spec PyProof.Rows L2
/-- the fragment: what the module's names reach, and the statics -/
def frX (n : Nat) (g : Addr → Option Obj) : PySem.W.Frag := He.frG g (cStatics :: He.asD g n)
abbrev AlX : Type := He.AlD × Bool
def obsX (n : Nat) (fa : List He.Fa) (fn : List He.DefD) (ex : PySem.W.Frag → Bool) (g : Addr → Option Obj) : AlX := (He.obsD fa fn (frX n g), ex (frX n g))
def SaysX (fa : List He.Fa) (fn : List He.DefD) (ex : PySem.W.Frag → Bool) (K : PySem.W.Frag) : Prop := He.SaysD fa fn K ∧ ex K = true
def hookX (n : Nat) (fa : List He.Fa) (fn : List He.DefD) (ex : PySem.W.Frag → Bool) : PySem.W.Hook where
  α := AlX
  obs := fun s => obsX n fa fn ex s.heap.get?
  val := fun _ => (He.valD fn, true)
  says := fun _ h => ∃ K : PySem.W.Frag, K.In h ∧ SaysX fa fn ex K
  of := fun _ s e => ⟨frX n s.heap.get?, He.frG_in, (Prod.mk.inj e).1, (Prod.mk.inj e).2⟩
  keeps := fun _ _ _ ⟨K, hK, c⟩ k => ⟨K, PySem.W.Frag.In.keeps hK k, c⟩
theorem obsX_eq {n : Nat} {fa : List He.Fa} {fn : List He.DefD} {ex : PySem.W.Frag → Bool} {g : Addr → Option Obj} {s : Shared} (h : ∀ a, g a = s.heap.get? a) : obsX n fa fn ex g = (hookX n fa fn ex).obs s := by
  have e : g = s.heap.get? := funext h
  rw [e] <;> rfl
/-! ### facts of classes that meet in operators -/
open PySem.W in
def lacksB (K : Frag) (D : Addr) (name : Str) : Bool := He.eqO (nsIn K cStatics "thirdparty.any") (some none) && decide (typeIn K (.ref D) = some (.type "type")) && He.eqO (findIn K (.type "type") "__getattribute__") (some (some (.builtin "type.__getattribute__"))) &&
  He.eqO (findIn K (.type "type") "__getattr__") (some none) && decide (subIn K (.type "type") (.type "type") = some true) && He.eqO (findIn K (.type "type") name) (some none) && He.eqO (findIn K (.ref D) name) (some none) &&
  (match clsIn K D with
    | some cd => decide (cd.name.cps.foldl (fun k c => k + (Str.utf8Of c).length) 0 ≤ 100) && decide ((((s!"type object '{cd.name.toString}' has no attribute '" : String) : Str) ++ name ++ "'").length ≤ sizeLine)
    | none => false)
theorem lacks_of {K : PySem.W.Frag} {D : Addr} {name : Str} (h : lacksB K D name = true) : Lacks K D name := by
  unfold lacksB at h
  simp only [Bool.and_eq_true, decide_eq_true_eq] at h
  obtain ⟨⟨⟨⟨⟨⟨⟨h1, h2⟩, h3⟩, h4⟩, h5⟩, h6⟩, h7⟩, h8⟩ := h
  refine ⟨He.eqO_ok h1, h2, He.eqO_ok h3, He.eqO_ok h4, h5, He.eqO_ok h6, He.eqO_ok h7, ?_⟩
  split at h8
  · rename_i cd e
    simp only [Bool.and_eq_true, decide_eq_true_eq] at h8
    exact ⟨cd, e, h8.1, h8.2⟩
  · cases h8
open PySem.W in
def famB (K : Frag) (cs : List Str) : Bool := cs.all fun x => (He.Fa.cls x).ok K && selfFirst K (He.ga K x) && decide (subIn K (.ref (He.ga K x)) (.type "object") = some true) && He.eqO (findIn K (.ref (He.ga K x)) "__ne__") (some (some (.builtin "object.__ne__"))) &&
  cs.all fun y => (subIn K (.ref (He.ga K y)) (.ref (He.ga K x))).isSome
open PySem.W in
/-- isinstance against the class x, of an instance of one of these -/
def isaB (K : Frag) (cs : List Str) (x : Str) : Bool := (He.Fa.cls x).ok K && decide (specialIn K (.builtin "object.__class__") "__get__" = some (some (.builtin "getset_descriptor.__get__"))) && decide (takesIn K (.builtin "object.__class__") = some true) &&
  cs.all fun y => (He.Fa.cls y).ok K && He.eqO (findIn K (.ref (He.ga K y)) "__class__") (some (some (.builtin "object.__class__"))) && decide (mroIn K (He.ga K y) (.type "object") = some true) && decide (kitOne K (.ref (He.ga K y)) (.ref (He.ga K x)) = some true)
/-- the classes of these names -/
def NamesC (K : PySem.W.Frag) (cs : List Str) (C : Addr) : Prop := ∃ x ∈ cs, C = He.ga K x
theorem fam_of {K : PySem.W.Frag} {cs : List Str} (h : famB K cs = true) : Fam K (NamesC K cs) := by
  unfold famB at h
  have g : ∀ x ∈ cs, _ := fun x hx => List.all_eq_true.mp h x hx
  simp only [Bool.and_eq_true, decide_eq_true_eq] at g
  refine ⟨?_, ?_, ?_, ?_, ?_⟩
  · rintro C ⟨x, hx, rfl⟩; exact He.cls_ok (g x hx).1.1.1.1
  · rintro C ⟨x, hx, rfl⟩; exact (g x hx).1.1.1.2
  · rintro C D ⟨x, hx, rfl⟩ ⟨y, hy, rfl⟩ _
    exact Option.isSome_iff_exists.mp (List.all_eq_true.mp (g x hx).2 y hy)
  · rintro C ⟨x, hx, rfl⟩; exact (g x hx).1.1.2
  · rintro C ⟨x, hx, rfl⟩; exact He.eqO_ok (g x hx).1.2
theorem isa_of {K : PySem.W.Frag} {cs : List Str} {x : Str} (h : isaB K cs x = true) {v : V} {H : Hp} (hv : InsAny (NamesC K cs) v H) : ∃ t, TyX K H v t ∧ PySem.W.kitOne K t (.ref (He.ga K x)) = some true := by
  unfold isaB at h
  simp only [Bool.and_eq_true, decide_eq_true_eq] at h
  obtain ⟨⟨⟨_, h2⟩, h3⟩, h4⟩ := h
  obtain ⟨a, C, dx, fs, rfl, ha, y, hy, rfl⟩ := hv
  have g := List.all_eq_true.mp h4 y hy
  simp only [Bool.and_eq_true, decide_eq_true_eq] at g
  exact ⟨_, .base (.ins ha (He.cls_ok g.1.1.1) (He.eqO_ok g.1.1.2) h2 h3 g.1.2), g.2⟩
/-! ### from facts to promises -/
/-- what is known behind the top -/
structure Tx (qa : List He.Fa) (qn : List He.DefD) (ex : PySem.W.Frag → Bool) (K : PySem.W.Frag) (mg : Str → Option Value) : Prop where
  c : SaysX qa qn ex K
  ns : ∃ h, K.In h ∧ h.Ns mainGlobals mg
section
variable {qa : List He.Fa} {qn : List He.DefD} {ex : PySem.W.Frag → Bool} {K : PySem.W.Frag} {mg : Str → Option Value} {P : Program} {w : World} {base : Heap} {k : Nat} {ps : List Str} {sp : Sp}
theorem Tx.glo (T : Tx qa qn ex K mg) (x : Str) (h : He.Fa.glo x ∈ qa) : mg x = some (.ref (He.ga K x)) := by
  obtain ⟨hp, X, G⟩ := T.ns
  obtain ⟨i, hi⟩ := List.mem_iff_getElem?.mp h
  exact He.glo_ok X G (T.c.1.fact i hi)
theorem Tx.free (T : Tx qa qn ex K mg) (x : Str) (h : He.Fa.free x ∈ qa) : mg x = none := by
  obtain ⟨hp, X, G⟩ := T.ns
  obtain ⟨i, hi⟩ := List.mem_iff_getElem?.mp h
  exact He.free_ok X G (T.c.1.fact i hi)
theorem Tx.int (T : Tx qa qn ex K mg) (x : Str) (i : Int) (h : He.Fa.int x i ∈ qa) : ∃ t, mg x = some (.int i t) := by
  obtain ⟨hp, X, G⟩ := T.ns
  obtain ⟨j, hj⟩ := List.mem_iff_getElem?.mp h
  exact He.int_ok X G (T.c.1.fact j hj)
theorem Tx.fact (T : Tx qa qn ex K mg) (f : He.Fa) (h : f ∈ qa) : f.ok K = true := by
  obtain ⟨i, hi⟩ := List.mem_iff_getElem?.mp h
  exact T.c.1.fact i hi
theorem Tx.def_ (T : Tx qa qn ex K mg) (d : He.DefD) (h : d ∈ qn) : ∃ fd, FunD K d.name d.qual d.params d.body d.scope (d.dvs K) (d.kws K) (He.fAd K d.at_) fd := by
  obtain ⟨i, hi⟩ := List.mem_iff_getElem?.mp h
  exact T.c.1.def_ i hi
/-- a def of the module -/
theorem Tx.fn (T : Tx qa qn ex K mg) (d : He.DefD) (h : d ∈ qn) (x : Str) (hx : d.at_ = (x, none)) (hg : He.Fa.glo x ∈ qa) (hz : d.dfl = [])
    (hb : ∀ (kV doc pm : Value) (an : Option Addr) (cdv ct : Value) (us : List Value), us.length = ps.length → bindArgs (PySem.W.fnOf d.name d.qual d.params d.body d.scope .none kV doc pm an cdv ct) ⟨us, []⟩ = pure (ps.zip us))
    (ok : ∀ f fd, FunD K d.name d.qual d.params d.body d.scope [] (d.kws K) f fd → FnOk P w K mg base CX0 k f fd ps sp) : FnG P w K mg base k x ps sp := by
  obtain ⟨fd, F⟩ := T.def_ d h
  have e0 : d.dvs K = [] := by unfold He.DefD.dvs; rw [hz]; rfl
  rw [e0] at F
  refine ⟨_, fd, ok _ _ F, ?_, F.kp, F.bindsN hb⟩
  have e : He.fAd K d.at_ = He.ga K x := by rw [hx]; rfl
  rw [e]
  exact T.glo x hg
/-- a method that all classes of these names have -/
theorem Tx.mt (T : Tx qa qn ex K mg) (cs : List Str) (m : Str) (d : Str → He.DefD) (h : ∀ x ∈ cs, d x ∈ qn ∧ (d x).at_ = (x, some m) ∧ (d x).dfl = [] ∧ He.Fa.cls x ∈ qa ∧ He.Fa.meth x m ∈ qa)
    (hb : ∀ x ∈ cs, ∀ (kV doc pm : Value) (an : Option Addr) (cdv ct : Value) (us : List Value), us.length = ps.length → bindArgs (PySem.W.fnOf (d x).name (d x).qual (d x).params (d x).body (d x).scope .none kV doc pm an cdv ct) ⟨us, []⟩ = pure (ps.zip us))
    (ok : ∀ x ∈ cs, ∀ f fd, FunD K (d x).name (d x).qual (d x).params (d x).body (d x).scope [] ((d x).kws K) f fd → FnOk P w K mg base CX0 k f fd ps sp) : MtG P w K mg base k (NamesC K cs) m ps sp := by
  refine ⟨?_⟩
  rintro C ⟨x, hx, rfl⟩
  obtain ⟨h1, h2, h3, h4, h5⟩ := h x hx
  obtain ⟨fd, F⟩ := T.def_ (d x) h1
  have e0 : (d x).dvs K = [] := by unfold He.DefD.dvs; rw [h3]; rfl
  rw [e0] at F
  have e : He.fAd K (d x).at_ = He.ma K (He.ga K x) m := by rw [h2]; rfl
  rw [e] at F
  exact ⟨_, fd, ok x hx _ _ F, He.cls_ok (T.fact _ h4), He.meth_ok (T.fact _ h5), F.bindsN (hb x hx)⟩
end
end RL

set_option Elab.async false
set_option linter.all false
set_option maxRecDepth 100000
set_option maxHeartbeats 4000000
/-! RL7: further rules: truth, choices, while, the usual operators, isinstance -/
namespace RL
open PySem PySem.Spec PyProof.Rows L2
section
variable {X : Cx} {Γ : Ctx} {e o a b c d : Expr} {es : List Expr} {T U : Ty} {Ts Us : List Ty} {pos p p2 apos : Pos} {x m : Str}
/-! ints -/
section
variable {i j : Int}
theorem g_add (ha : G X Γ a (intT i)) (hb : G X Γ b (intT j)) : G X Γ (.BinOp a .Add b pos) (intT (i + j)) := g_op op_add ha hb (r_I0 (g := fun i j => V.int (i + j)))
theorem g_sub (ha : G X Γ a (intT i)) (hb : G X Γ b (intT j)) : G X Γ (.BinOp a .Sub b pos) (intT (i - j)) := g_op op_sub ha hb (r_I0 (g := fun i j => V.int (i - j)))
theorem g_mul {n k : Nat} (ha : G X Γ a (intT i)) (hb : G X Γ b (intT j)) (hi : i.natAbs < 2 ^ n) (hj : j.natAbs < 2 ^ k) (hn : 0 < n := by decide) (hk : 0 < k := by decide) (h : n + k ≤ 1000000 := by decide) : G X Γ (.BinOp a .Mult b pos) (intT (i * j)) := g_op op_mulW ha hb (r_I (g := fun i j => V.int (i * j)) (wide_mul hi hj hn hk h))
theorem g_mod (ha : G X Γ a (intT i)) (hb : G X Γ b (intT j)) (hj : 0 < j) : G X Γ (.BinOp a .Mod b pos) (intT (i % j)) := g_op op_mod ha hb (r_I (g := fun i j => V.int (i % j)) (C := fun _ j => 0 < j) hj)
theorem g_fdiv {k : Nat} (ha : G X Γ a (intT i)) (hb : G X Γ b (intT j)) (hj : 0 < j) (hk : j.natAbs < 2 ^ k) (h0 : 0 < k := by decide) (h9 : k ≤ 9000 := by decide) : G X Γ (.BinOp a .FloorDiv b pos) (intT (i / j)) := g_op op_fdivW ha hb (r_I (g := fun i j => V.int (i / j)) (wide_div hj hk h0 h9))
theorem gt_lt (ha : G X Γ a (intT i)) (hb : G X Γ b (intT j)) : GT X Γ (.Compare a [.Lt] [b] pos) (decide (i < j)) := gt_cmp op_lt ha hb (r_I0 (g := fun i j => V.bl (decide (i < j)))) (nomark _)
theorem gt_le (ha : G X Γ a (intT i)) (hb : G X Γ b (intT j)) : GT X Γ (.Compare a [.LtE] [b] pos) (decide (i ≤ j)) := gt_cmp op_le ha hb (r_I0 (g := fun i j => V.bl (decide (i ≤ j)))) (nomark _)
theorem gt_gt (ha : G X Γ a (intT i)) (hb : G X Γ b (intT j)) : GT X Γ (.Compare a [.Gt] [b] pos) (decide (j < i)) := gt_cmp op_gt ha hb (r_I0 (g := fun i j => V.bl (decide (j < i)))) (nomark _)
theorem gt_ge (ha : G X Γ a (intT i)) (hb : G X Γ b (intT j)) : GT X Γ (.Compare a [.GtE] [b] pos) (decide (j ≤ i)) := gt_cmp op_ge ha hb (r_I0 (g := fun i j => V.bl (decide (j ≤ i)))) (nomark _)
theorem g_lt (ha : G X Γ a (intT i)) (hb : G X Γ b (intT j)) : G X Γ (.Compare a [.Lt] [b] pos) (blT (decide (i < j))) := g_cmp op_lt ha hb (r_I0 (g := fun i j => V.bl (decide (i < j)))) (nomark _)
theorem g_le (ha : G X Γ a (intT i)) (hb : G X Γ b (intT j)) : G X Γ (.Compare a [.LtE] [b] pos) (blT (decide (i ≤ j))) := g_cmp op_le ha hb (r_I0 (g := fun i j => V.bl (decide (i ≤ j)))) (nomark _)
theorem g_gt (ha : G X Γ a (intT i)) (hb : G X Γ b (intT j)) : G X Γ (.Compare a [.Gt] [b] pos) (blT (decide (j < i))) := g_cmp op_gt ha hb (r_I0 (g := fun i j => V.bl (decide (j < i)))) (nomark _)
theorem g_ge (ha : G X Γ a (intT i)) (hb : G X Γ b (intT j)) : G X Γ (.Compare a [.GtE] [b] pos) (blT (decide (j ≤ i))) := g_cmp op_ge ha hb (r_I0 (g := fun i j => V.bl (decide (j ≤ i)))) (nomark _)
theorem gt_eqI (ha : G X Γ a (intT i)) (hb : G X Γ b (intT j)) : GT X Γ (.Compare a [.Eq] [b] pos) (decide (i = j)) := (gt_cmp op_eq ha hb (r_Eq rfl) (nomark _)).is (by simp)
end
/-! truth -/
theorem g_not {k : Bool} (h : G X Γ e (blT k)) : G X Γ (.UnaryOp .Not e pos) (blT (!k)) := fun σ H t Q q => toE (pe_not (pe e)) (h σ H t _ fun v H1 e1 h1 => ⟨k, h1, q _ H1 e1 rfl⟩)
theorem gt_and2 {k l : Bool} (ha : GT X Γ a k) (hb : k = true → GT X Γ b l) : GT X Γ (.BoolOp .And [a, b] pos) (k && l) := fun σ H t Q q => toT (PW.pt (pw_and (pt a) (pw_and1 (pt b)))) (ha σ H t _ fun H1 e1 => by
  cases k with
  | true => exact iteT (hb rfl σ H1 (t.up e1) _ fun H2 e2 => q H2 (e1.trans e2))
  | false => exact iteF (q H1 e1))
theorem gt_or2 {k l : Bool} (ha : GT X Γ a k) (hb : k = false → GT X Γ b l) : GT X Γ (.BoolOp .Or [a, b] pos) (k || l) := fun σ H t Q q => toT (PW.pt (pw_or (pt a) (pw_or1 (pt b)))) (ha σ H t _ fun H1 e1 => by
  cases k with
  | true => exact iteT (q H1 e1)
  | false => exact iteF (hb rfl σ H1 (t.up e1) _ fun H2 e2 => q H2 (e1.trans e2)))
theorem gt_or3 {k l n : Bool} (ha : GT X Γ a k) (hb : k = false → GT X Γ b l) (hc : k = false → l = false → GT X Γ c n) : GT X Γ (.BoolOp .Or [a, b, c] pos) (k || l || n) := fun σ H t Q q => toT (PW.pt (pw_or (pt a) (pw_or (pt b) (pw_or1 (pt c))))) (ha σ H t _ fun H1 e1 => by
  cases k with
  | true => exact iteT (q H1 e1)
  | false => exact iteF (hb rfl σ H1 (t.up e1) _ fun H2 e2 => by
    cases l with
    | true => exact iteT (q H2 (e1.trans e2))
    | false => exact iteF (hc rfl rfl σ H2 (t.up (e1.trans e2)) _ fun H3 e3 => q H3 (e1.trans (e2.trans e3)))))
theorem gt_or4 {k l n r : Bool} (ha : GT X Γ a k) (hb : k = false → GT X Γ b l) (hc : k = false → l = false → GT X Γ c n) (hd : k = false → l = false → n = false → GT X Γ d r) : GT X Γ (.BoolOp .Or [a, b, c, d] pos) (k || l || n || r) := fun σ H t Q q => toT (PW.pt (pw_or (pt a) (pw_or (pt b) (pw_or (pt c) (pw_or1 (pt d)))))) (ha σ H t _ fun H1 e1 => by
  cases k with
  | true => exact iteT (q H1 e1)
  | false => exact iteF (hb rfl σ H1 (t.up e1) _ fun H2 e2 => by
    cases l with
    | true => exact iteT (q H2 (e1.trans e2))
    | false => exact iteF (hc rfl rfl σ H2 (t.up (e1.trans e2)) _ fun H3 e3 => by
      cases n with
      | true => exact iteT (q H3 (e1.trans (e2.trans e3)))
      | false => exact iteF (hd rfl rfl rfl σ H3 (t.up (e1.trans (e2.trans e3))) _ fun H4 e4 => q H4 (e1.trans (e2.trans (e3.trans e4)))))))
theorem g_and2 {k l : Bool} (ha : G X Γ a (blT k)) (hb : k = true → G X Γ b (blT l)) : G X Γ (.BoolOp .And [a, b] pos) (blT (k && l)) := fun σ H t Q q => toE (pe_and (pe a) (pe_one (pe b))) (ha σ H t _ fun v H1 e1 h1 => ⟨k, h1, by
  cases k with
  | true => exact iteT (hb rfl σ H1 (t.up e1) _ fun w H2 e2 h2 => q w H2 (e1.trans e2) h2)
  | false => exact iteF (q _ H1 e1 rfl)⟩)
theorem g_and3 {k l n : Bool} (ha : G X Γ a (blT k)) (hb : k = true → G X Γ b (blT l)) (hc : k = true → l = true → G X Γ c (blT n)) : G X Γ (.BoolOp .And [a, b, c] pos) (blT (k && l && n)) := fun σ H t Q q => toE (pe_and (pe a) (pe_and (pe b) (pe_one (pe c)))) (ha σ H t _ fun v H1 e1 h1 => ⟨k, h1, by
  cases k with
  | false => exact iteF (q _ H1 e1 rfl)
  | true => exact iteT (hb rfl σ H1 (t.up e1) _ fun w H2 e2 h2 => ⟨l, h2, by
    cases l with
    | false => exact iteF (q _ H2 (e1.trans e2) rfl)
    | true => exact iteT (hc rfl rfl σ H2 (t.up (e1.trans e2)) _ fun z H3 e3 h3 => q z H3 (e1.trans (e2.trans e3)) h3)⟩)⟩)
theorem g_ite {k : Bool} (hc : GT X Γ c k) (ha : k = true → G X Γ a T) (hb : k = false → G X Γ b T) : G X Γ (.IfExp c a b pos) T := fun σ H t Q q => toE (pe_ifExp (pt c) (pe a) (pe b)) (hc σ H t _ fun H1 e1 => by
  cases k with
  | true => exact iteT (ha rfl σ H1 (t.up e1) _ fun w H2 e2 h2 => q w H2 (e1.trans e2) h2)
  | false => exact iteF (hb rfl σ H1 (t.up e1) _ fun w H2 e2 h2 => q w H2 (e1.trans e2) h2))
/-! isinstance with a built-in class -/
theorem g_isi {v : V} {n n' : String} {r : Bool} (he : G X Γ e T) (ht : ∀ v H, T v H → TyX X.K H v (.type n)) (hm : X.mg "isinstance" = none) (hx : X.mg x = none) (hv : bootBuiltins x = some (.type n')) (hr : kitB n n' = some r) (hg : Gl X "isinstance" := by rfl) (hg' : Gl X x := by rfl)
    (hd : (x == ("__debug__" : Str)) = false := by decide) (hn : x ≠ "__name__" := by decide) (hs : starEach [e, .Name x p2] X.env = (false, eval e X.env) :: starEach [.Name x p2] X.env := by first | exact se_cons rfl | exact se_one rfl | exact se_two rfl rfl | rfl) (hpl : (backTo pos (starEach [.Name x p2] X.env)).any (·.1) = false := by first | exact se_any rfl | rfl) :
    G X Γ (.Call (.Name "isinstance" p) [e, .Name x p2] [] pos) (blT r) := fun σ H t Q q =>
  toE (pe_callB call_isi hg hm (by decide +kernel) (pa_cons (pe e) (pa_cons (pe_bltn (v := .ty n') hg' hx hv rfl hn hd) pa_nil) hs) (he := hs) (hpl := hpl)) (he σ H t _ fun v H1 e1 h1 => ⟨v, .ty n', .type n, .type n', r, rfl, .ty n', ht v H1 h1, kit_ty hr, q _ H1 e1 rfl⟩)

/-! ### while, by data of the turn -/
variable {H0 : Bs} {D : Ends} {st : Stmt} {rest body orelse : List Stmt}
/-- the ends of a turn: the next turn's data -/
def wturnD {β : Type} (D : Ends) (X : Cx) (rest : List Stmt) (H0 : Bs) (F : β → Ctx) (Pz : β → Prop) (μ : β → Nat) (z : β) : Ends := { D with nx := fun σ H => ∃ z', Pz z' ∧ μ z' < μ z ∧ H0.ok H ∧ Typed σ (F z') H, ct := fun σ H => ∃ z', Pz z' ∧ μ z' < μ z ∧ H0.ok H ∧ Typed σ (F z') H, bk := tB X rest D }
theorem b_while {β : Type} (F : β → Ctx) (Pz : β → Prop) (μ : β → Nat) (z0 : β) (h0 : Γ = F z0) (p0 : Pz z0)
    (hs : ∀ z, Pz z → ∃ k, GT X (F z) c k ∧ (k = true → Bd X (F z) body H0 (wturnD D X rest H0 F Pz μ z)) ∧ (k = false → Bd X (F z) rest H0 D))
    (hp : PassesOwn (model X.prog X.w) X.A X.env X.xe := by exact PassesOwn.never) : Bd X Γ (.While c body [] pos :: rest) H0 D :=
  b_cons fun σ H e0 t => toS (ps_while hp (pt c) (pb body)) (by
    refine ⟨fun m σ H => ∃ z, Pz z ∧ m = μ z ∧ H0.ok H ∧ Typed σ (F z) H, ⟨_, z0, p0, rfl, e0, h0 ▸ t⟩, ?_⟩
    rintro m σ H ⟨z, pz, rfl, e1, t1⟩
    obtain ⟨k, hk, h1, h2⟩ := hs z pz
    refine hk σ H t1 _ fun H1 e2 => ?_
    cases k with
    | true =>
      refine iteT ⟨fun σ' H' => ∃ z', Pz z' ∧ μ z' < μ z ∧ H0.ok H' ∧ Typed σ' (F z') H', fun σ' H' ⟨z', a1, a2, a3, a4⟩ => ⟨μ z', a2, z', a1, rfl, a3, a4⟩, ?_⟩
      exact h1 rfl σ H1 (e1.trans e2) (t1.up e2)
    | false => exact iteF (h2 rfl σ H1 (e1.trans e2) (t1.up e2)))
/-- a turn ends -/
theorem wturn {β : Type} {F : β → Ctx} {Pz : β → Prop} {μ : β → Nat} {z : β} (z' : β) (hp : Pz z') (hm : μ z' < μ z) (hF : Γ = F z') : Bd X Γ [] H0 (wturnD D X rest H0 F Pz μ z) := b_nil fun σ H e t => ⟨z', hp, hm, e, hF ▸ t⟩
/-- x += e -/
theorem b_augI {i : Nat} {n k : Int} (hx : Γ[i]? = some (some (intT n))) (he : G X Γ e (intT k)) (h : Bd X (Γ.set i (some (intT (n + k)))) rest H0 D) {p' : Pos} (hN : X.N.Nodup := by first | assumption | decide) (hi : X.N[i]? = some x := by rfl) (hl : Loc X.env.scope x := by first | exact Or.inl rfl | exact Or.inr rfl)
    (hf : X.fn x = true ∨ X.env.scope.names.lookup x = some .local := by first | exact .inl rfl | exact .inr rfl) : Bd X Γ (.AugAssign (.Name x p') .Add e pos :: rest) H0 D :=
  b_cons fun σ H e0 t => toS (ps_aug (i := i) hN hi hl (pe e) ip_add hf) (by
    obtain ⟨v, hv, tv⟩ := t.get i hx
    have tv' : v = .int n := tv
    subst tv'
    exact ⟨_, hv, he σ H t _ fun w H1 e1 hw => ⟨n, k, rfl, hw, h _ _ (e0.trans e1) ((t.up e1).set i rfl)⟩⟩)
end
end RL

set_option Elab.async false
set_option linter.all false
set_option maxRecDepth 100000
set_option maxHeartbeats 4000000
/-! RLeq: == of data, len of a dict, isinstance with an own class -/
namespace RL
open PySem PySem.Spec PyProof.Rows L2
/-- values of this type are this data -/
def IsDp (K : PySem.W.Frag) (T : Ty) (d : PyData) : Prop := ∀ v H, T v H → Dp K H v d
theorem dp_int {K : PySem.W.Frag} {i : Int} : IsDp K (intT i) (.int i) := fun v H h => by
  have h' : v = .int i := h
  subst h'
  exact .int i
theorem dp_str {K : PySem.W.Frag} {x : Str} : IsDp K (strT x) (.str x) := fun v H h => by
  have h' : v = .str x := h
  subst h'
  exact .str x
theorem dp_bl {K : PySem.W.Frag} {b : Bool} : IsDp K (blT b) (.bool b) := fun v H h => by
  have h' : v = .bl b := h
  subst h'
  exact .bl b
theorem dp_non {K : PySem.W.Frag} : IsDp K nonT .none := fun v H h => by
  have h' : v = .non := h
  subst h'
  exact .non
/-- types and data, one by one -/
inductive AreDp (K : PySem.W.Frag) : List Ty → List PyData → Prop
  | nil : AreDp K [] []
  | cons {T : Ty} {d : PyData} {Ts : List Ty} {ds : List PyData} : IsDp K T d → AreDp K Ts ds → AreDp K (T :: Ts) (d :: ds)
theorem AreDp.all {K : PySem.W.Frag} {H : Hp} : ∀ {Ts : List Ty} {ds : List PyData} {vs : List V}, AreDp K Ts ds → All2 Ts vs H → DpAll K H vs ds
  | _, _, [], .nil, _ => .nil
  | _, _, v :: vs, .cons h hs, ⟨h1, h2⟩ => .cons (h v H h1) (hs.all h2)
theorem areDp_map {α : Type} {K : PySem.W.Frag} {f : α → Ty} {g : α → PyData} : ∀ (l : List α), (∀ x ∈ l, IsDp K (f x) (g x)) → AreDp K (l.map f) (l.map g)
  | [], _ => .nil
  | x :: l, h => .cons (h x List.mem_cons_self) (areDp_map l fun y hy => h y (List.mem_cons_of_mem _ hy))
theorem dp_tup {K : PySem.W.Frag} {Ts : List Ty} {ds : List PyData} (h : AreDp K Ts ds) : IsDp K (tupT K Ts) (.tuple ds) := fun v H ⟨a, vs, ev, ht, h2⟩ => by
  subst ev
  exact .tup ht.sq (h.all h2)
theorem dp_lst {K : PySem.W.Frag} {Ts : List Ty} {ds : List PyData} (h : AreDp K Ts ds) : IsDp K (lstT Ts) (.list ds) := fun v H ⟨a, vs, ev, hl, h2⟩ => by
  subst ev
  exact .lst hl.sq (h.all h2)
theorem room64 {k : Nat} {A : Around} (r : Room k A) : A.units + 64 < cLine := by have := r.un; omega
/-- of such a depth, and such that it can be compared -/
def Lay (n : Nat) (d : PyData) : Prop := d.canLay0 = true ∧ d.depth ≤ n
theorem Lay.mono {n m : Nat} {d : PyData} (h : Lay n d) (k : n ≤ m) : Lay m d := ⟨h.1, Nat.le_trans h.2 k⟩
theorem lay_all {n : Nat} : ∀ {ds : List PyData}, (∀ d ∈ ds, Lay n d) → PyData.canLayAll0 ds = true ∧ PyData.depthAll ds ≤ n
  | [], _ => ⟨by simp [PyData.canLayAll0], by simp [PyData.depthAll]⟩
  | d :: ds, h => by
    obtain ⟨h1, h2⟩ := h d List.mem_cons_self
    obtain ⟨h3, h4⟩ := lay_all fun d' h' => h d' (List.mem_cons_of_mem _ h')
    refine ⟨by rw [PyData.canLayAll0, h1, h3]; rfl, by rw [PyData.depthAll]; exact Nat.max_le.mpr ⟨h2, h4⟩⟩
theorem lay_int {i : Int} : Lay 0 (.int i) := ⟨by simp [PyData.canLay0], by simp [PyData.depth]⟩
theorem lay_bool {b : Bool} : Lay 0 (.bool b) := ⟨by simp [PyData.canLay0], by simp [PyData.depth]⟩
theorem lay_none : Lay 0 .none := ⟨by simp [PyData.canLay0], by simp [PyData.depth]⟩
theorem lay_list {n : Nat} {ds : List PyData} (h : ∀ d ∈ ds, Lay n d) : Lay (n + 1) (.list ds) := by
  obtain ⟨h1, h2⟩ := lay_all h
  exact ⟨by rw [PyData.canLay0]; exact h1, by rw [PyData.depth]; omega⟩
theorem lay_tup {n : Nat} {ds : List PyData} (h : ∀ d ∈ ds, Lay n d) : Lay (n + 1) (.tuple ds) := by
  obtain ⟨h1, h2⟩ := lay_all h
  exact ⟨by rw [PyData.canLay0]; exact h1, by rw [PyData.depth]; omega⟩
theorem Lay.shaped {n : Nat} {d : PyData} (h : Lay n d) (k : n ≤ 64) : SeqAt.shaped d = true := by
  unfold SeqAt.shaped
  rw [h.1, Bool.true_and, decide_eq_true_eq]
  exact Nat.le_trans h.2 k
section
variable {X : Cx} {Γ : Ctx} {e o a b c : Expr} {T U : Ty} {pos p p2 : Pos} {x : Str}
theorem g_eqD {d d' : PyData} (hu : X.A.units + 64 < cLine) (ha : G X Γ a T) (hb : G X Γ b U) (h1 : IsDp X.K T d) (h2 : IsDp X.K U d') (s1 : SeqAt.shaped d = true) (s2 : SeqAt.shaped d' = true) : G X Γ (.Compare a [.Eq] [b] pos) (blT (PyData.eqv d d')) :=
  g_cmp (op_eqD hu) ha hb (fun v w H hv hw Q q => ⟨d, d', h1 v H hv, h2 w H hw, s1, s2, q _ H (Ex.refl H) rfl⟩) (nomark _)
theorem gt_neI {i j : Int} (ha : G X Γ a (intT i)) (hb : G X Γ b (intT j)) : GT X Γ (.Compare a [.NotEq] [b] pos) (decide (i ≠ j)) :=
  (gt_cmp op_ne ha hb (k := decide (i ≠ j)) (fun x y H hx hy Q q => by
    have hx' : x = .int i := hx
    have hy' : y = .int j := hy
    subst hx'; subst hy'
    refine ⟨rfl, q _ H (Ex.refl H) ?_⟩
    show V.bl _ = V.bl _
    by_cases h : i = j <;> simp [h]) (nomark _))
/-- len of a frozen dict -/
theorem call_lenF : CallR X (.builtin "len") (fun xs H Q => ∃ a kvs, xs = [V.ref a] ∧ Rd H a (.dK kvs) ∧ Q (.int kvs.length) H) := by
  intro pins s σ H xs us Q I r h
  obtain ⟨a, kvs, rfl, ha, q⟩ := h
  obtain ⟨u, rfl, ru⟩ := vals1 r
  cases ru
  exact d_len I ha fun t s' I' => ⟨.int kvs.length, H, I', ⟨t, rfl⟩, q⟩
theorem g_lenD {kvs : List (Key × V)} (h : G X Γ e (dicT kvs)) (hm : X.mg "len" = none) (hg : Gl X "len" := by rfl) (he : starEach [e] X.env = (false, eval e X.env) :: starEach [] X.env := by first | exact se_cons rfl | exact se_one rfl | exact se_two rfl rfl | rfl) : G X Γ (.Call (.Name "len" p) [e] [] pos) (intT kvs.length) :=
  g_callB call_lenF hm (by decide +kernel) (ga_cons h ga_nil he) (fun vs H h2 Q q => by
    obtain ⟨v, ev, hv⟩ := one2 h2
    subst ev
    obtain ⟨a, rfl, ha⟩ := rd_dict hv
    exact ⟨a, kvs, rfl, ha, q _ H (Ex.refl H) rfl⟩) hg (he := he)
/-- len of a frozen list, a tuple -/
theorem g_lenL {Ts : List Ty} (h : G X Γ e (lstT Ts)) (hm : X.mg "len" = none) (hg : Gl X "len" := by rfl) (he : starEach [e] X.env = (false, eval e X.env) :: starEach [] X.env := by first | exact se_cons rfl | exact se_one rfl | exact se_two rfl rfl | rfl) : G X Γ (.Call (.Name "len" p) [e] [] pos) (intT Ts.length) :=
  g_callB call_len hm (by decide +kernel) (ga_cons h ga_nil he) (fun vs H h2 Q q => by
    obtain ⟨v, ev, a, ws, e2, f, h3⟩ := one2 h2
    subst ev; subst e2
    exact ⟨_, ws.length, rfl, .inl ⟨ws, f.sq, rfl⟩, q _ H (Ex.refl H) (by show V.int _ = V.int _; rw [h3.len])⟩) hg (he := he)
/-- isinstance with a class of the text, where all are instances -/
theorem g_isO {C : Addr} (he : G X Γ e T) (ht : ∀ v H, T v H → ∃ t, TyX X.K H v t ∧ PySem.W.kitOne X.K t (.ref C) = some true) (hm : X.mg "isinstance" = none) (hx : X.mg x = some (.ref C)) (hg : Gl X "isinstance" := by rfl) (hg' : Gl X x := by rfl)
    (hd : (x == ("__debug__" : Str)) = false := by decide) (hs : starEach [e, .Name x p2] X.env = (false, eval e X.env) :: starEach [.Name x p2] X.env := by first | exact se_cons rfl | exact se_one rfl | exact se_two rfl rfl | rfl) (hs2 : starEach [.Name x p2] X.env = (false, eval (.Name x p2) X.env) :: starEach [] X.env := by first | exact se_cons rfl | exact se_one rfl | exact se_two rfl rfl | rfl) (hpl : (backTo pos (starEach [.Name x p2] X.env)).any (·.1) = false := by first | exact se_any rfl | rfl) :
    G X Γ (.Call (.Name "isinstance" p) [e, .Name x p2] [] pos) (blT true) :=
  g_callB call_isi hm (by decide +kernel) (ga_cons he (ga_cons (g_glob (v := .ref C) hx rfl hg' hd) ga_nil hs2) hs) (fun vs H h2 Q q => by
    match vs, h2 with
    | [v, w], ⟨h3, h4, _⟩ =>
      have h4' : w = V.ref C := h4
      subst h4'
      obtain ⟨t, h5, h6⟩ := ht v H h3
      exact ⟨v, .ref C, t, .ref C, true, rfl, .own C, h5, h6, q _ H (Ex.refl H) rfl⟩) hg (by decide) (by decide) hs hpl
end
end RL

set_option Elab.async false
set_option linter.all false
set_option maxRecDepth 100000
set_option maxHeartbeats 4000000
/-! RLmut: local lists and dicts that are changed -/
namespace RL
open PySem PySem.Spec PyProof.Rows L2

/-! ### a tracked thing is told in another way -/
theorem retr {X : Cx} {pins : List (Addr × Obj)} {σ : L2.St} {H : Hp} {s : Shared} {d : Addr} {u u' : HO} (I : Inv X pins σ H s) (h : H d = some u) (mu : Mut (some u)) (new : ObjOk X.prog X.w (upd H d u') s.heap d u') : Inv X pins σ (upd H d u') s := by
  have ex : ∃ od, s.heap.get? d = some od := by
    have x := I.hok d u h
    cases u with
    | lst xs => obtain ⟨_, _, _, _, e⟩ := x; exact ⟨_, e⟩
    | dK kvs => obtain ⟨_, _, _, _, o, _, _, e, _⟩ := x; exact ⟨o, e⟩
    | dT kvs => obtain ⟨_, _, _, _, o, _, _, e, _⟩ := x; exact ⟨o, e⟩
    | set S n => obtain ⟨o, _, _, _, e, _⟩ := x; exact ⟨o, e⟩
    | ins C dx fs => obtain ⟨_, _, _, e, _⟩ := x; exact ⟨_, e⟩
    | ext φ => obtain ⟨_, ⟨_, e⟩, _⟩ := x; exact ⟨_, e⟩
    | _ => exact False.elim mu
  exact I.write (x := d) (e := d) (t' := s.toks) (h' := s.heap) (by rw [h]; exact mu) (.inl rfl) (fun b v _ q => q) ex new
/-- how a thing may be told anew -/
def Retr (d : Addr) (u u' : HO) : Prop := Mut (some u) ∧ ∀ (P : Program) (w : World) (H H' : Hp) (h : Heap), ObjOk P w H h d u → ObjOk P w H' h d u'
theorem tE_retr {X : Cx} {e : Expr} {σ : L2.St} {H : Hp} {Q : VK} (h : tE X e σ H fun v H' => ∃ d u u', H' d = some u ∧ Retr d u u' ∧ Q v (upd H' d u')) : tE X e σ H Q := ⟨fun pins s I =>
  thn (h.run pins s I) fun _ _ ⟨v, H', I', r, d, u, u', hd, mu, q⟩ => ⟨v, _, retr I' hd mu.1 (mu.2 _ _ _ _ _ (I'.hok d u hd)), r, q⟩⟩
theorem tB_retr {X : Cx} {st : List Stmt} {σ : L2.St} {H : Hp} {D : Ends} {d : Addr} {u u' : HO} (hd : H d = some u) (mu : Retr d u u') (h : tB X st D σ (upd H d u')) : tB X st D σ H := ⟨fun pins s I =>
  h.run pins s (retr I hd mu.1 (mu.2 _ _ _ _ _ (I.hok d u hd)))⟩
/-- what is hidden is looked at -/
theorem tB_open {X : Cx} {st : List Stmt} {σ : L2.St} {H : Hp} {D : Ends} {d : Addr} {α : Type} {φ : Heap → Prop} {u : α → HO} (hd : H d = some (.ext φ)) (ho : ∀ (P : Program) (w : World) (h : Heap), φ h → ∃ a, ∀ H', ObjOk P w H' h d (u a)) (h : ∀ a, tB X st D σ (upd H d (u a))) : tB X st D σ H := by
  refine ⟨fun pins s I => ?_⟩
  have x := I.hok d _ hd
  obtain ⟨f, _, _⟩ := (show φ s.heap ∧ _ ∧ _ from x)
  obtain ⟨a, z⟩ := ho X.prog X.w s.heap f
  exact (h a).run pins s (retr I hd trivial (z _))

/-! ### types of what may change -/
def mdT (a : Addr) (kvs : List (Key × V)) : Ty := ⟨fun v H => v = .ref a ∧ H a = some (.dK kvs), fun e ⟨h1, h2⟩ => ⟨h1, e _ _ h2⟩⟩
def mlT (a : Addr) (Ts : List Ty) : Ty := ⟨fun v H => v = .ref a ∧ ∃ vs, H a = some (.lst vs) ∧ All2 Ts vs H, fun e ⟨h1, vs, h2, h3⟩ => ⟨h1, vs, e _ _ h2, h3.up e⟩⟩
/-- a dict that is read; a list that is read -/
def rdT (kvs : List (Key × V)) : Ty := ⟨fun v H => ∃ a, v = .ref a ∧ Rd H a (.dK kvs), fun {v H H'} e ⟨a, h1, h2⟩ => ⟨a, h1, h2.elim (fun z => .inl (e _ _ z)) fun ⟨o, z⟩ => .inr ⟨o, e _ _ z⟩⟩⟩
def rlT (K : PySem.W.Frag) (Ts : List Ty) : Ty := ⟨fun v H => ∃ a vs, v = .ref a ∧ SqL K H a vs ∧ All2 Ts vs H, fun {v H H'} e ⟨a, vs, h1, h2, h3⟩ => ⟨a, vs, h1, h2.elim (fun z => .inl (z.elim (fun z => .inl (e _ _ z)) fun ⟨o, z⟩ => .inr ⟨o, e _ _ z⟩)) .inr, h3.up e⟩⟩
section
variable {X : Cx} {Γ : Ctx} {e o a b c : Expr} {T U : Ty} {Ts : List Ty} {pos p p2 : Pos} {x : Str} {kvs : List (Key × V)} {d : Addr}
theorem G.rd (h : G X Γ e (dicT kvs)) : G X Γ e (rdT kvs) := h.imp fun v H h => rd_dict h
theorem G.rdm (h : G X Γ e (mdT d kvs)) : G X Γ e (rdT kvs) := h.imp fun v H ⟨h1, h2⟩ => ⟨d, h1, .inl h2⟩
theorem G.rl (h : G X Γ e (lstT Ts)) : G X Γ e (rlT X.K Ts) := h.imp fun v H ⟨a, vs, h1, h2, h3⟩ => ⟨a, vs, h1, h2.sq, h3⟩
theorem G.rlm (h : G X Γ e (mlT d Ts)) : G X Γ e (rlT X.K Ts) := h.imp fun v H ⟨h1, vs, h2, h3⟩ => ⟨d, vs, h1, .inl (.inl h2), h3⟩
end

/-! ### what stays while the thing at a is changed -/
class StbA (a : Addr) (T : Ty) : Prop where
  mu : ∀ {v H u o}, H a = some u → Unf u → T v H → T v (upd H a o)
class StbC (a : Addr) (Γ : Ctx) : Prop where
  mu : ∀ {i : Nat} {T : Ty}, Γ[i]? = some (some T) → StbA a T
instance (a : Addr) (T : Ty) [h : Stb T] : StbA a T := ⟨fun hu un k => h.le (Le.mut hu un) k⟩
theorem stbA_md {a b : Addr} {kvs : List (Key × V)} (h : b ≠ a) : StbA a (mdT b kvs) := ⟨fun _ _ ⟨h1, h2⟩ => ⟨h1, by rw [upd_ne h]; exact h2⟩⟩
theorem stbA_ml {a b : Addr} {Ts : List Ty} [k : Stbs Ts] (h : b ≠ a) : StbA a (mlT b Ts) := ⟨fun hu un ⟨h1, vs, h2, h3⟩ => ⟨h1, vs, by rw [upd_ne h]; exact h2, k.le (Le.mut hu un) h3⟩⟩
instance (a : Addr) : StbC a [] := ⟨fun h => by simp at h⟩
instance (a : Addr) (Γ : Ctx) [k : StbC a Γ] : StbC a (none :: Γ) := ⟨fun {i T} h => by
  cases i with
  | zero => simp at h
  | succ i => exact k.mu (i := i) (by simpa using h)⟩
instance (a : Addr) (T : Ty) (Γ : Ctx) [h : StbA a T] [k : StbC a Γ] : StbC a (some T :: Γ) := ⟨fun {i U} q => by
  cases i with
  | zero => simp at q; subst q; exact h
  | succ i => exact k.mu (i := i) (by simpa using q)⟩
theorem stbC_none {a : Addr} {Γ : Ctx} (k : StbC a Γ) : StbC a (none :: Γ) := inferInstance
theorem stbC_some {a : Addr} {T : Ty} {Γ : Ctx} (h : StbA a T) (k : StbC a Γ) : StbC a (some T :: Γ) := inferInstance
theorem stbC_nil {a : Addr} : StbC a [] := inferInstance
theorem Typed.mut {σ : L2.St} {Γ : Ctx} {H : Hp} {a : Addr} {u o : HO} (h : Typed σ Γ H) (k : StbC a Γ) (hu : H a = some u) (un : Unf u) : Typed σ Γ (upd H a o) := ⟨h.1, fun i T g => let ⟨v, e, t⟩ := h.2 i T g; ⟨v, e, (k.mu g).mu hu un t⟩⟩
/-- a slot's word is put in place of another -/
theorem Typed.put {σ : L2.St} {Γ : Ctx} {H : Hp} {T : Ty} {v : V} {i : Nat} (h : Typed σ (Γ.set i none) H) (hi : i < Γ.length) (hv : σ[i]? = some (some v)) (t : T v H) : Typed σ (Γ.set i (some T)) H := by
  refine ⟨by simpa using h.1, fun j U g => ?_⟩
  by_cases c : j = i
  · subst c
    rw [List.getElem?_set_self hi] at g
    cases g
    exact ⟨v, hv, t⟩
  · refine h.2 j U ?_
    rw [List.getElem?_set_ne (Ne.symm c)] at g ⊢
    exact g
theorem Typed.drop {σ : L2.St} {Γ : Ctx} {H : Hp} (i : Nat) (h : Typed σ Γ H) : Typed σ (Γ.set i none) H := by
  refine ⟨by simpa using h.1, fun j U g => ?_⟩
  by_cases c : j = i
  · subst c
    rw [List.getElem?_set_self'] at g
    cases q : Γ[j]? with
    | none => rw [q] at g; cases g
    | some _ => rw [q] at g; cases g
  · rw [List.getElem?_set_ne (Ne.symm c)] at g
    exact h.2 j U g
theorem Bs.ok.mut {B : Bs} {H : Hp} {a : Addr} {u o : HO} (h : B.ok H) (ha : B.e a = none) (hu : H a = some u) (un : Unf u) : B.ok (upd H a o) := ⟨h.1.mut ha hu un, h.2.trans (Le.mut hu un)⟩

/-! ### statements -/
section
variable {X : Cx} {Γ : Ctx} {e o k c : Expr} {T U : Ty} {Ts : List Ty} {pos p p2 p3 p4 : Pos} {x : Str} {kvs : List (Key × V)} {H0 : Bs} {D : Ends} {rest : List Stmt} {i : Nat} {a : Addr}
/-- x = {} -/
theorem b_newD (i : Nat) (h : ∀ a, H0.e a = none → Bd X (Γ.set i (some (mdT a []))) rest H0 D) {p' : Pos} (hN : X.N.Nodup := by first | assumption | decide) (hi : X.N[i]? = some x := by rfl) (hx : Loc X.env.scope x := by first | exact Or.inl rfl | exact Or.inr rfl)
    (hs : swapsWith (.Dict [] [] p2) (some (.Name x p')) pos.line X.env = pure false := by rfl) (hf : X.fn x = true ∨ X.env.scope.names.lookup x = some .local := by first | exact .inl rfl | exact .inr rfl) : Bd X Γ (.Assign [.Name x p'] (.Dict [] [] p2) pos :: rest) H0 D :=
  b_cons fun σ H e0 t => toS (ps_set (i := i) hN hi hx pe_dnewK hs hf) fun q hq => h q (e0.1.free hq) _ _ (e0.trans (Ex.new hq)) ((t.up (Ex.new hq)).set i ⟨rfl, upd_same⟩)
/-- x[k] = e -/
theorem b_dput (i : Nat) {kk : Key} {v : V} (hT : Γ[i]? = some (some (mdT a kvs))) (hk : G X Γ k (valT (kV kk))) (he : G X Γ e (valT v)) (ha : H0.e a = none) (hl : kvs.length < sizeLine) (hS : StbC a (Γ.set i none)) (hu : X.A.units + 1 < cLine)
    (h : Bd X (Γ.set i (some (mdT a (putK kvs kk v)))) rest H0 D) {p' : Pos} (hN : X.N[i]? = some x := by rfl) (hv : Vis X.env.scope x := by first | exact Or.inl rfl | exact Or.inr (Or.inl rfl) | exact Or.inr (Or.inr rfl)) (hd : (x == ("__debug__" : Str)) = false := by decide) (hcd : (x == ("__classdict__" : Str)) = false := by decide)
    (hs : swapsWith e (some (.Subscript (.Name x p2) k p')) pos.line X.env = pure false := by rfl) : Bd X Γ (.Assign [.Subscript (.Name x p2) k p'] e pos :: rest) H0 D :=
  b_cons fun σ H e0 t => toS (ps_dput hu (pe_var (i := i) hN hv hd hcd) (pe k) (pe e) hs) (he σ H t _ fun v1 H1 e1 h1 => by
    obtain ⟨w, hw, ew, hH⟩ := (t.up e1).get i hT
    refine ⟨w, hw, hk σ H1 (t.up e1) _ fun y H2 e2 h2 => ?_⟩
    have h1' : v1 = v := h1
    have h2' : y = kV kk := h2
    subst h1'; subst h2'
    have hH2 := e2 _ _ hH
    refine ⟨a, _, ew, DPut.k hH2 hl, h _ _ ((e0.trans (e1.trans e2)).mut ha hH2 trivial) (Typed.put (((t.up (e1.trans e2)).drop i).mut hS hH2 trivial) ?_ hw ⟨ew, upd_same⟩)⟩
    exact (List.getElem?_eq_some_iff.mp hT).1)
/-- the dict of a slot is frozen -/
theorem b_frzD (i : Nat) (hT : Γ[i]? = some (some (mdT a kvs))) (ha : H0.e a = none) (hS : StbC a (Γ.set i none)) (h : Bd X (Γ.set i (some (dicT kvs))) rest H0 D) : Bd X Γ rest H0 D := fun σ H e0 t => by
  obtain ⟨w, hw, ew, hH⟩ := t.get i hT
  refine tB_frz hH trivial fun od => h _ _ (e0.mut ha hH trivial) (Typed.put ((t.drop i).mut hS hH trivial) ?_ hw ⟨a, od, ew, upd_same⟩)
  exact (List.getElem?_eq_some_iff.mp hT).1
/-- the list of a slot is frozen -/
theorem b_frzL [hT' : Stbs Ts] (i : Nat) (hT : Γ[i]? = some (some (mlT a Ts))) (ha : H0.e a = none) (hS : StbC a (Γ.set i none)) (h : Bd X (Γ.set i (some (lstT Ts))) rest H0 D) : Bd X Γ rest H0 D := fun σ H e0 t => by
  obtain ⟨w, hw, ew, vs, hH, h2⟩ := t.get i hT
  refine tB_frz hH trivial fun od => h _ _ (e0.mut ha hH trivial) (Typed.put ((t.drop i).mut hS hH trivial) ?_ hw ⟨a, vs, ew, ⟨od, upd_same⟩, hT'.le (Le.mut hH trivial) h2⟩)
  exact (List.getElem?_eq_some_iff.mp hT).1
/-- x[k] = e, x a list -/
theorem All2.set {H : Hp} {T : Ty} {v : V} : ∀ {Ts : List Ty} {vs : List V} {j : Nat}, All2 Ts vs H → T v H → All2 (Ts.set j T) (vs.set j v) H
  | [], [], _, h, _ => h
  | _ :: _, _ :: _, 0, ⟨_, b⟩, t => ⟨t, b⟩
  | _ :: _, _ :: _, j + 1, ⟨a, b⟩, t => ⟨a, All2.set (j := j) b t⟩
  | [], _ :: _, _, h, _ => h.elim
  | _ :: _, [], _, h, _ => h.elim
theorem b_setL [hTs : Stbs Ts] [hSt : Stb T] (i : Nat) {n : Int} (j : Nat) (hT : Γ[i]? = some (some (mlT a Ts))) (hk : G X Γ k (intT n)) (he : G X Γ e T) (hj : ixN Ts.length n = some j) (ha : H0.e a = none) (hS : StbC a (Γ.set i none))
    (h : Bd X (Γ.set i (some (mlT a (Ts.set j T)))) rest H0 D) {p' : Pos} (hN : X.N[i]? = some x := by rfl) (hv : Vis X.env.scope x := by first | exact Or.inl rfl | exact Or.inr (Or.inl rfl) | exact Or.inr (Or.inr rfl)) (hd : (x == ("__debug__" : Str)) = false := by decide) (hcd : (x == ("__classdict__" : Str)) = false := by decide)
    (hs : swapsWithSole [.Subscript (.Name x p2) k p'] e pos.line X.env = pure false := by rfl) (hw : swappedStores [.Subscript (.Name x p2) k p'] e X.env = pure none := by rfl)
    (h1 : (assignEach [.Subscript (.Name x p2) k p'] X.env).map (·.2) = [assign (.Subscript (.Name x p2) k p') X.env] := by rfl)
    (has : ∀ v, assign (.Subscript (.Name x p2) k p') X.env v = (do
      let ov ← holding [v] (eval (.Name x p2) X.env)
      let iv ← holding [v, ov] (eval k X.env)
      standAt p'
      holding [v, ov, iv] (setItem ov iv v)
      release [v, ov, iv] []) := by intro _; rfl) : Bd X Γ (.Assign [.Subscript (.Name x p2) k p'] e pos :: rest) H0 D :=
  b_cons fun σ H e0 t => toS (ps_asg (pe e) (pg_sub (pe_var (i := i) hN hv hd hcd) (pe k) set_list has) hs hw h1) (he σ H t _ fun v1 H1 e1 h1 => by
    obtain ⟨w, hw, ew, vs, hH, h3⟩ := (t.up e1).get i hT
    refine ⟨w, hw, hk σ H1 (t.up e1) _ fun y H2 e2 h2 => ?_⟩
    have h2' : y = .int n := h2
    subst h2'
    have hH2 := e2 _ _ hH
    refine ⟨a, vs, n, j, ew, rfl, hH2, by rw [← h3.len]; exact hj, h _ _ ((e0.trans (e1.trans e2)).mut ha hH2 trivial) (Typed.put (((t.up (e1.trans e2)).drop i).mut hS hH2 trivial) ?_ hw ⟨ew, _, upd_same, ?_⟩)⟩
    · exact (List.getElem?_eq_some_iff.mp hT).1
    · exact All2.set (hTs.le (Le.mut hH2 trivial) (h3.up e2)) (hSt.le (Le.mut hH2 trivial) (T.up e2 h1)))
end

/-! ### reading -/
section
variable {X : Cx} {Γ : Ctx} {e o a b c : Expr} {T U : Ty} {Ts : List Ty} {pos p p2 : Pos} {x : Str} {kvs : List (Key × V)}
theorem All2.atI {H : Hp} {Ts : List Ty} {vs : List V} {n : Int} {T : Ty} (h : All2 Ts vs H) (g : L2.atI Ts n = some T) : ∃ v, L2.atI vs n = some v ∧ T v H := by
  unfold L2.atI at g ⊢
  rw [← h.len]
  cases q : ixN Ts.length n with
  | none => rw [q] at g; cases g
  | some j => rw [q] at g; exact h.get g
/-- l[n], l a list that is read -/
theorem g_ixL {n : Int} (ho : G X Γ o (rlT X.K Ts)) (hk : G X Γ e (intT n)) (hT : L2.atI Ts n = some T := by rfl) (hs : PlainIx e := by exact fun _ _ => rfl) : G X Γ (.Subscript o e pos) T := fun σ H t Q q =>
  toE (pe_ix ix_list (pe o) (pe e) hs) (ho σ H t _ fun v H1 e1 h1 => hk σ H1 (t.up e1) _ fun w H2 e2 h2 => by
    obtain ⟨l, vs, ev, hl, ha⟩ := (rlT X.K Ts).up e2 h1
    have h2' : w = .int n := h2
    subst h2'
    obtain ⟨y, hy, ty⟩ := ha.atI hT
    exact ⟨l, vs, n, y, ev, rfl, hl, hy, q y H2 (e1.trans e2) ty⟩)
theorem g_ixT {n : Int} (ho : G X Γ o (tupT X.K Ts)) (hk : G X Γ e (intT n)) (hT : L2.atI Ts n = some T := by rfl) (hs : PlainIx e := by exact fun _ _ => rfl) : G X Γ (.Subscript o e pos) T := fun σ H t Q q =>
  toE (pe_ix ix_tup (pe o) (pe e) hs) (ho σ H t _ fun v H1 e1 h1 => hk σ H1 (t.up e1) _ fun w H2 e2 h2 => by
    obtain ⟨l, vs, ev, hl, ha⟩ := (tupT X.K Ts).up e2 h1
    have h2' : w = .int n := h2
    subst h2'
    obtain ⟨y, hy, ty⟩ := ha.atI hT
    exact ⟨l, vs, n, y, ev, rfl, hl.sq, hy, q y H2 (e1.trans e2) ty⟩)
/-- len -/
theorem g_lenR (h : G X Γ e (rdT kvs)) (hm : X.mg "len" = none) (hg : Gl X "len" := by rfl) (he : starEach [e] X.env = (false, eval e X.env) :: starEach [] X.env := by first | exact se_cons rfl | exact se_one rfl | exact se_two rfl rfl | rfl) : G X Γ (.Call (.Name "len" p) [e] [] pos) (intT kvs.length) :=
  g_callB call_lenF hm (by decide +kernel) (ga_cons h ga_nil he) (fun vs H h2 Q q => by
    obtain ⟨v, ev, a, hv, ha⟩ := one2 h2
    subst ev; subst hv
    exact ⟨a, kvs, rfl, ha, q _ H (Ex.refl H) rfl⟩) hg (he := he)
theorem g_lenRL (h : G X Γ e (rlT X.K Ts)) (hm : X.mg "len" = none) (hg : Gl X "len" := by rfl) (he : starEach [e] X.env = (false, eval e X.env) :: starEach [] X.env := by first | exact se_cons rfl | exact se_one rfl | exact se_two rfl rfl | rfl) : G X Γ (.Call (.Name "len" p) [e] [] pos) (intT Ts.length) :=
  g_callB call_len hm (by decide +kernel) (ga_cons h ga_nil he) (fun vs H h2 Q q => by
    obtain ⟨v, ev, a, ws, e2, f, h3⟩ := one2 h2
    subst ev; subst e2
    exact ⟨_, ws.length, rfl, .inl ⟨ws, f, rfl⟩, q _ H (Ex.refl H) (by show V.int _ = V.int _; rw [h3.len])⟩) hg (he := he)
theorem g_lenT (h : G X Γ e (tupT X.K Ts)) (hm : X.mg "len" = none) (hg : Gl X "len" := by rfl) (he : starEach [e] X.env = (false, eval e X.env) :: starEach [] X.env := by first | exact se_cons rfl | exact se_one rfl | exact se_two rfl rfl | rfl) : G X Γ (.Call (.Name "len" p) [e] [] pos) (intT Ts.length) :=
  g_callB call_len hm (by decide +kernel) (ga_cons h ga_nil he) (fun vs H h2 Q q => by
    obtain ⟨v, ev, a, ws, e2, f, h3⟩ := one2 h2
    subst ev; subst e2
    exact ⟨_, ws.length, rfl, .inr ⟨ws, f.sq, rfl⟩, q _ H (Ex.refl H) (by show V.int _ = V.int _; rw [h3.len])⟩) hg (he := he)
end
end RL

set_option Elab.async false
set_option linter.all false
set_option maxRecDepth 100000
set_option maxHeartbeats 4000000
/-! RLenum: enumerate of a tuple, of a frozen list -/
namespace RL
open PySem PySem.Spec PyProof.Rows L2
theorem enumNew1 {v : Value} {o : Obj} {Hb : Heap → Prop} (B : Begins v o Hb) :
    Meets (Builtin.«enumerate.__new__» ⟨[.type "enumerate", v], []⟩) (fun _ R s => Hb s.heap ∧
      R (.ok (.ret (.ref (s.heap.push o).objs.size))) { s with heap := (s.heap.push o).push { cls := .type "enumerate", data := .fields #[.none, .bool false, .ref s.heap.objs.size, rawInt 0, .none, .none] } }) :=
  .of_wp fun prog w A R s h => by
    obtain ⟨hp, g, d, tk, os⟩ := s
    obtain ⟨h1, h⟩ := h
    have hsub := sub_enumerate
    have bi : ∀ {A' : Around} {E Q : Value → Shared → Prop}, Q (.ref hp.objs.size) ⟨hp.push o, g, d, tk, os⟩ → wpAny (model prog w) A' (pyIter v) Q E ⟨hp, g, d, tk, os⟩ := fun q => B.iter prog w _ _ ⟨hp, g, d, tk, os⟩ _ h1 q
    wp_walk using bi
    refine wpAny_stack_any fun st => wpAny_pure ?_
    split
    · rename_i c _ _ _ _ _
      cases (c == Value.type "enumerate") <;> (wp_walk using bi; exact ⟨_, rfl, h⟩)
    · wp_walk using bi
      exact ⟨_, rfl, h⟩
theorem enumCall1 {prog : Program} {w : World} {A : Around} {E : Value → Shared → Prop} {s : Shared} {v : Value} {o : Obj} {Hb : Heap → Prop} {Q : Value → Shared → Prop} (B : Begins v o Hb) (h1 : Hb s.heap)
    (h : ∀ h', IsEnum h' (s.heap.objs.size + 1) s.heap.objs.size ((0 : Nat) : Int) .none → h'.get? s.heap.objs.size = some o → (∀ b o, s.heap.get? b = some o → h'.get? b = some o) → Q (.ref (s.heap.objs.size + 1)) { s with heap := h' }) :
    wpAny (model prog w) A (call (.type "enumerate") [v]) Q E s := by
  refine callType_new F.called_enumerate (by decide) (F.typeCall_enumerate_1 _) (F.newCall_enumerate_1 _) (fun obj => F.args_object_init_2 obj _) F.entry_enumerate_new (enumNew1 B) ⟨h1, ?_⟩
  have sz : (s.heap.push o).objs.size = s.heap.objs.size + 1 := Heap.size_push ..
  have he : ∀ e : Obj, e.isFreed = false → ((s.heap.push o).push e).get? (s.heap.objs.size + 1) = some e := fun e fr => by
    have q := Heap.get?_push_size (s.heap.push o) (o := e) fr
    rwa [sz] at q
  show _ ∧ _
  rw [sz]
  exact ⟨⟨_, he _ rfl, rfl⟩, h _ (he _ rfl) (Heap.get?_push_of_some _ (Heap.get?_push_size _ B.free)) fun b u x => Heap.get?_push_of_some _ (Heap.get?_push_of_some _ x)⟩
/-- what enumerate of the tuple at a gives: pairs, newly laid -/
def ItP (K : PySem.W.Frag) (a : Addr) : It :=
  ⟨fun i H => ∃ xs x, SqT K H a xs ∧ xs[i]? = some x, fun i H v H' => ∃ t x, v = .ref t ∧ H t = none ∧ H' = upd H t (.tup [.int (i : Nat), x]) ∧ ∀ xs, SqT K H a xs → xs[i]? = some x, fun i H => ∃ xs, SqT K H a xs ∧ xs.length = i⟩
theorem turnP {P : Program} {w : World} {K : PySem.W.Frag} {elts : List Expr} {kk : Nat} {tpos : Pos} (a e it : Addr) (hai : a ≠ it) :
    Turn P w K (.Tuple elts kk tpos) (ItP K a) [e, it] e (fun i h => (∃ old, IsEnum h e it ((i : Nat) : Int) old) ∧ h.IsTupleIter it a i ∧ e ≠ it ∧ e ≠ a) where
  mem := List.mem_cons_self
  obj := fun i h ⟨⟨old, he⟩, ⟨o, ho, hc, hd⟩, _⟩ b hb => by
    rcases List.mem_cons.mp hb with rfl | hb
    · exact ⟨_, he, fun v q => nomatch q⟩
    · rw [List.mem_singleton.mp hb]
      exact ⟨o, ho, fun v q => by rw [hd] at q; cases q⟩
  keep := fun i h h' ⟨⟨old, he⟩, hi, hne⟩ k => ⟨⟨old, k e (by simp) _ he⟩, hi.at fun o q => k it (by simp) o q, hne⟩
  item := by
    intro X hP hw hK hc i pins s σ H E I hf ⟨⟨old, he⟩, hit, hne, hea⟩ ⟨xs, x, hq, hx⟩
    subst hP hw hK
    obtain ⟨its, rv, p, _⟩ := I.tuple hq
    obtain ⟨u, hu, ru⟩ := rv.get hx
    have D := Draws.tuple (prog := X.prog) (w := X.w) (A := X.A.in1) (I.ok.hd hc) it a hai its.toArray
    have lt_e : e < s.heap.objs.size := Heap.lt_size he
    have lt_i : it < s.heap.objs.size := by obtain ⟨_, q, _⟩ := hit; exact Heap.lt_size q
    refine wpAny_pyNext_enum_itemD D he ⟨hit, p⟩ (by simp; exact (List.getElem?_eq_some_iff.mp hu).1) hne (by simp [hne, hea]) fun y h' tk hy ho ⟨hit', _⟩ hT _ hk => ?_
    have ey : y = u := by
      have z : its[i]? = some y := by simpa using hy
      rw [hu] at z
      exact (Option.some.inj z).symm
    subst ey
    refine ⟨_, rfl, wpAny_letOwnedTupleGo_enum (s := { s with heap := h', toks := tk + 1 }) ho fun h2 he2 sb => ?_⟩
    have hT2 := (sb.2 _ (Nat.ne_of_gt lt_e)).trans hT
    have new : ObjOk X.prog X.w (upd H s.heap.objs.size (.tup [.int (i : Nat), x])) h2 s.heap.objs.size (.tup [.int (i : Nat), x]) :=
      ⟨(by decide : 2 ≤ sizeLine), [.int i tk, y], .cons ⟨_, rfl⟩ (.cons ru .nil), ⟨_, hT2, rfl, _, rfl⟩⟩
    have J : Inv X pins σ (upd H s.heap.objs.size (.tup [.int (i : Nat), x])) { s with heap := h2, toks := tk + 1 } :=
      I.turnedNew (ch := [e, it]) (fun b ob hb q => (sb.2 b (fun z => hb (by simp [z]))).trans (hk b ob (fun z => hb (by simp [z])) (fun z => hb (by simp [z])) q)) hf (Nat.le_refl _) new
    refine ⟨.ref s.heap.objs.size, _, J, rfl, ⟨_, x, rfl, I.hok.fresh (Nat.le_refl _), rfl, fun ys hy => by rw [I.tuple_inj hy hq]; exact hx⟩, ⟨⟨y, by rw [show ((i + 1 : Nat) : Int) = (i : Int) + 1 by omega]; exact he2⟩, hit'.at fun o q => (sb.2 it (Ne.symm hne)).trans q, hne, hea⟩, fun b hb => ?_⟩
    have lt_b : b < s.heap.objs.size := by
      rcases List.mem_cons.mp hb with rfl | hb
      · exact lt_e
      · rw [List.mem_singleton.mp hb]; exact lt_i
    rw [upd_ne (Nat.ne_of_lt lt_b)]
    exact (hf b hb).1
  done := by
    intro X hP hw hK hc i pins s σ H E I hf ⟨⟨old, he⟩, hit, hne, hea⟩ ⟨xs, hq, hx⟩
    subst hP hw hK
    obtain ⟨its, rv, p, _⟩ := I.tuple hq
    obtain ⟨f0, f1, f2, f3, f4, f5⟩ := hf it (by simp)
    have D := Draws.tuple (prog := X.prog) (w := X.w) (A := X.A.in1) (I.ok.hd hc) it a hai its.toArray
    have ei : i = its.toArray.size := by rw [← hx, List.size_toArray]; exact rv.length
    exact wpAny_pyNext_enum_endD D he ⟨by rw [← ei]; exact hit, p⟩ fun h' eb => ⟨rfl, I.turned (t' := s.toks) (fun b o hb q => eb b o hb q) f0 f1 f3 f4 f5⟩
  self := fun A i s Q E ⟨⟨_, he⟩, _⟩ h => wpAny_pyIter_enum he h
/-- enumerate(t): pairs of an index and an item -/
def enumT (K : PySem.W.Frag) (Ts : List Ty) : List Ty := Ts.mapIdx fun i T => tupT K [intT (i : Nat), T]
theorem enumT_len {K : PySem.W.Frag} {Ts : List Ty} : (enumT K Ts).length = Ts.length := by simp [enumT]
theorem enumT_get {K : PySem.W.Frag} {Ts : List Ty} {i : Nat} {T : Ty} (h : Ts[i]? = some T) : (enumT K Ts)[i]? = some (tupT K [intT (i : Nat), T]) := by simp [enumT, List.getElem?_mapIdx, h]
section
variable {X : Cx} {Γ : Ctx} {e : Expr} {Ts : List Ty} {p pos tpos : Pos} {elts : List Expr} {kk : Nat}
theorem gi_enumT [hS : Stbs Ts] (h : G X Γ e (tupT X.K Ts)) (hm : X.mg "enumerate" = none) (hg : Gl X "enumerate" := by rfl) (hs : starEach [e] X.env = (false, eval e X.env) :: starEach [] X.env := by first | exact se_cons rfl | exact se_one rfl | exact se_two rfl rfl | rfl) (hs2 : starEach [e] X.env = [(false, eval e X.env)] := by first | exact se_cons rfl | exact se_one rfl | exact se_two rfl rfl | rfl) :
    GI X Γ (.Tuple elts kk tpos) (.Call (.Name "enumerate" p) [e] [] pos) (enumT X.K Ts) := fun σ H t Q q => by
  refine ⟨fun pins s I => ?_⟩
  have hA : tA X [e] σ H fun vs H2 => ∃ a xs, vs = [V.ref a] ∧ PerT X.K H2 a xs ∧ All2 Ts xs H2 ∧ Ex H H2 := ga_cons h ga_nil hs σ H t _ fun vs H2 e2 h2 => by
    obtain ⟨v, ev, a, xs, ev2, hp, ha⟩ := one2 h2
    subst ev; subst ev2
    exact ⟨a, xs, rfl, hp, ha, e2⟩
  refine Call_ (ld_blt I hg hm boot_enumerate (PyProof.Rows.callWith_type1 (thn (hA.run pos pins s I) fun us s1 z => ?_) hs2 rfl))
  obtain ⟨vs, H1, I1, r1, a, xs, ev, hp, ha, e1⟩ := z
  subst ev
  cases r1 with
  | cons r rr =>
    cases rr
    cases r
    obtain ⟨its, rv, ht, hz⟩ := I1.tuple hp.sq
    have ht' : s1.heap.IsTuple a its.toArray := ht
    have lt_a : a < s1.heap.objs.size := by obtain ⟨o, q, _⟩ := ht'; exact Heap.lt_size q
    refine enumCall1 (begins_tuple a its.toArray) ht' fun h' he hit hk => wpAny_pyIter_enum he ?_
    have I2 : Inv X pins σ H1 { s1 with heap := h' } := I1.kept (t' := s1.toks) hk
    refine ⟨s1.heap.objs.size + 1, [s1.heap.objs.size + 1, s1.heap.objs.size], _, _, H1, rfl, I2, turnP a (s1.heap.objs.size + 1) s1.heap.objs.size (Nat.ne_of_lt lt_a), ⟨⟨.none, he⟩, ⟨_, hit, rfl, rfl⟩, Nat.succ_ne_self _, Nat.ne_of_gt (Nat.lt_succ_of_lt lt_a)⟩, fun b hb => ?_, q _ H1 e1 fun i H' e => ⟨fun hi => ?_, fun hi => ⟨xs, (hp.le e).sq, by rw [hi, enumT_len, ha.len]⟩⟩⟩
    · have hle : s1.heap.objs.size ≤ b := by
        rcases List.mem_cons.mp hb with rfl | hb
        · exact Nat.le_succ _
        · rw [List.mem_singleton.mp hb]; exact Nat.le_refl _
      exact I1.fpOk hle (I1.hok.fresh hle)
    · rw [enumT_len] at hi
      obtain ⟨v, hv, tv⟩ := (hS.le e ha).get (List.getElem?_eq_getElem hi)
      refine ⟨⟨xs, v, (hp.le e).sq, hv⟩, fun x H2 hy => ?_⟩
      obtain ⟨T, y, ex, hn, eH, hx⟩ := hy
      subst ex; subst eH
      have hy' := hx xs (hp.le e).sq
      rw [hv] at hy'
      cases hy'
      exact ⟨Ex.new hn, _, enumT_get (List.getElem?_eq_getElem hi), T, _, rfl, .inl upd_same, rfl, Ts[i].up (Ex.new hn) tv, trivial⟩
end
end RL

/-! NumMath: plain mathematics of numbers as lists of pairs; core Lean only -/
namespace NM
/-- whether n is a prime, by trial division -/
def isPB (n : Int) : Bool := decide (2 ≤ n) && (List.range n.toNat).all fun d => decide (d < 2) || decide (n < (d : Int) * d) || decide (n % (d : Int) ≠ 0)
theorem isPB_hit {n d : Int} (h2 : 2 ≤ d) (hd : d * d ≤ n) (h0 : n % d = 0) : isPB n = false := by
  unfold isPB
  have hdn : d < n := by
    have : d * 2 ≤ d * d := Int.mul_le_mul_of_nonneg_left h2 (by omega)
    omega
  rw [Bool.and_eq_false_iff]
  right
  rw [List.all_eq_false]
  refine ⟨d.toNat, List.mem_range.mpr (by omega), ?_⟩
  have e : ((d.toNat : Nat) : Int) = d := by omega
  rw [e]
  simp only [Bool.or_eq_true, decide_eq_true_eq, not_or]
  refine ⟨⟨by omega, by omega⟩, by simpa using h0⟩
theorem isPB_none {n d : Int} (h2 : 2 ≤ n) (hd2 : 2 ≤ d) (hd : n < d * d) (hno : ∀ c : Int, 2 ≤ c → c < d → n % c ≠ 0) : isPB n = true := by
  unfold isPB
  rw [Bool.and_eq_true, decide_eq_true_eq]
  refine ⟨h2, List.all_eq_true.mpr fun c hc => ?_⟩
  rw [List.mem_range] at hc
  simp only [Bool.or_eq_true, decide_eq_true_eq]
  by_cases c1 : c < 2
  · exact .inl (.inl c1)
  by_cases c2 : n < (c : Int) * c
  · exact .inl (.inr c2)
  right
  refine hno c (by omega) ?_
  have c2 : (c : Int) * c ≤ n := by omega
  have c1 : (2 : Int) ≤ c := by omega
  refine Int.lt_of_not_ge fun h => ?_
  have : d * d ≤ (c : Int) * c := Int.mul_le_mul h h (by omega) (by omega)
  omega
theorem isPB_small {n : Int} (h : n < 2) : isPB n = false := by
  unfold isPB
  rw [Bool.and_eq_false_iff]
  left
  simpa using h

abbrev NK := List (Int × Int)
def look (l : NK) (p : Int) : Int := ((l.find? fun q => decide (q.1 = p)).map (·.2)).getD 0
structure Canon (l : NK) : Prop where
  asc : (l.map (·.1)).Pairwise (· < ·)
  pos : ∀ q ∈ l, 0 < q.2
/-! ascending lists without duplicates -/
def insU (p : Int) : List Int → List Int
  | [] => [p]
  | q :: r => if p < q then p :: q :: r else if p = q then q :: r else q :: insU p r
def sortU (l : List Int) : List Int := l.foldr insU []
theorem insU_mem {p a : Int} : ∀ {l : List Int}, a ∈ insU p l ↔ a = p ∨ a ∈ l
  | [] => by simp [insU]
  | q :: r => by
    unfold insU
    split
    · simp
    · split
      · rename_i h; subst h; simp
      · rw [List.mem_cons, insU_mem, List.mem_cons]
        constructor
        · rintro (h | h | h)
          · exact .inr (.inl h)
          · exact .inl h
          · exact .inr (.inr h)
        · rintro (h | h | h)
          · exact .inr (.inl h)
          · exact .inl h
          · exact .inr (.inr h)
theorem insU_pw {p : Int} : ∀ {l : List Int}, l.Pairwise (· < ·) → (insU p l).Pairwise (· < ·)
  | [], _ => by simp [insU]
  | q :: r, h => by
    unfold insU
    obtain ⟨h1, h2⟩ := List.pairwise_cons.mp h
    split
    · rename_i c
      refine List.pairwise_cons.mpr ⟨fun x hx => ?_, h⟩
      rcases List.mem_cons.mp hx with rfl | hx
      · exact c
      · have := h1 x hx; omega
    · split
      · exact h
      · refine List.pairwise_cons.mpr ⟨fun x hx => ?_, insU_pw h2⟩
        rcases insU_mem.mp hx with rfl | hx
        · omega
        · exact h1 x hx
theorem sortU_mem {l : List Int} {a : Int} : a ∈ sortU l ↔ a ∈ l := by
  unfold sortU
  induction l with
  | nil => simp
  | cons p l ih => rw [List.foldr_cons, insU_mem, ih, List.mem_cons]
theorem pw_lt {l : List Int} (h : l.Pairwise (· ≤ ·)) (nd : l.Nodup) : l.Pairwise (· < ·) := by
  have := List.Pairwise.and h nd
  exact this.imp fun h => by omega
theorem sortU_pw (l : List Int) : (sortU l).Pairwise (· < ·) := by
  unfold sortU
  induction l with
  | nil => exact List.Pairwise.nil
  | cons p l ih => exact insU_pw ih
theorem insU_len (p : Int) : ∀ l : List Int, (insU p l).length ≤ l.length + 1
  | [] => by simp [insU]
  | q :: r => by
    unfold insU
    have := insU_len p r
    split
    · simp
    · split
      · simp
      · simpa using this
theorem sortU_len (l : List Int) : (sortU l).length ≤ l.length := by
  unfold sortU
  induction l with
  | nil => simp
  | cons p l ih =>
    rw [List.foldr_cons, List.length_cons]
    exact Nat.le_trans (insU_len _ _) (by omega)
theorem nodup_of_lt {l : List Int} (h : l.Pairwise (· < ·)) : l.Nodup := h.imp fun h e => by omega
theorem eq_of_lt {a b : List Int} (ha : a.Pairwise (· < ·)) (hb : b.Pairwise (· < ·)) (h : ∀ x, x ∈ a ↔ x ∈ b) : a = b := by
  have p : a.Perm b := (List.perm_ext_iff_of_nodup (nodup_of_lt ha) (nodup_of_lt hb)).mpr h
  exact List.Perm.eq_of_pairwise (le := (· < ·)) (fun x y _ _ h1 h2 => by omega) ha hb p
theorem sortU_is {l ys : List Int} (h : ys.Pairwise (· < ·)) (m : ∀ x, x ∈ ys ↔ x ∈ l) : ys = sortU l := eq_of_lt h (sortU_pw l) fun x => by rw [m, sortU_mem]
theorem sortU_perm {l ys : List Int} (p : ys.Perm l) (h : ys.Pairwise (· ≤ ·)) (nd : l.Nodup) : ys = sortU l := sortU_is (pw_lt h (p.nodup_iff.mpr nd)) fun x => p.mem_iff
/-! look -/
theorem look_cons {q : Int × Int} {l : NK} {p : Int} : look (q :: l) p = if q.1 = p then q.2 else look l p := by
  unfold look
  by_cases h : q.1 = p <;> simp [List.find?_cons, h]
theorem look_none {l : NK} {p : Int} (h : p ∉ l.map (·.1)) : look l p = 0 := by
  induction l with
  | nil => rfl
  | cons q l ih =>
    rw [List.map_cons, List.mem_cons, not_or] at h
    rw [look_cons, if_neg (fun e => h.1 e.symm), ih h.2]
theorem look_mem {l : NK} {q : Int × Int} (nd : (l.map (·.1)).Nodup) (h : q ∈ l) : look l q.1 = q.2 := by
  induction l with
  | nil => cases h
  | cons r l ih =>
    rw [List.map_cons, List.nodup_cons] at nd
    rw [look_cons]
    rcases List.mem_cons.mp h with rfl | h
    · rw [if_pos rfl]
    · rw [if_neg (fun e => nd.1 (by rw [e]; exact List.mem_map_of_mem h)), ih nd.2 h]
theorem Canon.nodup {l : NK} (c : Canon l) : (l.map (·.1)).Nodup := nodup_of_lt c.asc
theorem Canon.look_pos {l : NK} (c : Canon l) {p : Int} : 0 < look l p ↔ p ∈ l.map (·.1) := by
  constructor
  · intro h
    by_cases m : p ∈ l.map (·.1)
    · exact m
    · rw [look_none m] at h; omega
  · intro h
    obtain ⟨q, hq, rfl⟩ := List.mem_map.mp h
    rw [look_mem c.nodup hq]
    exact c.pos q hq
theorem Canon.nonneg {l : NK} (c : Canon l) (p : Int) : 0 ≤ look l p := by
  by_cases m : p ∈ l.map (·.1)
  · exact Int.le_of_lt (c.look_pos.mpr m)
  · rw [look_none m]; exact Int.le_refl 0
theorem canon_map {l : NK} (c : Canon l) : l = (l.map (·.1)).map fun p => (p, look l p) := by
  rw [List.map_map]
  conv => lhs; rw [← List.map_id l]
  refine List.map_congr_left fun q hq => ?_
  show q = (q.1, look l q.1)
  rw [look_mem c.nodup hq]
theorem canon_ext {a b : NK} (ca : Canon a) (cb : Canon b) (h : ∀ p, look a p = look b p) : a = b := by
  have e : a.map (·.1) = b.map (·.1) := eq_of_lt ca.asc cb.asc fun p => by rw [← ca.look_pos, ← cb.look_pos, h]
  rw [canon_map ca, canon_map cb, e]
  exact List.map_congr_left fun p _ => by rw [h]
/-! what number_of makes of a dict -/
def normK (l : NK) : NK := (sortU (l.map (·.1))).filterMap fun p => if 0 < look l p then some (p, look l p) else none
theorem normK_keys {l : NK} : (normK l).map (·.1) = (sortU (l.map (·.1))).filter fun p => decide (0 < look l p) := by
  unfold normK
  induction sortU (l.map (·.1)) with
  | nil => rfl
  | cons p r ih =>
    by_cases h : 0 < look l p
    · rw [List.filterMap_cons_some (by rw [if_pos h]), List.map_cons, ih, List.filter_cons_of_pos (by simpa using h)]
    · rw [List.filterMap_cons_none (by rw [if_neg h]), ih, List.filter_cons_of_neg (by simpa using h)]
theorem normK_canon (l : NK) : Canon (normK l) := by
  refine ⟨?_, ?_⟩
  · rw [normK_keys]
    exact (sortU_pw _).filter _
  · intro q hq
    unfold normK at hq
    obtain ⟨p, _, e⟩ := List.mem_filterMap.mp hq
    split at e
    · cases e; assumption
    · cases e
theorem normK_look {l : NK} (h : ∀ p, 0 ≤ look l p) (p : Int) : look (normK l) p = look l p := by
  by_cases m : p ∈ (normK l).map (·.1)
  · obtain ⟨q, hq, rfl⟩ := List.mem_map.mp m
    rw [look_mem (normK_canon l).nodup hq]
    unfold normK at hq
    obtain ⟨p, _, e⟩ := List.mem_filterMap.mp hq
    split at e
    · cases e; rfl
    · cases e
  · rw [look_none m]
    rw [normK_keys, List.mem_filter, sortU_mem] at m
    by_cases k : p ∈ l.map (·.1)
    · have := h p
      simp only [k, true_and, decide_eq_true_eq] at m
      omega
    · rw [look_none k]
theorem normK_sub {l : NK} {q : Int × Int} (h : q ∈ normK l) : q.1 ∈ l.map (·.1) := by
  have : q.1 ∈ (normK l).map (·.1) := List.mem_map_of_mem h
  rw [normK_keys, List.mem_filter, sortU_mem] at this
  exact this.1
theorem look_mapf {ks : List Int} {f : Int → Int} {p : Int} : look (ks.map fun p => (p, f p)) p = if p ∈ ks then f p else 0 := by
  induction ks with
  | nil => rfl
  | cons k ks ih =>
    rw [List.map_cons, look_cons, ih]
    by_cases h : k = p
    · subst h; simp
    · have : ¬ p = k := fun e => h e.symm
      simp [h, this]
/-- what a table over the primes of two numbers makes -/
def joinK (a b : NK) : List Int := sortU (a.map (·.1) ++ b.map (·.1))
def opK (f : Int → Int → Int) (a b : NK) : NK := normK ((joinK a b).map fun p => (p, f (look a p) (look b p)))
theorem opK_canon (f : Int → Int → Int) (a b : NK) : Canon (opK f a b) := normK_canon _
theorem opK_look {f : Int → Int → Int} {a b : NK} (h0 : f 0 0 = 0) (hf : ∀ p, 0 ≤ f (look a p) (look b p)) (p : Int) : look (opK f a b) p = f (look a p) (look b p) := by
  unfold opK
  rw [normK_look]
  · rw [look_mapf]
    by_cases m : p ∈ joinK a b
    · rw [if_pos m]
    · rw [if_neg m]
      unfold joinK at m
      rw [sortU_mem, List.mem_append, not_or] at m
      rw [look_none m.1, look_none m.2, h0]
  · intro p
    rw [look_mapf]
    split
    · exact hf p
    · exact Int.le_refl 0
theorem map_map1 {a : NK} {f : Int × Int → Int} : a.map (fun q => (q.1, f q)) = (a.map fun q => (q.1, f q)) := rfl
def overK (a b : NK) : NK := normK (a.map fun q => (q.1, q.2 - look b q.1))
def raisedK (a : NK) (t : Int) : NK := normK (a.map fun q => (q.1, q.2 * t))
theorem look_mapq {a : NK} (nd : (a.map (·.1)).Nodup) {f : Int → Int → Int} {p : Int} (h0 : p ∉ a.map (·.1) → f p 0 = 0) : look (a.map fun q => (q.1, f q.1 q.2)) p = f p (look a p) := by
  induction a with
  | nil => exact (h0 (by simp)).symm
  | cons q a ih =>
    rw [List.map_cons, List.nodup_cons] at nd
    rw [List.map_cons, look_cons, look_cons]
    by_cases h : q.1 = p
    · rw [if_pos h, if_pos h, h]
    · rw [if_neg h, if_neg h]
      refine ih nd.2 fun m => h0 ?_
      rw [List.map_cons, List.mem_cons, not_or]
      exact ⟨fun e => h e.symm, m⟩
theorem overK_look {a b : NK} (ca : Canon a) (hb : ∀ p, look b p ≤ look a p) (cb : Canon b) (p : Int) : look (overK a b) p = look a p - look b p := by
  have e : ∀ p, look (a.map fun q => (q.1, q.2 - look b q.1)) p = look a p - look b p := fun p =>
    look_mapq (f := fun p e => e - look b p) ca.nodup (fun m => by
      have := hb p
      rw [look_none m] at this
      have := cb.nonneg p
      show (0 : Int) - look b p = 0
      omega)
  unfold overK
  rw [normK_look (fun p => by rw [e]; have := hb p; omega), e]
theorem raisedK_look {a : NK} (ca : Canon a) {t : Int} (ht : 0 ≤ t) (p : Int) : look (raisedK a t) p = look a p * t := by
  have e : ∀ p, look (a.map fun q => (q.1, q.2 * t)) p = look a p * t := fun p => look_mapq (f := fun _ e => e * t) ca.nodup (fun _ => Int.zero_mul t)
  unfold raisedK
  rw [normK_look (fun p => by rw [e]; exact Int.mul_nonneg (ca.nonneg p) ht), e]
end NM

set_option Elab.async false
set_option linter.all false
set_option maxRecDepth 100000
set_option maxHeartbeats 4000000
/-! RLnum: numbers as values -/
namespace RL
open PySem PySem.Spec PyProof.Rows L2 NM
section
variable {X : Cx} {Γ : Ctx} {e o a b c d : Expr} {es : List Expr} {T U : Ty} {Ts Us : List Ty} {pos p p2 pos2 apos : Pos} {x m : Str}
/-- {k: v for ..}, frozen at once -/
theorem g_dc {kx vx tg iter : Expr} {ifs : List Expr} {scope : Scope} {own : List (Str × Nat)} {g : TG} (rs : List (Option (Key × V))) (hi : GI X Γ tg iter Ts) (ok : BlkOk X.N X.env.scope scope own)
    (hg : ∀ (s : Shared) (H : Hp) (C : Addr) (cl : List (Str × Addr)) (fp : List Addr), PG (X.blk s H scope (compEnvC scope cl C X.env) fp) tg g)
    (hl : rs.length = Ts.length) (hz : Ts.length ≤ sizeLine)
    (hw : ∀ (i : Nat) (T : Ty), Ts[i]? = some T → ∃ Δ2, Tgt g T ((own.map (·.2)).foldr (fun v G => G.set v none) Γ) Δ2 ∧
      ((rs[i]? = some none ∧ GCTs X scope Δ2 ifs false) ∨ ∃ k v, rs[i]? = some (some (k, v)) ∧ GCTs X scope Δ2 ifs true ∧ GC X scope Δ2 kx (valT (kV k)) ∧ GC X scope Δ2 vx (valT v)))
    (hwipe : OwnTgt g own) (hnd : ((rs.filterMap id).map (·.1)).Nodup) {T' : Ty} (hR : dicT (rs.filterMap id) = T')
    (hc : X.calm = true := by rfl) (hN : X.N.Nodup := by first | assumption | decide) (hf : ∀ x, foldedSetIterable iter X.env x = pure x := by intro _; rfl) : G X Γ (.DictComp kx vx [⟨tg, iter, ifs, 0⟩] scope pos) T' := hR ▸ fun σ H t Q q =>
  tE_frz (g_dcU rs hi ok hg hl hz hw hwipe hnd hc hN hf t fun D H' e hD hd => ⟨D, _, hd, trivial, fun od => q _ _ (e.mut hD hd) ⟨D, od, rfl, upd_same⟩⟩)
/-- what is always kept -/
theorem kept_all {α : Type} {β : Type u} (ks : List α) (g : α → β) : (ks.map fun p => some (g p)).filterMap id = ks.map g := by
  induction ks with
  | nil => rfl
  | cons p r ih =>
    rw [List.map_cons, List.map_cons, ← ih]
    rfl
/-- [e for x in it] -/
theorem g_lcM {α : Type} {x : Str} {i : Nat} {elt iter : Expr} {scope : Scope} {px : Pos} (ks : List α) (A R : α → Ty) [hSt : ∀ a, Stb (R a)] (hi : GI X Γ (.Name x px) iter (ks.map A)) (hz : ks.length ≤ sizeLine)
    (hv : ∀ p ∈ ks, GC X scope ((Γ.set i none).set i (some (A p))) elt (R p)) (ok : BlkOk X.N X.env.scope scope [(x, i)] := by first | exact blkOk_by rfl | exact blkOk_by (by decide +kernel))
    (hg : ∀ (s : Shared) (H : Hp) (C : Addr) (cl : List (Str × Addr)) (fp : List Addr), PG (X.blk s H scope (compEnvC scope cl C X.env) fp) (.Name x px) (gName i) := by exact fun _ _ _ _ _ => pg_name (by assumption) rfl (Or.inl rfl))
    {T' : Ty} (hR : lstT (ks.map R) = T' := by rfl) (hc : X.calm = true := by rfl) (hN : X.N.Nodup := by first | assumption | decide) (hf : ∀ x, foldedSetIterable iter X.env x = pure x := by intro _; rfl) : G X Γ (.ListComp elt [⟨.Name x px, iter, [], 0⟩] scope pos) T' := by
  subst hR
  refine g_lc (ks.map fun p => some (R p)) hi ok hg (by rw [List.length_map, List.length_map]) (by rw [List.length_map]; exact hz) (fun j T hT => ?_) (fun U hU => by obtain ⟨a, _, e⟩ := List.mem_map.mp hU; cases e; exact hSt a) own_name (by unfold keptT; rw [kept_all]) hc hN hf
  rw [List.getElem?_map] at hT
  cases hp : ks[j]? with
  | none => rw [hp] at hT; cases hT
  | some p =>
    rw [hp] at hT
    cases hT
    exact ⟨_, tgt_name, .inr ⟨R p, by rw [List.getElem?_map, hp]; rfl, gct_nil, hv p (List.mem_of_getElem? hp)⟩⟩
/-- {k: v for x in it}, of different keys -/
theorem g_dcM {α : Type} {x : Str} {i : Nat} {kx vx iter : Expr} {scope : Scope} {px : Pos} (ks : List α) (A : α → Ty) (kf : α → Key) (vf : α → V) (hi : GI X Γ (.Name x px) iter (ks.map A)) (hz : ks.length ≤ sizeLine) (hnd : (ks.map kf).Nodup)
    (hk : ∀ p ∈ ks, GC X scope ((Γ.set i none).set i (some (A p))) kx (valT (kV (kf p)))) (hv : ∀ p ∈ ks, GC X scope ((Γ.set i none).set i (some (A p))) vx (valT (vf p)))
    {T' : Ty} (hR : dicT (ks.map fun p => (kf p, vf p)) = T') (ok : BlkOk X.N X.env.scope scope [(x, i)] := by first | exact blkOk_by rfl | exact blkOk_by (by decide +kernel))
    (hg : ∀ (s : Shared) (H : Hp) (C : Addr) (cl : List (Str × Addr)) (fp : List Addr), PG (X.blk s H scope (compEnvC scope cl C X.env) fp) (.Name x px) (gName i) := by exact fun _ _ _ _ _ => pg_name (by assumption) rfl (Or.inl rfl))
    (hc : X.calm = true := by rfl) (hN : X.N.Nodup := by first | assumption | decide) (hf : ∀ x, foldedSetIterable iter X.env x = pure x := by intro _; rfl) : G X Γ (.DictComp kx vx [⟨.Name x px, iter, [], 0⟩] scope pos) T' := by
  subst hR
  refine g_dc (ks.map fun p => some (kf p, vf p)) hi ok hg (by rw [List.length_map, List.length_map]) (by rw [List.length_map]; exact hz) (fun j T hT => ?_) own_name ?_ (by rw [kept_all]) hc hN hf
  · rw [List.getElem?_map] at hT
    cases hp : ks[j]? with
    | none => rw [hp] at hT; cases hT
    | some p =>
      rw [hp] at hT
      cases hT
      exact ⟨_, tgt_name, .inr ⟨kf p, vf p, by rw [List.getElem?_map, hp]; rfl, gct_nil, hk p (List.mem_of_getElem? hp), hv p (List.mem_of_getElem? hp)⟩⟩
  · rw [kept_all, List.map_map]
    exact hnd
/-- min, max of two ints -/
theorem g_min2 {i j : Int} (ha : G X Γ a (intT i)) (hb : G X Γ b (intT j)) (hm : X.mg "min" = none) (hc : X.calm = true := by rfl) (hg : Gl X "min" := by rfl) (he : starEach [a, b] X.env = (false, eval a X.env) :: starEach [b] X.env := by first | exact se_cons rfl | exact se_one rfl | exact se_two rfl rfl | rfl) (he2 : starEach [b] X.env = (false, eval b X.env) :: starEach [] X.env := by first | exact se_cons rfl | exact se_one rfl | exact se_two rfl rfl | rfl) (hpl : (backTo pos (starEach [b] X.env)).any (·.1) = false := by first | exact se_any rfl | rfl) :
    G X Γ (.Call (.Name "min" p) [a, b] [] pos) (intT (if j < i then j else i)) :=
  g_callB (call_min2 hc) hm (by decide +kernel) (ga_cons ha (ga_cons hb ga_nil he2) he) (fun vs H h Q q => ⟨i, j, vals2 h, q _ _ (Ex.refl H) rfl⟩) hg (by decide) (by decide) he hpl
theorem g_max2 {i j : Int} (ha : G X Γ a (intT i)) (hb : G X Γ b (intT j)) (hm : X.mg "max" = none) (hc : X.calm = true := by rfl) (hg : Gl X "max" := by rfl) (he : starEach [a, b] X.env = (false, eval a X.env) :: starEach [b] X.env := by first | exact se_cons rfl | exact se_one rfl | exact se_two rfl rfl | rfl) (he2 : starEach [b] X.env = (false, eval b X.env) :: starEach [] X.env := by first | exact se_cons rfl | exact se_one rfl | exact se_two rfl rfl | rfl) (hpl : (backTo pos (starEach [b] X.env)).any (·.1) = false := by first | exact se_any rfl | rfl) :
    G X Γ (.Call (.Name "max" p) [a, b] [] pos) (intT (if j > i then j else i)) :=
  g_callB (call_max2 hc) hm (by decide +kernel) (ga_cons ha (ga_cons hb ga_nil he2) he) (fun vs H h Q q => ⟨i, j, vals2 h, q _ _ (Ex.refl H) rfl⟩) hg (by decide) (by decide) he hpl
/-- set(l) of a frozen list of ints -/
theorem cr_setL (hc : X.calm = true) : CallR X (.type "set") (fun vs H Q => ∃ (l : Addr) (ns : List Int), vs = [V.ref l] ∧ FrzL H l (ns.map V.int) ∧ ns.length ≤ 1000 ∧ ∀ (q : Addr) (n : Nat), n ≤ ns.length → H q = none → Q (.ref q) (upd H q (SetO X.w q (fun j => decide (j ∈ ns)) n))) := by
  intro pins s σ H vs us Q I r h
  obtain ⟨l, ns, ev, ⟨o, hf⟩, hn, q⟩ := h
  subst ev
  match us, r with
  | [u], .cons ru .nil =>
    obtain rfl : u = Value.ref l := ru
    obtain ⟨_, z, its, c, hv, hl⟩ := I.hok l _ hf
    refine set_of_list (items := its.toArray) ns (I.ok.hd hc) ⟨_, hl, rfl, c, rfl⟩ (ints_of_vals hv) (by unfold scanBound; omega) fun h' tk n hR hle k => ?_
    exact ⟨.ref s.heap.objs.size, _, I.laid k (Nat.le_refl _) (setO_new hR), rfl, q _ n hle (I.hok.fresh (Nat.le_refl _))⟩
/-- sorted(set(l)) -/
theorem g_sortedSet {ns : List Int} (h : G X Γ e (lstT (ns.map fun z => intT z))) (hm : X.mg "sorted" = none) (hm2 : X.mg "set" = none) (h64 : ns.length < 64) (hc : X.calm = true := by rfl) (hg : Gl X "sorted" := by rfl) (hg2 : Gl X "set" := by rfl)
    (he : starEach [e] X.env = (false, eval e X.env) :: starEach [] X.env := by first | exact se_cons rfl | exact se_one rfl | exact se_two rfl rfl | rfl) : G X Γ (.Call (.Name "sorted" p) [.Call (.Name "set" p2) [e] [] pos2] [] pos) (lstT ((sortU ns).map fun z => intT z)) := fun σ H t Q q =>
  tE_frz (toE (pe_callB (cr_sortedSet hc) hg hm (by decide +kernel) (pa_cons (pe_callTy (cr_setL hc) hg2 hm2 (by decide +kernel) (pa_cons (pe e) pa_nil he) (he := he)) pa_nil)) (h σ H t _ fun v H1 e1 ⟨l, vs, ev, hf, h2⟩ => by
    subst ev
    have hv : vs = ns.map V.int := All2.vals (H := H1) (by rw [List.map_map]; exact h2)
    subst hv
    refine ⟨l, ns, rfl, hf, by omega, fun s n hn hs => ⟨s, _, n, rfl, upd_same, by omega, fun out d hd hmem hlen hfree => ?_⟩⟩
    have hout : out = sortU ns := sortU_is hd fun x => by rw [hmem x, decide_eq_true_eq]
    subst hout
    refine ⟨d, _, upd_same, trivial, fun od => ?_⟩
    rw [upd_upd]
    have hsd : H1 d = none := by
      by_cases c : d = s
      · subst c; exact hs
      · rw [upd_ne c] at hfree; exact hfree
    refine q _ _ ?_ ⟨d, _, rfl, ⟨od, upd_same⟩, ?_⟩
    · exact (e1.trans (Ex.new hs)).trans (Ex.new hfree)
    · have z := All2.of_vals (H := upd (upd H1 s (SetO X.w s (fun j => decide (j ∈ ns)) n)) d (.frz od (.lst ((sortU ns).map V.int)))) (ws := (sortU ns).map V.int)
      rwa [List.map_map] at z))
end
/-! ### numbers -/
def numCs : List Str := ["Number", "MadeNumber"]
def kvN (l : NK) : List (Key × V) := l.map fun q => (Sum.inl q.1, V.int q.2)
theorem kvN_keys (l : NK) : (kvN l).map (·.1) = (l.map (·.1)).map Sum.inl := by simp [kvN]
theorem kvN_val (l : NK) (p : Int) : (valV (kvN l) (Sum.inl p : Key)).getD (.int 0) = .int (look l p) := by
  induction l with
  | nil => rfl
  | cons q l ih =>
    unfold valV kvN at *
    rw [List.map_cons, List.find?_cons, look_cons]
    by_cases h : q.1 = p
    · subst h; simp
    · have h' : ¬ (Sum.inl q.1 : Key) = Sum.inl p := fun z => h (Sum.inl.inj z)
      simp only [h, h', decide_false, if_false]
      exact ih
theorem kvN_val' {l : NK} {p : Int} (h : p ∈ l.map (·.1)) : valV (kvN l) (Sum.inl p : Key) = some (.int (look l p)) := by
  have z := kvN_val l p
  cases e : valV (kvN l) (Sum.inl p : Key) with
  | some v => rw [e] at z; exact congrArg some z
  | none =>
    exfalso
    obtain ⟨q, hq, rfl⟩ := List.mem_map.mp h
    unfold valV kvN at e
    rw [Option.map_eq_none_iff, List.find?_eq_none] at e
    exact e (Sum.inl q.1, V.int q.2) (List.mem_map_of_mem (f := fun q : Int × Int => ((Sum.inl q.1, V.int q.2) : Key × V)) hq) (by simp)
/-- the number of these pairs -/
def numT (K : PySem.W.Frag) (k : NK) : Ty := ⟨fun v H => ∃ a C dx p o, v = .ref a ∧ H a = some (.ins C dx [("powers", .ref p)]) ∧ NamesC K numCs C ∧ H p = some (.frz o (.dK (kvN k))),
  fun {v H H'} e ⟨a, C, dx, p, o, h1, h2, h3, h4⟩ => ⟨a, C, dx, p, o, h1, e a _ h2, h3, e p _ h4⟩⟩
instance (K : PySem.W.Frag) (k : NK) : Stb (numT K k) := ⟨fun e ⟨a, C, dx, p, o, h1, h2, h3, h4⟩ => ⟨a, C, dx, p, o, h1, e a _ (by exact fun z => z) h2, h3, e p _ (by exact fun z => z) h4⟩⟩
theorem num_any {K : PySem.W.Frag} {k : NK} {v : V} {H : Hp} (h : numT K k v H) : InsAny (NamesC K numCs) v H := by
  obtain ⟨a, C, dx, p, o, h1, h2, h3, _⟩ := h
  exact ⟨a, C, dx, _, h1, h2, h3⟩
theorem num_of {K : PySem.W.Frag} {k : NK} {m : Str} (hm : List.lookup m [(("powers" : Str), V.ref 0)] = none) {v : V} {H : Hp} (h : numT K k v H) : InsOf (NamesC K numCs) m v H := by
  obtain ⟨a, C, dx, p, o, h1, h2, h3, _⟩ := h
  refine ⟨a, C, dx, _, h1, h2, h3, ?_⟩
  rw [List.lookup_cons] at hm ⊢
  split at hm
  · cases hm
  · rfl
end RL

set_option Elab.async false
set_option linter.all false
set_option maxRecDepth 100000
set_option maxHeartbeats 4000000
/-! RLbag: the laws' bag of choices, hidden in one word -/
namespace RL
open PySem PySem.Spec PyProof.Rows L2
/-- what stands in a bag -/
structure BagS where
  i : Int
  c : Int
  m : Int
def BagS.ok (z : BagS) : Prop := 0 ≤ z.i ∧ 0 ≤ z.c ∧ 0 ≤ z.m ∧ z.m < 2 ^ 40
def bagL (row : Addr) (z : BagS) : HO := .lst [.ref row, .int z.i, .int z.c, .int z.m]
/-- a bag at b, its row at row, its state hidden -/
def bagH (b row : Addr) : HO := .ext fun h => ∃ z : BagS, z.ok ∧ ∃ (t1 t2 t3 : Tok) (n : Nat), h.get? b = some { cls := .type "list", data := .seq #[.ref row, .int z.i t1, .int z.c t2, .int z.m t3] n }
def bagT : Ty := ⟨fun v H => ∃ (b row : Addr) (cells : List Int), v = .ref b ∧ H b = some (bagH b row) ∧ FrzL H row (cells.map V.int), fun e ⟨b, row, cells, h1, h2, h3⟩ => ⟨b, row, cells, h1, e _ _ h2, h3.up e⟩⟩
theorem bagH_unf {b row : Addr} : ¬ Unf (bagH b row) := unf_ext (b := b) (o := { cls := .type "list", data := .seq #[.ref row, .int 0 0, .int 0 0, .int 0 0] 0 }) rfl (by show Value.type "list" ≠ _; decide) fun h e => ⟨⟨0, 0, 0⟩, ⟨by decide, by decide, by decide, by decide⟩, 0, 0, 0, 0, e⟩
instance : Stb bagT := ⟨fun e ⟨b, row, cells, h1, h2, h3⟩ => ⟨b, row, cells, h1, e _ _ bagH_unf h2, h3.le e⟩⟩
theorem bag_close {b row : Addr} {z : BagS} (h : z.ok) : ∀ (P : Program) (w : World) (H H' : Hp) (hp : Heap), ObjOk P w H hp b (bagL row z) → ObjOk P w H' hp b (bagH b row) := fun P w H H' hp ⟨_, its, n, r, e⟩ => by
  cases r with
  | cons r0 r =>
  cases r with
  | cons r1 r =>
  cases r with
  | cons r2 r =>
  cases r with
  | cons r3 r =>
  cases r
  cases r0
  obtain ⟨t1, rfl⟩ := r1
  obtain ⟨t2, rfl⟩ := r2
  obtain ⟨t3, rfl⟩ := r3
  exact ⟨⟨z, h, t1, t2, t3, n, e⟩, ⟨_, e⟩, fun h1 h2 ⟨z', k, u1, u2, u3, n', e'⟩ s => ⟨z', k, u1, u2, u3, n', s _ e'⟩⟩
theorem bag_open {b row : Addr} : ∀ (P : Program) (w : World) (hp : Heap), (∃ z : BagS, z.ok ∧ ∃ (t1 t2 t3 : Tok) (n : Nat), hp.get? b = some { cls := .type "list", data := .seq #[.ref row, .int z.i t1, .int z.c t2, .int z.m t3] n }) → ∃ z : { z : BagS // z.ok }, ∀ H', ObjOk P w H' hp b (bagL row z.1) := fun P w hp ⟨z, h, t1, t2, t3, n, e⟩ =>
  ⟨⟨z, h⟩, fun H' => ⟨(by decide : 4 ≤ sizeLine), [.ref row, .int z.i t1, .int z.c t2, .int z.m t3], n, .cons rfl (.cons ⟨_, rfl⟩ (.cons ⟨_, rfl⟩ (.cons ⟨_, rfl⟩ .nil))), e⟩⟩
/-- the row of an opened bag -/
def rowT (row : Addr) (cells : List Int) : Ty := ⟨fun v H => v = .ref row ∧ FrzL H row (cells.map V.int), fun e ⟨h1, h2⟩ => ⟨h1, h2.up e⟩⟩
instance (row : Addr) (cells : List Int) : Stb (rowT row cells) := ⟨fun e ⟨h1, h2⟩ => ⟨h1, h2.le e⟩⟩
theorem row_lst {row : Addr} {cells : List Int} {v : V} {H : Hp} (h : rowT row cells v H) : lstT (cells.map fun z => intT z) v H := by
  obtain ⟨h1, h2⟩ := h
  refine ⟨row, _, h1, h2, ?_⟩
  have z := All2.of_vals (H := H) (ws := cells.map V.int)
  rwa [List.map_map] at z
abbrev bagTs (row : Addr) (cells : List Int) (z : BagS) : List Ty := [rowT row cells, intT z.i, intT z.c, intT z.m]
def hide (b : Addr) (H : Hp) : Hp := fun a => if a = b then none else H a
theorem hide_none {b : Addr} {H : Hp} : hide b H b = none := by simp [hide]
theorem hide_ex {b : Addr} {H : Hp} {o : HO} : Ex (hide b H) (upd H b o) := .of fun a u h => by
  unfold hide at h
  split at h
  · cases h
  · rename_i ne
    rw [upd_ne ne]; exact h
theorem bagH_plain {b row : Addr} : Plain b (bagH b row) := ⟨trivial, fun q => by
  obtain ⟨h, e, _⟩ := heap_with b { cls := .type "list", data := .seq #[.ref row, .int 0 0, .int 0 0, .int 0 0] 0 } rfl
  refine ext_ne h ⟨⟨0, 0, 0⟩, ⟨by decide, by decide, by decide, by decide⟩, 0, 0, 0, 0, e⟩ ?_
  rintro ⟨oc, vs, t, e1, e2, _⟩
  rw [e] at e1
  cases e1
  cases e2⟩
/-- what is tracked without the thing at b -/
theorem hide_tab {b : Addr} {H : Hp} {u : HO} (hb : H b = some u) (hp : Plain b u) {x : Addr} {q : Str} (t : LamX.TabS H x q) : LamX.TabS (hide b H) x q := by
  obtain ⟨ps, h1, h2, h3⟩ := t
  have n1 : x ≠ b := fun z => by
    rw [z, hb] at h1
    cases h1
    exact hp.1
  refine ⟨ps, by unfold hide; rw [if_neg n1]; exact h1, h2, fun pos cv hc => ?_⟩
  obtain ⟨c, e1, e2⟩ := h3 pos cv hc
  have n2 : c ≠ b := fun z => by
    rw [z, hb] at e2
    exact hp.2 q (Option.some.inj e2)
  exact ⟨c, e1, by unfold hide; rw [if_neg n2]; exact e2⟩
/-- what was opened is closed again -/
theorem closes {b : Addr} {H H' : Hp} {o u : HO} (e : Ex (hide b H) H') (hb : H b = some o) (ho : Plain b o) (hu : H' b = some u) (un : Unf u) : Ex H (upd H' b o) := by
  refine ⟨fun a u h n => ?_, fun a h => ?_, fun x q z t => tab_mut hu un.plain (e.tab x q z (hide_tab hb ho t))⟩
  · by_cases c : a = b
    · subst c
      rw [hb] at h; cases h
      exact upd_same
    · rw [upd_ne c]
      exact e.sm a u (by unfold hide; rw [if_neg c]; exact h) n
  · by_cases c : a = b
    · rw [c, upd_same] at h; cases h
    · rw [upd_ne c] at h
      have z := e.dom a h
      unfold hide at z
      rwa [if_neg c] at z
/-- the bag is closed again -/
theorem unhide {b row : Addr} {H H' : Hp} {u : HO} (e : Ex (hide b H) H') (hb : H b = some (bagH b row)) (hu : H' b = some u) (un : Unf u := by trivial) : Ex H (upd H' b (bagH b row)) := closes e hb bagH_plain hu un
section
variable {X : Cx} {Γ : Ctx} {e : Expr} {T : Ty} {H0 : Bs} {D : Ends} {rest : List Stmt} {pos : Pos}
theorem g_pow {a b : Expr} {i j : Int} (ha : G X Γ a (intT i)) (hb : G X Γ b (intT j)) (h : CPow i j) : G X Γ (.BinOp a .Pow b pos) (intT (i ^ j.toNat)) := g_op op_pow ha hb (r_I (g := fun i j => V.int (i ^ j.toNat)) (C := CPow) h)
theorem g_intI {i : Int} {p : Pos} (h : G X Γ e (intT i)) (hm : X.mg "int" = none) (hg : Gl X "int" := by rfl) (he : starEach [e] X.env = (false, eval e X.env) :: starEach [] X.env := by first | exact se_cons rfl | exact se_one rfl | exact se_two rfl rfl | rfl) : G X Γ (.Call (.Name "int" p) [e] [] pos) (intT i) :=
  g_callTy call_int1 hm (by decide +kernel) (ga_cons h ga_nil he) (fun vs H h2 Q q => .inl ⟨i, vals1' h2, q _ H (Ex.refl H) rfl⟩) hg (he := he)
/-- return e, a thing told anew behind it -/
theorem b_retR (he : G X Γ e T) (h : ∀ σ v H', H0.ok H' → Typed σ Γ H' → T v H' → ∃ d u u', H' d = some u ∧ Retr d u u' ∧ D.rt v (upd H' d u')) : Bd X Γ (.Return (some e) pos :: rest) H0 D := b_cons fun σ H e0 t => toS (ps_ret (pe e)) (tE_retr (he σ H t _ fun v H1 e1 h1 => h σ v H1 (e0.trans e1) (t.up e1) h1))
end
end RL

set_option Elab.async false
set_option linter.all false
set_option maxRecDepth 100000
set_option maxHeartbeats 4000000
/-! RLx: values of which only a property is known; tests with several answers -/
namespace RL
open PySem PySem.Spec PyProof.Rows L2
/-- an int with this property -/
abbrev inT (p : Int → Prop) : Ty := exT fun i : { i : Int // p i } => intT i.1
/-- one of these -/
abbrev oneT (Ts : List Ty) : Ty := exT fun i : Fin Ts.length => Ts[i.1]
section
variable {X : Cx} {Γ : Ctx} {e o a b c d : Expr} {es : List Expr} {T U : Ty} {Ts Us : List Ty} {pos pos2 : Pos} {x : Str} {p q r : Int → Prop}
theorem G.ofI {i : Int} (h : G X Γ e (intT i)) (hp : p i) : G X Γ e (inT p) := h.imp fun v H k => ⟨⟨i, hp⟩, k⟩
theorem G.inI (h : G X Γ e (inT p)) (k : ∀ i, p i → q i) : G X Γ e (inT q) := h.imp fun v H ⟨i, hv⟩ => ⟨⟨i.1, k _ i.2⟩, hv⟩
theorem G.ex {α : Sort u} {F : α → Ty} (z : α) (h : G X Γ e (F z)) : G X Γ e (exT F) := h.imp fun v H k => ⟨z, k⟩
theorem r_exI {g : Int → Int → Int} {C : Int → Int → Prop} (hc : ∀ i j, p i → q j → C i j ∧ r (g i j)) : ∀ x y H, inT p x H → inT q y H → ∀ Q : VK, (∀ v H', Ex H H' → inT r v H' → Q v H') → rI C (fun i j => V.int (g i j)) x y H Q := fun x y H ⟨i, hx⟩ ⟨j, hy⟩ Q k =>
  ⟨i.1, j.1, hx, hy, (hc _ _ i.2 j.2).1, k _ H (Ex.refl H) ⟨⟨_, (hc _ _ i.2 j.2).2⟩, rfl⟩⟩
theorem r_exI0 {g : Int → Int → Int} (hc : ∀ i j, p i → q j → r (g i j)) : ∀ x y H, inT p x H → inT q y H → ∀ Q : VK, (∀ v H', Ex H H' → inT r v H' → Q v H') → rI0 (fun i j => V.int (g i j)) x y H Q := fun x y H ⟨i, hx⟩ ⟨j, hy⟩ Q k =>
  ⟨i.1, j.1, hx, hy, k _ H (Ex.refl H) ⟨⟨_, hc _ _ i.2 j.2⟩, rfl⟩⟩
theorem gx_add (ha : G X Γ a (inT p)) (hb : G X Γ b (inT q)) (hc : ∀ i j, p i → q j → r (i + j)) : G X Γ (.BinOp a .Add b pos) (inT r) := g_op op_add ha hb (r_exI0 (g := fun i j => i + j) hc)
theorem gx_sub (ha : G X Γ a (inT p)) (hb : G X Γ b (inT q)) (hc : ∀ i j, p i → q j → r (i - j)) : G X Γ (.BinOp a .Sub b pos) (inT r) := g_op op_sub ha hb (r_exI0 (g := fun i j => i - j) hc)
theorem gx_mod (ha : G X Γ a (inT p)) (hb : G X Γ b (inT q)) (hc : ∀ i j, p i → q j → 0 < j ∧ r (i % j)) : G X Γ (.BinOp a .Mod b pos) (inT r) := g_op op_mod ha hb (r_exI (g := fun i j => i % j) (C := fun _ j => 0 < j) hc)
theorem gx_mul {n k : Nat} (ha : G X Γ a (inT p)) (hb : G X Γ b (inT q)) (hc : ∀ i j, p i → q j → (i.natAbs < 2 ^ n ∧ j.natAbs < 2 ^ k) ∧ r (i * j)) (hn : 0 < n := by decide) (hk : 0 < k := by decide) (h : n + k ≤ 1000000 := by decide) : G X Γ (.BinOp a .Mult b pos) (inT r) :=
  g_op op_mulW ha hb (r_exI (g := fun i j => i * j) fun i j hi hj => ⟨wide_mul (hc i j hi hj).1.1 (hc i j hi hj).1.2 hn hk h, (hc i j hi hj).2⟩)
theorem all2_2 {T0 T1 : Ty} {vs : List V} {H : Hp} (h : All2 [T0, T1] vs H) : ∃ v0 v1, vs = [v0, v1] ∧ T0 v0 H ∧ T1 v1 H := by
  match vs, h with
  | [a, b], ⟨h0, h1, _⟩ => exact ⟨a, b, rfl, h0, h1⟩
theorem all2_3 {T0 T1 T2 : Ty} {vs : List V} {H : Hp} (h : All2 [T0, T1, T2] vs H) : ∃ v0 v1 v2, vs = [v0, v1, v2] ∧ T0 v0 H ∧ T1 v1 H ∧ T2 v2 H := by
  match vs, h with
  | [a, b, c], ⟨h0, h1, h2, _⟩ => exact ⟨a, b, c, rfl, h0, h1, h2⟩
theorem all2_4 {T0 T1 T2 T3 : Ty} {vs : List V} {H : Hp} (h : All2 [T0, T1, T2, T3] vs H) : ∃ v0 v1 v2 v3, vs = [v0, v1, v2, v3] ∧ T0 v0 H ∧ T1 v1 H ∧ T2 v2 H ∧ T3 v3 H := by
  match vs, h with
  | [a, b, c, d], ⟨h0, h1, h2, h3, _⟩ => exact ⟨a, b, c, d, rfl, h0, h1, h2, h3⟩
/-! tests -/
/-- e asked for its truth says one of p -/
def GP (X : Cx) (Γ : Ctx) (e : Expr) (p : Bool → Prop) : Prop := ∀ σ H, Typed σ Γ H → ∀ Q : Bool → Hp → Prop, (∀ b H', Ex H H' → p b → Q b H') → tT X e σ H Q
theorem GT.gp {k : Bool} (h : GT X Γ e k) : GP X Γ e (· = k) := fun σ H t Q q => h σ H t _ fun H1 e1 => q k H1 e1 rfl
theorem GP.imp {p q : Bool → Prop} (h : GP X Γ e p) (k : ∀ b, p b → q b) : GP X Γ e q := fun σ H t Q w => h σ H t Q fun b H1 e1 hb => w b H1 e1 (k b hb)
theorem GP.any {p : Bool → Prop} (h : GP X Γ e p) : GP X Γ e fun _ => True := h.imp fun _ _ => trivial
theorem gp_bl {p : Bool → Prop} (h : G X Γ e T) (ht : ∀ v H, T v H → ∃ b, v = .bl b ∧ p b) (he : ∀ whole, isTrue e X.env whole = (do let v ← whole; standAt e.pos; holding [v] (truthy v)) := by intro _; rfl) : GP X Γ e p := fun σ H t Q q =>
  toT (pt_val (pe e) he) (h σ H t _ fun v H1 e1 h1 => by
    obtain ⟨b, ev, hb⟩ := ht v H1 h1
    exact ⟨b, ev, q b H1 e1 hb⟩)
theorem gp_not {p : Bool → Prop} (h : GP X Γ e p) : GP X Γ (.UnaryOp .Not e pos) fun b => p (!b) := fun σ H t Q q => toT (pt_not (pt e)) (h σ H t _ fun b H1 e1 hb => q _ H1 e1 (by simpa using hb))
theorem gp_and2 {p q : Bool → Prop} (ha : GP X Γ a p) (hb : p true → GP X Γ b q) : GP X Γ (.BoolOp .And [a, b] pos) fun r => (r = false ∧ p false) ∨ (p true ∧ q r) := fun σ H t Q w => toT (PW.pt (pw_and (pt a) (pw_and1 (pt b)))) (ha σ H t _ fun k H1 e1 hk => by
  cases k with
  | true => exact iteT (hb hk σ H1 (t.up e1) _ fun b H2 e2 hb => w b H2 (e1.trans e2) (.inr ⟨hk, hb⟩))
  | false => exact iteF (w _ H1 e1 (.inl ⟨rfl, hk⟩)))
theorem gp_or2 {p q : Bool → Prop} (ha : GP X Γ a p) (hb : p false → GP X Γ b q) : GP X Γ (.BoolOp .Or [a, b] pos) fun r => (r = true ∧ p true) ∨ (p false ∧ q r) := fun σ H t Q w => toT (PW.pt (pw_or (pt a) (pw_or1 (pt b)))) (ha σ H t _ fun k H1 e1 hk => by
  cases k with
  | true => exact iteT (w _ H1 e1 (.inl ⟨rfl, hk⟩))
  | false => exact iteF (hb hk σ H1 (t.up e1) _ fun b H2 e2 hb => w b H2 (e1.trans e2) (.inr ⟨hk, hb⟩)))
theorem gp_cmp {op : CmpOp} {r : R2} {k : Bool → Prop} (ho : OpR X (compareOp op) r) (ha : G X Γ a T) (hb : G X Γ b U) (hr : ∀ x y H, T x H → U y H → ∀ Q : VK, (∀ b, k b → Q (.bl b) H) → r x y H Q) (hm : behindInMarks op b = false := by rfl) : GP X Γ (.Compare a [op] [b] pos) k := fun σ H t Q q =>
  toT (pt_cmpR ho (pe a) (pe b) hm) (ha σ H t _ fun v H1 e1 h1 => hb σ H1 (t.up e1) _ fun u H2 e2 h2 => hr v u H2 (T.up e2 h1) h2 _ fun b hb => ⟨b, rfl, q b H2 (e1.trans e2) hb⟩)
theorem r_exB {g : Int → Int → Bool} {k : Bool → Prop} (hc : ∀ i j, p i → q j → k (g i j)) : ∀ x y H, inT p x H → inT q y H → ∀ Q : VK, (∀ b, k b → Q (.bl b) H) → rI0 (fun i j => V.bl (g i j)) x y H Q := fun x y H ⟨i, hx⟩ ⟨j, hy⟩ Q w => ⟨i.1, j.1, hx, hy, w _ (hc _ _ i.2 j.2)⟩
theorem gp_lt {k : Bool → Prop} (ha : G X Γ a (inT p)) (hb : G X Γ b (inT q)) (hc : ∀ i j, p i → q j → k (decide (i < j))) : GP X Γ (.Compare a [.Lt] [b] pos) k := gp_cmp op_lt ha hb (r_exB (g := fun i j => decide (i < j)) hc) (nomark _)
theorem gp_gt {k : Bool → Prop} (ha : G X Γ a (inT p)) (hb : G X Γ b (inT q)) (hc : ∀ i j, p i → q j → k (decide (j < i))) : GP X Γ (.Compare a [.Gt] [b] pos) k := gp_cmp op_gt ha hb (r_exB (g := fun i j => decide (j < i)) hc) (nomark _)
theorem gp_eqI {k : Bool → Prop} (ha : G X Γ a (inT p)) (hb : G X Γ b (inT q)) (hc : ∀ i j, p i → q j → k (decide (i = j))) : GP X Γ (.Compare a [.Eq] [b] pos) k := gp_cmp op_eq ha hb (fun x y H ⟨i, hx⟩ ⟨j, hy⟩ Q w => by
  have hx' : x = .int i.1 := hx
  have hy' : y = .int j.1 := hy
  subst hx'; subst hy'
  refine ⟨rfl, w _ ?_⟩
  have := hc _ _ i.2 j.2
  simpa using this) (nomark _)
/-! things[n] -/
theorem ixN_nat {n : Nat} {i : Int} (h0 : 0 ≤ i) (h : i < n) : ixN n i = some i.toNat := by
  unfold ixN
  first
    | simp only [h0, h, if_true]
    | (rw [if_pos ⟨h0, h⟩])
    | (simp [h0, h]; omega)
theorem atI_one {i : Int} (h0 : 0 ≤ i) (h : i < Ts.length) : L2.atI Ts i = some (Ts[i.toNat]'(by omega)) := by
  unfold L2.atI
  rw [ixN_nat h0 h]
  exact List.getElem?_eq_getElem _
theorem g_ixLX (ho : G X Γ o (rlT X.K Ts)) (hk : G X Γ e (inT fun i => 0 ≤ i ∧ i < Ts.length)) (hs : PlainIx e := by exact fun _ _ => rfl) : G X Γ (.Subscript o e pos) (oneT Ts) := fun σ H t Q q =>
  toE (pe_ix ix_list (pe o) (pe e) hs) (ho σ H t _ fun v H1 e1 h1 => hk σ H1 (t.up e1) _ fun w H2 e2 ⟨i, h2⟩ => by
    obtain ⟨l, vs, ev, hl, ha⟩ := (rlT X.K Ts).up e2 h1
    obtain ⟨y, hy, ty⟩ := ha.atI (atI_one i.2.1 i.2.2)
    exact ⟨l, vs, i.1, y, ev, h2, hl, hy, q y H2 (e1.trans e2) ⟨⟨i.1.toNat, by have := i.2; omega⟩, ty⟩⟩)
/-! slices, frozen at once -/
theorem All2.drop {H : Hp} : ∀ {Ts : List Ty} {vs : List V} (n : Nat), All2 Ts vs H → All2 (Ts.drop n) (vs.drop n) H
  | _, _, 0, h => h
  | [], [], _ + 1, _ => trivial
  | _ :: _, _ :: _, n + 1, ⟨_, b⟩ => All2.drop n b
  | [], _ :: _, _, h => h.elim
  | _ :: _, [], _, h => h.elim
theorem All2.take {H : Hp} : ∀ {Ts : List Ty} {vs : List V} (n : Nat), All2 Ts vs H → All2 (Ts.take n) (vs.take n) H
  | _, _, 0, _ => trivial
  | [], [], _ + 1, _ => trivial
  | _ :: _, _ :: _, n + 1, ⟨a, b⟩ => ⟨a, All2.take n b⟩
  | [], _ :: _, _, h => h.elim
  | _ :: _, [], _, h => h.elim
def cutT (Ts : List Ty) (lo hi : Option Int) : List Ty := (Ts.drop (HT.sIx Ts.length 0 lo)).take (HT.sIx Ts.length Ts.length hi - HT.sIx Ts.length 0 lo)
theorem All2.cut {H : Hp} {Ts : List Ty} {vs : List V} {lo hi : Option Int} (h : All2 Ts vs H) : All2 (cutT Ts lo hi) (cutV vs lo hi) H := by
  unfold cutT cutV
  rw [h.len]
  exact (h.drop _).take _
/-- l[:n], n of a family -/
theorem g_cutTo {α : Type} {n : α → Int} (ho : G X Γ o (rlT X.K Ts)) (hk : G X Γ e (exT fun z => intT (n z))) : G X Γ (.Subscript o (.Slice none (some e) none pos2) pos) (exT fun z => lstT (cutT Ts none (some (n z)))) := fun σ H t Q q =>
  tE_frz (toE (pe_slice sl_list (pe o) po_none (po_some (pe e))) (ho σ H t _ fun v H1 e1 h1 => hk σ H1 (t.up e1) _ fun w H2 e2 ⟨z, h2⟩ => by
    obtain ⟨l, vs, ev, hl, ha⟩ := (rlT X.K Ts).up e2 h1
    refine ⟨n z, h2, l, vs, ev, hl, fun d hd => ⟨d, _, upd_same, trivial, fun od => ?_⟩⟩
    rw [upd_upd]
    exact q _ _ ((e1.trans e2).trans (Ex.new hd)) ⟨z, d, _, rfl, ⟨od, upd_same⟩, ha.cut.up (Ex.new hd)⟩))
theorem g_cutFrom {α : Type} {n : α → Int} (ho : G X Γ o (rlT X.K Ts)) (hk : G X Γ e (exT fun z => intT (n z))) : G X Γ (.Subscript o (.Slice (some e) none none pos2) pos) (exT fun z => lstT (cutT Ts (some (n z)) none)) := fun σ H t Q q =>
  tE_frz (toE (pe_slice sl_list (pe o) (po_some (pe e)) po_none) (ho σ H t _ fun v H1 e1 h1 => hk σ H1 (t.up e1) _ fun w H2 e2 ⟨z, h2⟩ => by
    obtain ⟨l, vs, ev, hl, ha⟩ := (rlT X.K Ts).up e2 h1
    refine ⟨n z, h2, l, vs, ev, hl, fun d hd => ⟨d, _, upd_same, trivial, fun od => ?_⟩⟩
    rw [upd_upd]
    exact q _ _ ((e1.trans e2).trans (Ex.new hd)) ⟨z, d, _, rfl, ⟨od, upd_same⟩, ha.cut.up (Ex.new hd)⟩))
theorem cutT_to {n : Int} (h : 0 ≤ n) : cutT Ts none (some n) = Ts.take n.toNat := by
  have e1 : HT.sIx Ts.length 0 none = 0 := rfl
  have e2 : HT.sIx Ts.length Ts.length (some n) = min n.toNat Ts.length := by
    unfold HT.sIx
    first
      | (simp only [h, if_true]; omega)
      | (split <;> omega)
      | (simp; omega)
  unfold cutT
  rw [e1, e2, List.drop_zero, Nat.sub_zero, List.take_eq_take_iff]
  omega
theorem cutT_from {n : Int} (h : 0 ≤ n) : cutT Ts (some n) none = Ts.drop n.toNat := by
  have e1 : HT.sIx Ts.length Ts.length none = Ts.length := rfl
  have e2 : HT.sIx Ts.length 0 (some n) = min n.toNat Ts.length := by
    unfold HT.sIx
    first
      | (simp only [h, if_true]; omega)
      | (split <;> omega)
      | (simp; omega)
  unfold cutT
  rw [e1, e2]
  by_cases c : n.toNat ≤ Ts.length
  · rw [Nat.min_eq_left c, List.take_of_length_le (by rw [List.length_drop]; exact Nat.le_refl _)]
  · rw [Nat.min_eq_right (by omega), List.drop_length, List.drop_of_length_le (by omega), List.take_nil]
/-! statements -/
variable {H0 : Bs} {D : Ends} {st : Stmt} {rest body orelse : List Stmt}
theorem b_ifP {p : Bool → Prop} (hc : GP X Γ c p) (h1 : p true → Bd X Γ body H0 { D with nx := tB X rest D }) (h2 : p false → Bd X Γ orelse H0 { D with nx := tB X rest D }) : Bd X Γ (.If c body orelse pos :: rest) H0 D :=
  b_cons fun σ H e0 t => toS (ps_if (pt c) (pb body) (pb orelse)) (hc σ H t _ fun k H1 e1 hk => by
    cases k with
    | true => exact iteT (h1 hk _ _ (e0.trans e1) (t.up e1))
    | false => exact iteF (h2 hk _ _ (e0.trans e1) (t.up e1)))
/-- no else, nothing done: what follows -/
theorem b_skip (h : Bd X Γ rest H0 D) {D' : Ends} (hD : D'.nx = tB X rest D := by rfl) : Bd X Γ [] H0 D' := b_nil fun σ H e t => by rw [hD]; exact h σ H e t
/-- what a slot holds is taken apart -/
theorem b_openS {α : Sort u} {F : α → Ty} (i : Nat) (hT : Γ[i]? = some (some (exT F))) (h : ∀ z, Bd X (Γ.set i (some (F z))) rest H0 D) : Bd X Γ rest H0 D := fun σ H e t => by
  obtain ⟨v, hv, z, tz⟩ := t.get i hT
  refine h z σ H e ?_
  have hi := (List.getElem?_eq_some_iff.mp hT).1
  exact Typed.put (t.drop i) hi hv tz
/-- for x in .., what is walked of a family -/
def GIX {β : Type} (X : Cx) (Γ : Ctx) (tg iter : Expr) (Ts : β → List Ty) : Prop := ∀ σ H, Typed σ Γ H → ∀ Q : It → Hp → Prop, (∀ z J H1, Ex H H1 → Turns J H1 (Ts z) → Q J H1) → tI X tg iter σ H Q
theorem gix_list {β : Type} {Ts : β → List Ty} [hS : ∀ z, Stbs (Ts z)] {tg it : Expr} (h : G X Γ it (exT fun z => lstT (Ts z))) : GIX X Γ tg it Ts := fun σ H t Q q => toI (pi_list (pe it)) (h σ H t _ fun v H1 e1 ⟨z, a, vs, ev, hl, h2⟩ => by
  subst ev
  have up : ∀ {H'}, Le H1 H' → SqL X.K H' a vs := fun e => (hl.le e).sq
  refine ⟨a, rfl, ⟨vs, hl.sq⟩, q z _ H1 e1 fun i H' e => ⟨fun hi => ?_, fun hi => ⟨vs, up e, by rw [hi, h2.len]; exact Nat.le_refl _⟩⟩⟩
  obtain ⟨v, hv, tv⟩ := ((hS z).le e h2).get (List.getElem?_eq_getElem hi)
  refine ⟨⟨vs, v, up e, hv⟩, fun x H2 hy => ?_⟩
  obtain ⟨eH, hx⟩ := hy
  subst eH
  have hx' := hx vs (up e)
  rw [hv] at hx'; cases hx'
  exact ⟨Ex.refl _, _, List.getElem?_eq_getElem hi, tv⟩)
theorem b_forX {β : Type} {Ts : β → List Ty} {it tg : Expr} {g : TG} (Ok : β → Nat → Ctx → Prop) (hi : GIX X Γ tg it Ts) (hg : PG X tg g) (h0 : ∀ z, Ok z 0 Γ)
    (hs : ∀ z (H1 : Hp) (i : Nat) (T : Ty) (Δ : Ctx), H0.ok H1 → (Ts z)[i]? = some T → Ok z i Δ → ∃ Δ2, Tgt g T Δ Δ2 ∧ Bd X Δ2 body (H0.at H1) (turnD D X rest (H0.at H1) (Ok z (i + 1))))
    (hd : ∀ z Δ, Ok z (Ts z).length Δ → Bd X Δ rest H0 D) (hc : X.calm = true := by rfl) (hp : PassesOwn (model X.prog X.w) X.A X.env X.xe := by exact PassesOwn.never) (hf : ∀ x, foldedSetIterable it X.env x = pure x := by intro _; rfl) : Bd X Γ (.For tg it body [] pos :: rest) H0 D :=
  b_cons fun σ H e0 t => toS (ps_for hp hc pi hg (pb body) hf) (hi σ H t _ fun z J H1 e1 tn => by
    have b1 : H0.ok H1 := Bs.up e0 e1
    refine ⟨fun i m σ H => i ≤ (Ts z).length ∧ m = (Ts z).length - i ∧ ∃ Δ, Ok z i Δ ∧ (H0.at H1).ok H ∧ Typed σ Δ H, ⟨_, Nat.zero_le _, rfl, Γ, h0 z, Bs.here b1, t.up e1⟩, ?_⟩
    rintro i m σ H ⟨hi, rfl, Δ, ok, e2, t2⟩
    obtain ⟨t3, t4⟩ := tn i H e2.2
    by_cases c : i < (Ts z).length
    · obtain ⟨go, yl⟩ := t3 c
      refine .inr ⟨go, fun σ H => ∃ Δ, Ok z (i + 1) Δ ∧ (H0.at H1).ok H ∧ Typed σ Δ H, fun σ' H' h => ⟨(Ts z).length - (i + 1), by omega, by omega, rfl, h⟩, fun x H' hy => ?_⟩
      obtain ⟨e3, T, hT, hx⟩ := yl x H' hy
      obtain ⟨Δ2, tg, bd⟩ := hs z H1 i T Δ b1 hT ok
      exact tg x σ H' _ hx (t2.up e3) fun σ2 t3 => bd σ2 H' (Bs.up e2 e3) t3
    · have hi' : i = (Ts z).length := by omega
      refine .inl ⟨t4 hi', ?_⟩
      rw [hi'] at ok
      exact hd z Δ ok σ H (Bs.back b1 e2) t2)
/-- a, b, c = a list of three -/
theorem tgtl3 {K : PySem.W.Frag} {i j l : Nat} {Δ : Ctx} {T1 T2 T3 : Ty} : Tgt (gLst K 3 (gCons (gName i) (gCons (gName j) (gCons (gName l) gNil)))) (lstT [T1, T2, T3]) Δ (((Δ.set i (some T1)).set j (some T2)).set l (some T3)) := fun v σ H Q h t q => by
  obtain ⟨a, vs, ev, ht, h2⟩ := h
  match vs, h2 with
  | [v1, v2, v3], ⟨h1, h2, h3, _⟩ => exact ⟨a, _, ev, ht.sq, rfl, _, _, rfl, _, _, rfl, _, _, rfl, rfl, q _ (((t.set i h1).set j h2).set l h3)⟩
theorem b_asgT {tg : Expr} {g : TG} {Δ : Ctx} (hg : PG X tg g) (he : G X Γ e T) (ht : Tgt g T Γ Δ) (h : Bd X Δ rest H0 D) (hs : swapsWithSole [tg] e pos.line X.env = pure false := by rfl) (hw : swappedStores [tg] e X.env = pure none := by rfl)
    (h1 : (assignEach [tg] X.env).map (·.2) = [assign tg X.env] := by rfl) : Bd X Γ (.Assign [tg] e pos :: rest) H0 D :=
  b_cons fun σ H e0 t => toS (ps_asg (pe e) hg hs hw h1) (he σ H t _ fun v1 H1 e1 hv => ht v1 σ H1 _ hv (t.up e1) fun σ2 t2 => h σ2 H1 (e0.trans e1) t2)
end
end RL
namespace RL
open PySem PySem.Spec PyProof.Rows L2
section
variable {X : Cx} {Γ : Ctx} {e o a b c d : Expr} {es : List Expr} {T U : Ty} {Ts Us : List Ty} {pos pos2 p : Pos} {x : Str} {α : Type} {A : α → List Ty} {R : α → Ty} {k : Nat} {ps : List Str}
/-- a call whose arguments are some of the promise's -/
theorem g_callE {T' : Ty} (C : α → Prop) (F : FnG X.prog X.w X.K X.mg X.base k x ps (spG A R)) (hr : Room k X.A) (ha : GA X Γ (e :: es) Ts) (hT : ∀ vs H, All2 Ts vs H → ∃ i, All2 (A i) vs H ∧ C i) (hR : ∀ i, C i → ∀ v H, R i v H → T' v H)
    (hg : Gl X x := by rfl) (hdb : (x == ("__debug__" : Str)) = false := by decide) (he : starEach (e :: es) X.env = (false, eval e X.env) :: starEach es X.env := by first | exact se_cons rfl | exact se_one rfl | exact se_two rfl rfl | rfl) (hpl : (backTo pos (starEach es X.env)).any (·.1) = false := by first | exact se_any rfl | rfl) :
    G X Γ (.Call (.Name x p) (e :: es) [] pos) T' := fun σ H t Q q => by
  obtain ⟨f, fd, F, hm, hk, hb⟩ := F.ex
  refine toE (pe_call F hr hg hm hk hb .nil pass0 (pa _) hdb he hpl) (ha σ H t _ fun vs H1 e1 h1 => ?_)
  rw [List.append_nil]
  obtain ⟨i, hi, ci⟩ := hT _ _ h1
  exact ⟨i, hi, fun v H2 e2 h2 => q v H2 (e1.trans e2) (hR i ci v H2 h2)⟩
/-- list(l), a new list frozen at once -/
theorem g_listL {β : Type} {Ts : β → List Ty} (h : G X Γ e (exT fun z => lstT (Ts z))) (hm : X.mg "list" = none) (hg : Gl X "list" := by rfl) (he : starEach [e] X.env = (false, eval e X.env) :: starEach [] X.env := by first | exact se_cons rfl | exact se_one rfl | exact se_two rfl rfl | rfl) : G X Γ (.Call (.Name "list" p) [e] [] pos) (exT fun z => lstT (Ts z)) := fun σ H t Q q =>
  tE_frz (toE (pe_callTy call_list_of hg hm (by decide +kernel) (pa_cons (pe e) pa_nil he) (he := he)) (h σ H t _ fun v H1 e1 ⟨z, l, vs, ev, hf, h2⟩ => ⟨l, vs, by rw [ev], .inl hf.sq, fun d hd => ⟨d, _, upd_same, trivial, fun od => by
    rw [upd_upd]
    exact q _ _ (e1.trans (Ex.new hd)) ⟨z, d, vs, rfl, ⟨od, upd_same⟩, h2.up (Ex.new hd)⟩⟩⟩))
theorem one_in {ns : List Int} {p : Int → Prop} (h : ∀ n ∈ ns, p n) {v : V} {H : Hp} (hv : oneT (ns.map fun z => intT z) v H) : inT p v H := by
  obtain ⟨⟨i, hi⟩, hv⟩ := hv
  have hi' : i < ns.length := by simpa using hi
  refine ⟨⟨ns[i], h _ (List.getElem_mem hi')⟩, ?_⟩
  simpa using hv
theorem G.one {F : Unit → Ty} (h : G X Γ e (exT F)) : G X Γ e (F ()) := h.imp fun v H ⟨_, k⟩ => k
theorem G.un (h : G X Γ e T) : G X Γ e (exT fun _ : Unit => T) := h.imp fun v H k => ⟨(), k⟩
/-- sorted(l), l a frozen list of ints -/
theorem g_sortedL {ks : List Int} (h : G X Γ e (lstT (ks.map fun z => intT z))) (hm : X.mg "sorted" = none) (ys : List Int) (hy : ∀ zs : List Int, zs.Perm ks → zs.Pairwise (· ≤ ·) → zs = ys) (hg : Gl X "sorted" := by rfl) (he : starEach [e] X.env = (false, eval e X.env) :: starEach [] X.env := by first | exact se_cons rfl | exact se_one rfl | exact se_two rfl rfl | rfl) :
    G X Γ (.Call (.Name "sorted" p) [e] [] pos) (lstT (ys.map fun z => intT z)) :=
  g_callBL cr_sortedI hm (by decide +kernel) (ga_cons h ga_nil he) (fun vs H h2 Q q => by
    obtain ⟨v, ev, a, ws, e2, f, h3⟩ := one2 h2
    subst ev; subst e2
    have z : ws = ks.map V.int := All2.vals (H := H) (by rw [List.map_map]; exact h3)
    subst z
    refine ⟨a, ks, rfl, f.sq, fun zs p hp hs hn => ?_⟩
    rw [hy zs hp hs]
    exact q _ p hn (by have z := All2.of_vals (H := H) (ws := ys.map V.int); rwa [List.map_map] at z)) hg (he := he)
end
end RL
namespace RL
open PySem PySem.Spec PyProof.Rows L2
section
variable {X : Cx} {Γ : Ctx} {e o k c : Expr} {T U : Ty} {Ts : List Ty} {pos p p2 p3 p4 : Pos} {x : Str} {kvs : List (Key × V)} {H0 : Bs} {D : Ends} {rest : List Stmt} {i : Nat} {a : Addr}
/-- x[k] = e, e of a family -/
theorem b_dputX {β : Sort u} {F : β → V} (i : Nat) {kk : Key} (hT : Γ[i]? = some (some (mdT a kvs))) (hk : G X Γ k (valT (kV kk))) (he : G X Γ e (exT fun z => valT (F z))) (ha : H0.e a = none) (hl : kvs.length < sizeLine) (hS : StbC a (Γ.set i none)) (hu : X.A.units + 1 < cLine)
    (h : ∀ z, Bd X (Γ.set i (some (mdT a (putK kvs kk (F z))))) rest H0 D) {p' : Pos} (hN : X.N[i]? = some x := by rfl) (hv : Vis X.env.scope x := by first | exact Or.inl rfl | exact Or.inr (Or.inl rfl) | exact Or.inr (Or.inr rfl)) (hd : (x == ("__debug__" : Str)) = false := by decide) (hcd : (x == ("__classdict__" : Str)) = false := by decide)
    (hs : swapsWith e (some (.Subscript (.Name x p2) k p')) pos.line X.env = pure false := by rfl) : Bd X Γ (.Assign [.Subscript (.Name x p2) k p'] e pos :: rest) H0 D :=
  b_cons fun σ H e0 t => toS (ps_dput hu (pe_var (i := i) hN hv hd hcd) (pe k) (pe e) hs) (he σ H t _ fun v1 H1 e1 ⟨z, h1⟩ => by
    obtain ⟨w, hw, ew, hH⟩ := (t.up e1).get i hT
    refine ⟨w, hw, hk σ H1 (t.up e1) _ fun y H2 e2 h2 => ?_⟩
    have h1' : v1 = F z := h1
    have h2' : y = kV kk := h2
    subst h1'; subst h2'
    have hH2 := e2 _ _ hH
    refine ⟨a, _, ew, DPut.k hH2 hl, h z _ _ ((e0.trans (e1.trans e2)).mut ha hH2 trivial) (Typed.put (((t.up (e1.trans e2)).drop i).mut hS hH2 trivial) ?_ hw ⟨ew, upd_same⟩)⟩
    exact (List.getElem?_eq_some_iff.mp hT).1)
end
end RL

set_option Elab.async false
set_option linter.all false
set_option maxRecDepth 100000
set_option maxHeartbeats 4000000
/-! RLtxt: texts, tuples, lists of data -/
namespace RL
open PySem PySem.Spec PyProof.Rows L2
section
variable {X : Cx} {Γ : Ctx} {e o a b c d : Expr} {es : List Expr} {T U : Ty} {Ts Us : List Ty} {pos p p2 pos2 apos : Pos} {x : Str}
/-! texts -/
theorem g_addS {y z : Str} (ha : G X Γ a (strT y)) (hb : G X Γ b (strT z)) (hz : y.length + z.length ≤ sizeLine) : G X Γ (.BinOp a .Add b pos) (strT (y ++ z)) := g_op op_add_str ha hb (fun v w H hv hw Q q => ⟨y, z, hv, hw, hz, q _ H (Ex.refl H) rfl⟩)
theorem g_strI {i : Int} (h : G X Γ e (intT i)) (hi : i.natAbs.log2 < 1920) (hm : X.mg "str" = none) (hg : Gl X "str" := by rfl) (he : starEach [e] X.env = (false, eval e X.env) :: starEach [] X.env := by exact se_cons rfl) : G X Γ (.Call (.Name "str" p) [e] [] pos) (strT (toString i)) :=
  g_callTy call_str_int hm (by decide +kernel) (ga_cons h ga_nil he) (fun vs H h2 Q q => ⟨i, vals1' h2, hi, q _ H (Ex.refl H) rfl⟩) hg (he := he)
theorem g_absI {i : Int} (h : G X Γ e (intT i)) (hm : X.mg "abs" = none) (hg : Gl X "abs" := by rfl) (he : starEach [e] X.env = (false, eval e X.env) :: starEach [] X.env := by exact se_cons rfl) : G X Γ (.Call (.Name "abs" p) [e] [] pos) (intT (if i < 0 then -i else i)) :=
  g_callB call_abs hm (by decide +kernel) (ga_cons h ga_nil he) (fun vs H h2 Q q => ⟨i, vals1' h2, q _ H (Ex.refl H) rfl⟩) hg (he := he)
theorem g_fmtS {y : Str} (h : G X Γ e (strT y)) (hz : y.length ≤ sizeLine) : G X Γ (.FormattedValue e (-1) none pos) (strT y) := fun σ H t Q q => toE (pe_fmt (pe e)) (h σ H t _ fun v H1 e1 h1 => .inl ⟨y, h1, hz, q _ H1 e1 rfl⟩)
theorem g_fmtI {i : Int} (h : G X Γ e (intT i)) (hi : i.natAbs.log2 < 1920) : G X Γ (.FormattedValue e (-1) none pos) (strT (toString i)) := fun σ H t Q q => toE (pe_fmt (pe e)) (h σ H t _ fun v H1 e1 h1 => .inr ⟨i, h1, hi, q _ H1 e1 rfl⟩)
/-- the parts of an f-text -/
def GJ (X : Cx) (Γ : Ctx) (es : List Expr) (xs : List Str) : Prop := ∃ ts, PJ X es ts ∧ ∀ σ H, Typed σ Γ H → ∀ (acc : Str) (Q : Str → Hp → Prop), acc.length + (xs.map Str.length).sum ≤ sizeLine → (∀ H', Ex H H' → Q (xs.foldl (· ++ ·) acc) H') → tJs ts acc σ H Q
theorem gj_nil : GJ X Γ [] [] := ⟨[], .nil, fun σ H t acc Q hz q => q H (Ex.refl H)⟩
theorem str_len_append (y z : Str) : (y ++ z).length = y.length + z.length := by
  show (y.cps ++ z.cps).size = y.cps.size + z.cps.size
  exact Array.size_append
theorem gj_cons {y : Str} {xs : List Str} (h : G X Γ e (strT y)) (r : GJ X Γ es xs) : GJ X Γ (e :: es) (y :: xs) := by
  obtain ⟨ts, h1, h2⟩ := r
  refine ⟨tE X e :: ts, .cons (pe e) h1, fun σ H t acc Q hz q => ?_⟩
  rw [List.map_cons, List.sum_cons] at hz
  refine h σ H t _ fun v H1 e1 hv => ⟨y, hv, by rw [str_len_append]; omega, h2 σ H1 (t.up e1) (acc ++ y) Q (by rw [str_len_append]; omega) fun H2 e2 => q H2 (e1.trans e2)⟩
theorem g_joined {e2 : Expr} {xs : List Str} {r : Str} (h : GJ X Γ (e :: e2 :: es) xs) (hz : (xs.map Str.length).sum ≤ sizeLine) (hR : xs.foldl (· ++ ·) Str.empty = r := by rfl) : G X Γ (.JoinedStr (e :: e2 :: es) pos) (strT r) := fun σ H t Q q => by
  obtain ⟨ts, h1, h2⟩ := h
  refine toE (pe_joined h1) (h2 σ H t Str.empty _ (by show 0 + _ ≤ _; omega) fun H' e' => q _ H' e' ?_)
  rw [hR]
  rfl
/-- sep.join(l), l a frozen list of texts, a tuple of texts -/
theorem g_join {sep : Str} {ys : List Str} (ho : G X Γ o (strT sep)) (ha : G X Γ e (lstT (ys.map fun z => strT z))) (hz : (ys.map (·.length)).sum + ys.length * sep.length ≤ 16777216)
    (hbase : attributeBase o "join" X.env (eval o X.env) = eval o X.env := by rfl)
    (hfew : ((backTo pos (starEach [e] X.env)).all (fun x => !x.1) && (backToKw pos (keywordEach [] X.env)).all (fun x => x.1.isSome)
      && decide ([e].length + ([] : List Keyword).length + (if ([] : List Keyword).isEmpty then 0 else 1) < 30)) = true := by first | rfl | (rw [se_one rfl]; rfl))
    (hline : (apos.endLine == pos.line) = true := by rfl) (hs : starEach [e] X.env = (false, eval e X.env) :: starEach [] X.env := by exact se_cons rfl) :
    G X Γ (.Call (.Attribute o "join" apos) [e] [] pos) (strT (Txt.join sep ys)) := fun σ H t Q q =>
  toE (pe_bm PySem.F.plainAttrs_str PySem.F.slot_str_join PySem.F.type_str_join mt_join (pe o) (pa [e]) hbase hfew hline hs (se_any rfl)) (ho σ H t _ fun v H1 e1 h1 => by
    have h1' : v = .str sep := h1
    subst h1'
    refine ⟨rfl, ga_cons ha ga_nil hs σ H1 (t.up e1) _ fun vs H2 e2 h2 => ?_⟩
    obtain ⟨u, rfl, l, ws, rfl, hl, h3⟩ := one2 h2
    have z : ws = ys.map V.str := All2.vals (H := H2) (by rw [List.map_map]; exact h3)
    subst z
    exact ⟨sep, l, ys, rfl, rfl, .inl hl.sq, hz, q _ H2 (e1.trans e2) rfl⟩)
theorem g_joinT {sep : Str} {ys : List Str} (ho : G X Γ o (strT sep)) (ha : G X Γ e (tupT X.K (ys.map fun z => strT z))) (hz : (ys.map (·.length)).sum + ys.length * sep.length ≤ 16777216)
    (hbase : attributeBase o "join" X.env (eval o X.env) = eval o X.env := by rfl)
    (hfew : ((backTo pos (starEach [e] X.env)).all (fun x => !x.1) && (backToKw pos (keywordEach [] X.env)).all (fun x => x.1.isSome)
      && decide ([e].length + ([] : List Keyword).length + (if ([] : List Keyword).isEmpty then 0 else 1) < 30)) = true := by first | rfl | (rw [se_one rfl]; rfl))
    (hline : (apos.endLine == pos.line) = true := by rfl) (hs : starEach [e] X.env = (false, eval e X.env) :: starEach [] X.env := by exact se_cons rfl) :
    G X Γ (.Call (.Attribute o "join" apos) [e] [] pos) (strT (Txt.join sep ys)) := fun σ H t Q q =>
  toE (pe_bm PySem.F.plainAttrs_str PySem.F.slot_str_join PySem.F.type_str_join mt_join (pe o) (pa [e]) hbase hfew hline hs (se_any rfl)) (ho σ H t _ fun v H1 e1 h1 => by
    have h1' : v = .str sep := h1
    subst h1'
    refine ⟨rfl, ga_cons ha ga_nil hs σ H1 (t.up e1) _ fun vs H2 e2 h2 => ?_⟩
    obtain ⟨u, rfl, l, ws, rfl, hl, h3⟩ := one2 h2
    have z : ws = ys.map V.str := All2.vals (H := H2) (by rw [List.map_map]; exact h3)
    subst z
    exact ⟨sep, l, ys, rfl, rfl, .inr hl.sq, hz, q _ H2 (e1.trans e2) rfl⟩)
/-! tuples -/
/-- t[lo:hi] -/
theorem g_cutT {te : Option Expr} {to : Option Expr} {lo hi : Option Int} {tl th : TO} (ho : G X Γ o (tupT X.K Ts)) (hl : PO X te tl) (hh : PO X to th) (h1 : ∀ σ H, Typed σ Γ H → ∀ Q : Option Int → Hp → Prop, (∀ H', Ex H H' → Q lo H') → tl σ H Q) (h2 : ∀ σ H, Typed σ Γ H → ∀ Q : Option Int → Hp → Prop, (∀ H', Ex H H' → Q hi H') → th σ H Q) {T' : Ty} (hR : tupT X.K (cutT Ts lo hi) = T' := by rfl) :
    G X Γ (.Subscript o (.Slice te to none pos2) pos) T' := hR ▸ fun σ H t Q q =>
  toE (pe_slice sl_tupA (pe o) hl hh) (ho σ H t _ fun v H1 e1 k1 => h1 σ H1 (t.up e1) _ fun H2 e2 => h2 σ H2 (t.up (e1.trans e2)) _ fun H3 e3 => by
    obtain ⟨l, vs, ev, hp, ha⟩ := (tupT X.K Ts).up (e2.trans e3) k1
    subst ev
    refine ⟨l, vs, rfl, hp.sq, fun hw => ?_, fun hw d hd => ?_⟩
    · refine q _ H3 (e1.trans (e2.trans e3)) ⟨l, vs, rfl, hp, ?_⟩
      have h := ha.cut (lo := lo) (hi := hi)
      have hz : cutV vs lo hi = vs := by
        unfold cutV
        rw [hw.1, hw.2, List.drop_zero, Nat.sub_zero, List.take_length]
      rwa [hz] at h
    · exact q _ _ ((e1.trans (e2.trans e3)).trans (Ex.new hd)) ⟨d, _, rfl, .inl upd_same, ha.cut.up (Ex.new hd)⟩)
theorem g_cutFromT {n : Int} (ho : G X Γ o (tupT X.K Ts)) (hk : G X Γ e (intT n)) (hn : 0 ≤ n) {T' : Ty} (hR : tupT X.K (Ts.drop n.toNat) = T' := by rfl) : G X Γ (.Subscript o (.Slice (some e) none none pos2) pos) T' :=
  g_cutT (lo := some n) (hi := none) ho (po_some (pe e)) po_none (fun σ H t Q q => hk σ H t _ fun v H1 e1 h1 => ⟨n, h1, q H1 e1⟩) (fun σ H t Q q => q H (Ex.refl H)) (by rw [cutT_from hn]; exact hR)
theorem g_cutToT {n : Int} (ho : G X Γ o (tupT X.K Ts)) (hk : G X Γ e (intT n)) (hn : 0 ≤ n) {T' : Ty} (hR : tupT X.K (Ts.take n.toNat) = T' := by rfl) : G X Γ (.Subscript o (.Slice none (some e) none pos2) pos) T' :=
  g_cutT (lo := none) (hi := some n) ho po_none (po_some (pe e)) (fun σ H t Q q => q H (Ex.refl H)) (fun σ H t Q q => hk σ H t _ fun v H1 e1 h1 => ⟨n, h1, q H1 e1⟩) (by rw [cutT_to hn]; exact hR)
theorem g_addT (ha : G X Γ a (tupT X.K Ts)) (hb : G X Γ b (tupT X.K Us)) (hz : Ts.length + Us.length ≤ sizeLine) : G X Γ (.BinOp a .Add b pos) (tupT X.K (Ts ++ Us)) := g_op op_catA ha hb (fun v w H hv hw Q q => by
  obtain ⟨l, vs, rfl, hl, h1⟩ := hv
  obtain ⟨m, ws, rfl, hm, h2⟩ := hw
  refine ⟨l, m, vs, ws, rfl, rfl, hl.sq, hm.sq, by rw [← h1.len, ← h2.len]; exact hz, fun e => ?_, fun e1 e2 => ?_, fun e1 e2 d hd => ?_⟩
  · refine q _ H (Ex.refl H) ⟨m, ws, rfl, hm, ?_⟩
    subst e
    have := h1.len
    have e : Ts = [] := List.length_eq_zero_iff.mp this
    rw [e]
    exact h2
  · refine q _ H (Ex.refl H) ⟨l, vs, rfl, hl, ?_⟩
    subst e2
    have e : Us = [] := List.length_eq_zero_iff.mp h2.len
    rw [e, List.append_nil]
    exact h1
  · exact q _ _ (Ex.new hd) ⟨d, _, rfl, .inl upd_same, (h1.append h2).up (Ex.new hd)⟩)
/-- tuple(l) -/
theorem g_tupleL {α : Sort u} {Ts : α → List Ty} (h : G X Γ e (exT fun z => lstT (Ts z))) (hm : X.mg "tuple" = none) (hg : Gl X "tuple" := by rfl) (he : starEach [e] X.env = (false, eval e X.env) :: starEach [] X.env := by exact se_cons rfl) : G X Γ (.Call (.Name "tuple" p) [e] [] pos) (exT fun z => tupT X.K (Ts z)) :=
  g_callTy call_tuple_of hm (by decide +kernel) (ga_cons h ga_nil he) (fun vs H h2 Q q => by
    obtain ⟨v, rfl, z, l, ws, rfl, hl, h3⟩ := one2 h2
    exact ⟨l, ws, rfl, .inl ⟨hl.sq, fun d hd => q _ _ (Ex.new hd) ⟨z, d, ws, rfl, .inl upd_same, h3.up (Ex.new hd)⟩⟩⟩) hg (he := he)
/-- list(t), t a tuple -/
theorem g_listT (h : G X Γ e (tupT X.K Ts)) (hm : X.mg "list" = none) (hg : Gl X "list" := by rfl) (he : starEach [e] X.env = (false, eval e X.env) :: starEach [] X.env := by exact se_cons rfl) : G X Γ (.Call (.Name "list" p) [e] [] pos) (lstT Ts) := fun σ H t Q q =>
  tE_frz (toE (pe_callTy call_list_of hg hm (by decide +kernel) (pa_cons (pe e) pa_nil he) (he := he)) (h σ H t _ fun v H1 e1 ⟨l, vs, ev, hf, h2⟩ => ⟨l, vs, by rw [ev], .inr hf.sq, fun d hd => ⟨d, _, upd_same, trivial, fun od => by
    rw [upd_upd]
    exact q _ _ (e1.trans (Ex.new hd)) ⟨d, vs, rfl, ⟨od, upd_same⟩, h2.up (Ex.new hd)⟩⟩⟩))
/-! in, not in -/
/-- x in (.., ..), texts -/
theorem g_inS {y : Str} {zs : List Str} (ha : G X Γ a (strT y)) (hb : G X Γ b (tupT X.K (zs.map fun z => strT z))) (hm : behindInMarks .In b = false := by rfl) : GT X Γ (.Compare a [.In] [b] pos) (zs.any fun z => z == y) :=
  gt_cmp op_in_seq ha hb (fun v w H hv hw Q q => by
    obtain ⟨l, ws, rfl, hl, h3⟩ := hw
    have z : ws = zs.map V.str := All2.vals (H := H) (by rw [List.map_map]; exact h3)
    subst z
    have hv' : v = .str y := hv
    subst hv'
    refine ⟨l, _, rfl, .inr hl.sq, rfl, by rw [List.all_map]; exact List.all_eq_true.mpr fun _ _ => rfl, q _ H (Ex.refl H) ?_⟩
    show V.bl (L2.inV _ _) = V.bl _
    unfold L2.inV
    rw [List.any_map]
    rfl) hm
theorem g_inSL {y : Str} {zs : List Str} (ha : G X Γ a (strT y)) (hb : G X Γ b (lstT (zs.map fun z => strT z))) (hm : behindInMarks .In b = false := by rfl) : GT X Γ (.Compare a [.In] [b] pos) (zs.any fun z => z == y) :=
  gt_cmp op_in_seq ha hb (fun v w H hv hw Q q => by
    obtain ⟨l, ws, rfl, hl, h3⟩ := hw
    have z : ws = zs.map V.str := All2.vals (H := H) (by rw [List.map_map]; exact h3)
    subst z
    have hv' : v = .str y := hv
    subst hv'
    refine ⟨l, _, rfl, .inl hl.sq, rfl, by rw [List.all_map]; exact List.all_eq_true.mpr fun _ _ => rfl, q _ H (Ex.refl H) ?_⟩
    show V.bl (L2.inV _ _) = V.bl _
    unfold L2.inV
    rw [List.any_map]
    rfl) hm
theorem gt_eqS {y z : Str} (ha : G X Γ a (strT y)) (hb : G X Γ b (strT z)) : GT X Γ (.Compare a [.Eq] [b] pos) (decide (y = z)) := (gt_cmp op_eq ha hb (r_Eq rfl) (nomark _)).is (by simp)
theorem gt_neS {y z : Str} (ha : G X Γ a (strT y)) (hb : G X Γ b (strT z)) : GT X Γ (.Compare a [.NotEq] [b] pos) (decide (y ≠ z)) :=
  gt_cmp op_ne ha hb (k := decide (y ≠ z)) (fun v w H hv hw Q q => by
    have hv' : v = .str y := hv
    have hw' : w = .str z := hw
    subst hv'; subst hw'
    refine ⟨rfl, q _ H (Ex.refl H) ?_⟩
    show V.bl _ = V.bl _
    by_cases h : y = z <;> simp [h]) (nomark _)
/-! == of data -/
theorem gt_eqD {d d' : PyData} (hu : X.A.units + 64 < cLine) (ha : G X Γ a T) (hb : G X Γ b U) (h1 : IsDp X.K T d) (h2 : IsDp X.K U d') (s1 : SeqAt.shaped d = true) (s2 : SeqAt.shaped d' = true) : GT X Γ (.Compare a [.Eq] [b] pos) (PyData.eqv d d') :=
  gt_cmp (op_eqD hu) ha hb (fun v w H hv hw Q q => ⟨d, d', h1 v H hv, h2 w H hw, s1, s2, q _ H (Ex.refl H) rfl⟩) (nomark _)
theorem gt_neD {d d' : PyData} (hu : X.A.units + 64 < cLine) (ha : G X Γ a T) (hb : G X Γ b U) (h1 : IsDp X.K T d) (h2 : IsDp X.K U d') (s1 : SeqAt.shaped d = true) (s2 : SeqAt.shaped d' = true) : GT X Γ (.Compare a [.NotEq] [b] pos) (!PyData.eqv d d') :=
  gt_cmp (op_neD hu) ha hb (fun v w H hv hw Q q => ⟨d, d', h1 v H hv, h2 w H hw, s1, s2, q _ H (Ex.refl H) rfl⟩) (nomark _)
end
end RL

set_option Elab.async false
set_option linter.all false
set_option maxRecDepth 100000
set_option maxHeartbeats 2000000
/-! RLpar: a, b = e, f with plain local names; calls with keywords; zip -/
namespace RL
open PySem PySem.Spec PyProof.Rows L2
section
variable {X : Cx} {Γ : Ctx} {e o a b c d : Expr} {es : List Expr} {T U : Ty} {Ts Us : List Ty} {pos pos2 : Pos} {x y : Str} {H0 : Bs} {D : Ends} {rest : List Stmt}
def tPar2 (i j : Nat) (ta : TA) : TS := fun D σ H => ta σ H fun vs H1 => ∃ u v, vs = [u, v] ∧ D.nx ((σ.set i (some u)).set j (some v)) H1
theorem ps_par2 {i j : Nat} {ta : TA} {px py pt : Pos} {kt k2 pt2} (hc : X.calm = true) (hN : X.N.Nodup) (hi : X.N[i]? = some x) (hj : X.N[j]? = some y) (hij : i ≠ j)
    (hx : X.env.scope.names.lookup x = some .local) (hy : X.env.scope.names.lookup y = some .local) (ha : PA X [a, b] ta)
    (hw : swappedStores [.Tuple [.Name x px, .Name y py] kt pt] (.Tuple [a, b] k2 pt2) X.env = pure (some [x, y]))
    (hs : swapsWithSole [.Tuple [.Name x px, .Name y py] kt pt] (.Tuple [a, b] k2 pt2) pos.line X.env = pure false) :
    PS X (.Assign [.Tuple [.Name x px, .Name y py] kt pt] (.Tuple [a, b] k2 pt2) pos) (tPar2 i j ta) := by
  refine ⟨fun pins s0 σ H D I0 hyp => ?_⟩
  rw [exec_Assign_arm]
  refine wpAny_bind (wpAny_standAt ?_)
  rw [hs]
  refine wpAny_bind (wpAny_pure ?_)
  rw [if_neg (by decide)]
  refine wpAny_bind (Tuple_ (thn (ha.run _ pins s0 σ H _ I0 hyp) fun us s1 ⟨vs, H1, I1, rr, v1, v2, ee, hq⟩ => ?_))
  subst ee
  obtain ⟨u1, u2, rfl, ra, rb⟩ : ∃ u1 u2, us = [u1, u2] ∧ RelV v1 u1 ∧ RelV v2 u2 := by
    cases rr with
    | cons ra rq =>
      cases rq with
      | cons rb rz =>
        cases rz
        exact ⟨_, _, rfl, ra, rb⟩
  refine wpAny_newObj_type ?_ (by show 2 ≤ sizeLine; decide)
  have J : Inv X pins σ H1 { s1 with heap := s1.heap.push { cls := .type "tuple", data := .seq [u1, u2].toArray } } := I1.kept (t' := s1.toks) fun b ob he => Heap.get?_push_of_some _ he
  rw [hw]
  refine wpAny_bind (wpAny_pure ?_)
  show wpAny (model X.prog X.w) X.A (do rule "assign.swapped-stores"; let items ← unpackItems (.ref s1.heap.objs.size) 2 none; assignInOrder [fun v => bindName X.env y v, fun v => bindName X.env x v] items.reverse; pure Flow.next) _ _ _
  refine wpAny_bind (wpAny_rule (wpAny_bind (unpackItems_tuple (items := #[u1, u2]) (I0.ok.hd hc) (IsTup.new s1.heap _) fun h' hh => ?_)))
  have J2 := J.kept (h' := h') (t' := s1.toks) fun b ob he => hh b ob (Nat.ne_of_lt (Heap.lt_size he)) he
  show wpAny _ _ (assignInOrder [fun v => bindName X.env y v, fun v => bindName X.env x v] [u2, u1] >>= fun _ => pure Flow.next) _ _ _
  refine wpAny_bind (assignInOrder_cons (wpAny_bindName (store_ok J2 hN hj (.inl hy) rb (fun s2 J3 => ?_) (.inr hy))))
  refine assignInOrder_cons (wpAny_bindName (store_ok J3 hN hi (.inl hx) ra (fun s3 J4 => assignInOrder_nil (wpAny_pure ?_)) (.inr hx)))
  rw [List.set_comm _ _ (Ne.symm hij)] at J4
  exact ⟨_, H1, J4, hq⟩
/-- x, y = e, f -/
theorem b_par2 {px py pt : Pos} {kt k2 pt2} (i j : Nat) (ha : G X Γ a T) (hb : G X Γ b U) (h : Bd X ((Γ.set i (some T)).set j (some U)) rest H0 D) (hij : i ≠ j := by decide) (hi : X.N[i]? = some x := by rfl) (hj : X.N[j]? = some y := by rfl) (hN : X.N.Nodup := by first | assumption | decide)
    (hx : X.env.scope.names.lookup x = some .local := by rfl) (hy : X.env.scope.names.lookup y = some .local := by rfl) (hc : X.calm = true := by rfl)
    (hw : swappedStores [.Tuple [.Name x px, .Name y py] kt pt] (.Tuple [a, b] k2 pt2) X.env = pure (some [x, y]) := by rfl)
    (hs : swapsWithSole [.Tuple [.Name x px, .Name y py] kt pt] (.Tuple [a, b] k2 pt2) pos.line X.env = pure false := by rfl)
    (h1 : starEach [a, b] X.env = (false, eval a X.env) :: starEach [b] X.env := by exact se_cons rfl) (h2 : starEach [b] X.env = (false, eval b X.env) :: starEach [] X.env := by exact se_cons rfl) : Bd X Γ (.Assign [.Tuple [.Name x px, .Name y py] kt pt] (.Tuple [a, b] k2 pt2) pos :: rest) H0 D :=
  b_cons fun σ H e0 t => toS (ps_par2 (i := i) (j := j) hc hN hi hj hij hx hy (RL.pa [a, b]) hw hs) (ga_cons ha (ga_cons hb ga_nil h2) h1 σ H t _ fun vs H1 e1 hv => by
    obtain ⟨v0, v1, rfl, k0, k1⟩ := all2_2 hv
    exact ⟨v0, v1, rfl, h _ _ (e0.trans e1) (((t.up e1).set i k0).set j k1)⟩)
end
end RL
namespace RL
open PySem PySem.Spec PyProof.Rows L2
theorem g_neg {X : Cx} {Γ : Ctx} {e : Expr} {i : Int} {pos : Pos} (h : G X Γ e (intT i)) : G X Γ (.UnaryOp .USub e pos) (intT (-i)) := fun σ H t Q q => toE (pe_un un_neg (pe e)) (h σ H t _ fun v H1 e1 h1 => ⟨i, h1, q _ H1 e1 rfl⟩)
end RL

set_option Elab.async false
set_option linter.all false
set_option maxRecDepth 100000
set_option maxHeartbeats 1000000
/-! SayL: sayings as values -/
namespace RL
open PySem PySem.Spec PyProof.Rows L2
abbrev PowL := List (Str × Int)
abbrev Trm := PowL × Int
abbrev Cmpn := PowL × Str × Int
inductive Way where
  | least (n : Int) | exact (n : Int) | rest (m r : Int)
inductive Say where
  | cmp (eq : Bool) (t1 t2 : Trm)
  | cnt (rows : List Cmpn) (way : Way)
  | neg (s : Say)
  | con (conj : Bool) (l : List Say)
  | qu (ex : Bool) (x : Str) (s : Say)
  | use (name : Str) (xs : List Str)
section
variable (K : PySem.W.Frag)
abbrev pwT (q : Str × Int) : Ty := tupT K [strT q.1, intT q.2]
abbrev powT (l : PowL) : Ty := tupT K (l.map (pwT K))
abbrev trmT (t : Trm) : Ty := tupT K [powT K t.1, intT t.2]
abbrev cmpnT (r : Cmpn) : Ty := tupT K [powT K r.1, strT r.2.1, intT r.2.2]
def wayTs : Way → List Ty
  | .least n => [strT "least", intT n]
  | .exact n => [strT "exact", intT n]
  | .rest m r => [strT "rest", tupT K [intT m, intT r]]
mutual
def sayT : Say → Ty
  | .cmp e t1 t2 => tupT K [strT (if e then "equal" else "divides"), trmT K t1, trmT K t2]
  | .cnt rows way => tupT K (strT "count" :: tupT K (rows.map (cmpnT K)) :: wayTs K way)
  | .neg s => tupT K [strT "not", sayT s]
  | .con c l => tupT K (strT (if c then "and" else "or") :: saysT l)
  | .qu e x s => tupT K [strT (if e then "some" else "all"), strT x, sayT s]
  | .use n xs => tupT K [strT "use", strT n, tupT K (xs.map fun z => strT z)]
def saysT : List Say → List Ty
  | [] => []
  | s :: l => sayT s :: saysT l
end
theorem saysT_map (l : List Say) : saysT K l = l.map (sayT K) := by
  induction l with
  | nil => rfl
  | cons s l ih => rw [saysT, ih, List.map_cons]
instance (w : Way) : Stbs (wayTs K w) := by cases w <;> (unfold wayTs; infer_instance)
mutual
theorem stb_say : ∀ s : Say, Stb (sayT K s)
  | .cmp e t1 t2 => by rw [sayT]; infer_instance
  | .cnt rows way => by rw [sayT]; infer_instance
  | .neg s => by
    have := stb_say s
    rw [sayT]; infer_instance
  | .con c l => by
    have := stb_says l
    rw [sayT]; infer_instance
  | .qu e x s => by
    have := stb_say s
    rw [sayT]; infer_instance
  | .use n xs => by rw [sayT]; infer_instance
theorem stb_says : ∀ l : List Say, Stbs (saysT K l)
  | [] => by rw [saysT]; infer_instance
  | s :: l => by
    have := stb_say s
    have := stb_says l
    rw [saysT]; infer_instance
end
instance (s : Say) : Stb (sayT K s) := stb_say K s
end
def Say.word : Say → Str
  | .cmp e _ _ => if e then "equal" else "divides"
  | .cnt _ _ => "count"
  | .neg _ => "not"
  | .con c _ => if c then "and" else "or"
  | .qu e _ _ => if e then "some" else "all"
  | .use _ _ => "use"
/-- what stands behind the word -/
def tailT (K : PySem.W.Frag) : Say → List Ty
  | .cmp _ t1 t2 => [trmT K t1, trmT K t2]
  | .cnt rows way => tupT K (rows.map (cmpnT K)) :: wayTs K way
  | .neg s => [sayT K s]
  | .con _ l => l.map (sayT K)
  | .qu _ x s => [strT x, sayT K s]
  | .use n xs => [strT n, tupT K (xs.map fun z => strT z)]
theorem sayT_eq (K : PySem.W.Frag) (s : Say) : sayT K s = tupT K (strT s.word :: tailT K s) := by
  cases s <;> rw [sayT] <;> first | rfl | (rw [saysT_map]; rfl)
/-! what the generators make -/
def allNames : List Str := ["x", "y", "z", "a", "ab", "b", "far", "low", "top", "m", "n", "xyz", "u", "v", "w"]
def allSigns : List Str := ["<=", ">=", "="]
def allUses : List Str := ["near", "pair", "fact", "abcdefgh"]
/-- ahead of, as texts are sorted -/
def ltN (x y : Str) : Prop := x.cps.toList < y.cps.toList
structure TrmOk (t : Trm) : Prop where
  few : t.1.length ≤ 3
  pw : ∀ q ∈ t.1, q.1 ∈ allNames ∧ 1 ≤ q.2 ∧ q.2 ≤ 4
  con : 1 ≤ t.2 ∧ t.2 ≤ 9
  asc : (t.1.map (·.1)).Pairwise ltN
structure CmpnOk (r : Cmpn) : Prop where
  few : 1 ≤ r.1.length ∧ r.1.length ≤ 2
  pw : ∀ q ∈ r.1, q.1 ∈ allNames ∧ q.2 ≠ 0 ∧ -4 ≤ q.2 ∧ q.2 ≤ 4
  sign : r.2.1 ∈ allSigns
  bnd : -9 ≤ r.2.2 ∧ r.2.2 ≤ 9
  asc : (r.1.map (·.1)).Pairwise ltN
def WayOk : Way → Prop
  | .least n => 1 ≤ n ∧ n ≤ 3
  | .exact n => 0 ≤ n ∧ n ≤ 3
  | .rest m r => 2 ≤ m ∧ m ≤ 4 ∧ 0 ≤ r ∧ r < m
inductive SayOk : Nat → Say → Prop
  | cmp {d : Nat} {e : Bool} {t1 t2 : Trm} : TrmOk t1 → TrmOk t2 → SayOk d (.cmp e t1 t2)
  | cnt {d : Nat} {rows : List Cmpn} {way : Way} : (1 ≤ rows.length ∧ rows.length ≤ 2) → (∀ r ∈ rows, CmpnOk r) → WayOk way → SayOk d (.cnt rows way)
  | neg {d : Nat} {s : Say} : SayOk d s → SayOk (d + 1) (.neg s)
  | con {d : Nat} {c : Bool} {l : List Say} : (2 ≤ l.length ∧ l.length ≤ 3) → (∀ s ∈ l, SayOk d s) → SayOk (d + 1) (.con c l)
  | qu {d : Nat} {e : Bool} {x : Str} {s : Say} : x ∈ allNames → SayOk d s → SayOk (d + 1) (.qu e x s)
  | use {d : Nat} {n : Str} {xs : List Str} : n ∈ allUses → xs.length ≤ 3 → (∀ x ∈ xs, x ∈ allNames) → SayOk d (.use n xs)
end RL

set_option Elab.async false
set_option linter.all false
set_option maxRecDepth 100000
set_option maxHeartbeats 1000000
/-! RLgen: lists whose items are only known to be of a family; slices, sorted texts, append -/
namespace RL
open PySem PySem.Spec PyProof.Rows L2
/-- related one by one -/
inductive Pw2 {α : Type u} {β : Type v} (C : α → β → Prop) : List α → List β → Prop
  | nil : Pw2 C [] []
  | cons {a : α} {b : β} {l : List α} {m : List β} : C a b → Pw2 C l m → Pw2 C (a :: l) (b :: m)
theorem Pw2.len {α : Type u} {β : Type v} {C : α → β → Prop} {l : List α} {m : List β} (h : Pw2 C l m) : l.length = m.length := by
  induction h with
  | nil => rfl
  | cons _ _ ih => rw [List.length_cons, List.length_cons, ih]
theorem Pw2.right {α : Type u} {β : Type v} {C : α → β → Prop} {D : β → Prop} {l : List α} {m : List β} (h : Pw2 C l m) (k : ∀ a ∈ l, ∀ b, C a b → D b) : ∀ b ∈ m, D b := by
  induction h with
  | nil => intro b hb; simp at hb
  | cons c _ ih =>
    intro b hb
    rcases List.mem_cons.mp hb with rfl | hb
    · exact k _ List.mem_cons_self _ c
    · exact ih (fun a ha => k a (List.mem_cons_of_mem _ ha)) b hb
theorem all2_cons {T : Ty} {Ts : List Ty} {vs : List V} {H : Hp} (h : All2 (T :: Ts) vs H) : ∃ v ws, vs = v :: ws ∧ T v H ∧ All2 Ts ws H := by
  cases vs with
  | nil => exact h.elim
  | cons v ws => exact ⟨v, ws, rfl, h.1, h.2⟩
theorem all2_nil {vs : List V} {H : Hp} (h : All2 [] vs H) : vs = [] := by
  cases vs with
  | nil => rfl
  | cons v ws => exact h.elim
theorem all2_ex {α : Type u} {β : Type v} {C : α → β → Prop} {E : β → Ty} {H : Hp} : ∀ {ks : List α} {vs : List V}, All2 (ks.map fun k => exT fun z : { z : β // C k z } => E z.1) vs H → ∃ zs : List β, Pw2 C ks zs ∧ All2 (zs.map E) vs H
  | [], vs, h => ⟨[], .nil, h⟩
  | k :: ks, vs, h => by
    obtain ⟨v, ws, rfl, ⟨z, hz⟩, h2⟩ := all2_cons h
    obtain ⟨zs, h3, h4⟩ := all2_ex h2
    exact ⟨z.1 :: zs, .cons z.2 h3, hz, h4⟩
section
variable {X : Cx} {Γ : Ctx} {e o a b c d : Expr} {es : List Expr} {T U : Ty} {Ts Us : List Ty} {pos p p2 pos2 apos : Pos} {x : Str}
/-- a list of items of families is of a family -/
theorem G.lstEx {α : Type u} {β : Type} {C : α → β → Prop} {E : β → Ty} {ks : List α} {D : List β → Prop} (h : G X Γ e (lstT (ks.map fun k => exT fun z : { z : β // C k z } => E z.1))) (hD : ∀ zs, Pw2 C ks zs → D zs) : G X Γ e (exT fun zs : { zs : List β // D zs } => lstT (zs.1.map E)) := h.imp fun v H ⟨a, vs, ev, hf, h2⟩ => by
  obtain ⟨zs, h3, h4⟩ := all2_ex h2
  exact ⟨⟨zs, hD zs h3⟩, a, vs, ev, hf, h4⟩
theorem g_from {n : Int} (ho : G X Γ o (lstT Ts)) (hk : G X Γ e (intT n)) (hn : 0 ≤ n) : G X Γ (.Subscript o (.Slice (some e) none none pos2) pos) (lstT (Ts.drop n.toNat)) :=
  (g_cutFrom (α := Unit) (n := fun _ => n) ho.rl hk.un).one.is (by rw [cutT_from hn])
theorem g_to {n : Int} (ho : G X Γ o (lstT Ts)) (hk : G X Γ e (intT n)) (hn : 0 ≤ n) : G X Γ (.Subscript o (.Slice none (some e) none pos2) pos) (lstT (Ts.take n.toNat)) :=
  (g_cutTo (α := Unit) (n := fun _ => n) ho.rl hk.un).one.is (by rw [cutT_to hn])
/-- sorted(l), l a frozen list of texts -/
theorem g_sortedS {ys : List Str} (D : List Str → Prop) (h : G X Γ e (lstT (ys.map fun z => strT z))) (hm : X.mg "sorted" = none) (h64 : ys.length < 64) (hD : ∀ zs : List Str, zs.Perm ys → sortedS zs = true → D zs) (hg : Gl X "sorted" := by rfl) (he : starEach [e] X.env = (false, eval e X.env) :: starEach [] X.env := by exact se_cons rfl) :
    G X Γ (.Call (.Name "sorted" p) [e] [] pos) (exT fun zs : { zs : List Str // D zs } => lstT (zs.1.map fun z => strT z)) := fun σ H t Q q =>
  tE_frz (toE (pe_callB cr_sortedS hg hm (by decide +kernel) (pa_cons (pe e) pa_nil he) (he := he)) (h σ H t _ fun v H1 e1 ⟨l, vs, ev, hf, h2⟩ => by
    subst ev
    have hv : vs = ys.map V.str := All2.vals (H := H1) (by rw [List.map_map]; exact h2)
    subst hv
    refine ⟨l, ys, rfl, hf.sq, h64, fun zs d hp hs hd => ⟨d, _, upd_same, trivial, fun od => ?_⟩⟩
    rw [upd_upd]
    refine q _ _ (e1.trans (Ex.new hd)) ⟨⟨zs, hD zs hp hs⟩, d, _, rfl, ⟨od, upd_same⟩, ?_⟩
    have z := All2.of_vals (H := upd H1 d (.frz od (.lst (zs.map V.str)))) (ws := zs.map V.str)
    rwa [List.map_map] at z))
/-! append -/
variable {H0 : Bs} {D : Ends} {rest : List Stmt}
theorem b_append [hTs : Stbs Ts] [hSt : Stb T] (i : Nat) {aa : Addr} (hT : Γ[i]? = some (some (mlT aa Ts))) (he : G X Γ e T) (hl : Ts.length < sizeLine) (ha : H0.e aa = none) (hS : StbC aa (Γ.set i none))
    (h : Bd X (Γ.set i (some (mlT aa (Ts ++ [T])))) rest H0 D) (hN : X.N[i]? = some x := by rfl) (hv : Vis X.env.scope x := by first | exact Or.inl rfl | exact Or.inr (Or.inl rfl) | exact Or.inr (Or.inr rfl)) (hd : (x == ("__debug__" : Str)) = false := by decide) (hcd : (x == ("__classdict__" : Str)) = false := by decide)
    (hbase : attributeBase (.Name x p) "append" X.env (eval (.Name x p) X.env) = eval (.Name x p) X.env := by rfl)
    (hfew : ((backTo pos (starEach [e] X.env)).all (fun x => !x.1) && (backToKw pos (keywordEach [] X.env)).all (fun x => x.1.isSome)
      && decide ([e].length + ([] : List Keyword).length + (if ([] : List Keyword).isEmpty then 0 else 1) < 30)) = true := by first | rfl | (rw [se_one rfl]; rfl))
    (hline : (apos.endLine == pos.line) = true := by rfl) (hs : starEach [e] X.env = (false, eval e X.env) :: starEach [] X.env := by exact se_cons rfl) {pos3 : Pos}
    (hsw : swapsWith (.Call (.Attribute (.Name x p) "append" apos) [e] [] pos) none pos3.line X.env = pure false := by rfl) : Bd X Γ (.Expr (.Call (.Attribute (.Name x p) "append" apos) [e] [] pos) pos3 :: rest) H0 D :=
  b_cons fun σ H e0 t => toS (ps_expr (pe_bm PySem.F.plainAttrs_list PySem.F.slot_list_append PySem.F.type_list_append mt_append (pe_var (i := i) hN hv hd hcd) (RL.pa [e]) hbase hfew hline hs (se_any rfl)) hsw) (by
    obtain ⟨w, hw, ew, vs, hH, h3⟩ := t.get i hT
    subst ew
    refine ⟨_, hw, .inl ⟨rfl, vs, .inl (.inl hH)⟩, ga_cons he ga_nil hs σ H t _ fun us H1 e1 h1 => ?_⟩
    obtain ⟨u, rfl, hu⟩ := one2 h1
    have hH1 := e1 _ _ hH
    refine ⟨aa, vs, u, rfl, rfl, hH1, by rw [← h3.len]; exact hl, h _ _ ((e0.trans e1).mut ha hH1 trivial) (Typed.put (((t.up e1).drop i).mut hS hH1 trivial) ?_ hw ⟨rfl, _, upd_same, ?_⟩)⟩
    · exact (List.getElem?_eq_some_iff.mp hT).1
    · exact (hTs.le (Le.mut hH1 trivial) (h3.up e1)).append ⟨hSt.le (Le.mut hH1 trivial) hu, trivial⟩)
/-- x = [] -/
theorem b_newL (i : Nat) (h : ∀ a, H0.e a = none → Bd X (Γ.set i (some (mlT a []))) rest H0 D) {p' : Pos} (hN : X.N.Nodup := by first | assumption | decide) (hi : X.N[i]? = some x := by rfl) (hx : Loc X.env.scope x := by first | exact Or.inl rfl | exact Or.inr rfl)
    (hs : swapsWith (.List [] p2) (some (.Name x p')) pos.line X.env = pure false := by rfl) (hf : X.fn x = true ∨ X.env.scope.names.lookup x = some .local := by first | exact .inl rfl | exact .inr rfl) : Bd X Γ (.Assign [.Name x p'] (.List [] p2) pos :: rest) H0 D :=
  b_cons fun σ H e0 t => toS (ps_set (i := i) hN hi hx (pe_lst pa_nil) hs hf) ⟨by show 0 ≤ sizeLine; exact Nat.zero_le _, fun q hq => h q (e0.1.free hq) _ _ (e0.trans (Ex.new hq)) ((t.up (Ex.new hq)).set i ⟨rfl, _, upd_same, trivial⟩)⟩
end

/-! x = [e for y in it] -/
section
variable {X : Cx} {Γ : Ctx} {e o a b c d : Expr} {es : List Expr} {T U : Ty} {Ts Us : List Ty} {pos p p2 pos2 apos : Pos} {x : Str} {H0 : Bs} {D : Ends} {rest : List Stmt}
/-- what a list comprehension does, as a reading -/
theorem g_lcR {elt tg iter : Expr} {ifs : List Expr} {scope : Scope} {own : List (Str × Nat)} {g : TG} (rs : List (Option Ty)) (hi : GI X Γ tg iter Ts) (ok : BlkOk X.N X.env.scope scope own)
    (hg : ∀ (s : Shared) (H : Hp) (C : Addr) (cl : List (Str × Addr)) (fp : List Addr), PG (X.blk s H scope (compEnvC scope cl C X.env) fp) tg g)
    (hl : rs.length = Ts.length) (hz : Ts.length ≤ sizeLine)
    (hw : ∀ (i : Nat) (T : Ty), Ts[i]? = some T → ∃ Δ2, Tgt g T ((own.map (·.2)).foldr (fun v G => G.set v none) Γ) Δ2 ∧
      ((rs[i]? = some none ∧ GCTs X scope Δ2 ifs false) ∨ ∃ R, rs[i]? = some (some R) ∧ GCTs X scope Δ2 ifs true ∧ GC X scope Δ2 elt R))
    (hS : ∀ R, some R ∈ rs → Stb R)
    (hwipe : OwnTgt g own)
    (hc : X.calm = true := by rfl) (hN : X.N.Nodup := by first | assumption | decide) (hf : ∀ x, foldedSetIterable iter X.env x = pure x := by intro _; rfl) {σ : L2.St} {H : Hp} (t : Typed σ Γ H) {Q : VK}
    (q : ∀ D H' acc, Ex H H' → H D = none → H' D = some (.lst acc) → All2 (keptT rs) acc H' → Q (.ref D) H') : tLc (tI X tg iter) g (tCT X scope ifs) (tCE X scope elt) (own.map (·.2)) σ H Q := by
  refine hi σ H t _ fun J H1 e1 tn => ?_
  intro Da hD
  have e1D : Ex H1 (upd H1 Da (.lst [])) := Ex.new hD
  refine ⟨fun i m H' => i ≤ Ts.length ∧ m = Ts.length - i ∧ Ex H1 H' ∧ ∃ acc, H' Da = some (.lst acc) ∧ All2 (keptT (rs.take i)) acc H', ⟨_, Nat.zero_le _, rfl, e1D, [], upd_same, by simp [keptT, All2]⟩, ?_⟩
  rintro i m H' ⟨hi', rfl, e2, acc, hacc, hA⟩
  obtain ⟨t3, t4⟩ := tn i H' e2.le
  by_cases c : i < Ts.length
  · obtain ⟨go, yl⟩ := t3 c
    refine .inr ⟨go, fun H' => Ex H1 H' ∧ ∃ acc, H' Da = some (.lst acc) ∧ All2 (keptT (rs.take (i + 1))) acc H', fun H' h => ⟨Ts.length - (i + 1), by omega, by omega, rfl, h⟩, fun v Hy hy => ?_⟩
    obtain ⟨ey, T, hT, hv⟩ := yl v Hy hy
    obtain ⟨Δ2, tg, alt⟩ := hw i T hT
    have tσ : Typed (L2.wipe σ (own.map (·.2))) ((own.map (·.2)).foldr (fun v G => G.set v none) Γ) Hy := Typed.wipe _ (t.up ((e1.trans e2).trans ey))
    refine hwipe v σ Hy _ (tg v _ Hy _ hv tσ fun σ2 t2 => ?_)
    have hlen : acc.length < sizeLine := by
      rw [← hA.len]
      exact Nat.lt_of_le_of_lt (keptT_len rs i) (Nat.lt_of_lt_of_le c hz)
    rcases alt with ⟨hr, hT⟩ | ⟨R, hr, hT, hE⟩
    · intro s0 H0 C cl fp
      refine hT s0 H0 C cl fp σ2 Hy t2 _ fun H3 e3 => ?_
      refine iteF ⟨e2.trans (ey.trans e3), acc, e3 _ _ (ey _ _ hacc), ?_⟩
      rw [keptT_take hr]
      simpa using hA.up (ey.trans e3)
    · intro s0 H0 C cl fp
      refine hT s0 H0 C cl fp σ2 Hy t2 _ fun H3 e3 => iteT ?_
      intro s1 H1' C1 cl1 fp1
      refine hE s1 H1' C1 cl1 fp1 σ2 H3 (t2.up e3) _ fun y H4 e4 hy => ⟨acc, e4 _ _ (e3 _ _ (ey _ _ hacc)), hlen, (e2.trans (ey.trans (e3.trans e4))).mut hD (e4 _ _ (e3 _ _ (ey _ _ hacc))), acc ++ [y], upd_same, ?_⟩
      rw [keptT_take hr]
      have hm := Le.mut (o := .lst (acc ++ [y])) (e4 _ _ (e3 _ _ (ey _ _ hacc))) trivial
      exact All2.append ((keptT_stb hS i).le ((ey.trans (e3.trans e4)).le.trans hm) hA) ⟨(hS R (List.mem_of_getElem? hr)).le hm hy, trivial⟩
  · have hi2 : i = Ts.length := by omega
    refine .inl ⟨t4 hi2, ?_⟩
    rw [hi2, ← hl, List.take_length] at hA
    exact q Da H' acc (e1.trans e2) (e1.free hD) hacc hA

theorem b_asgLc {α : Type} {x y : Str} {j : Nat} {elt iter : Expr} {scope : Scope} {px py spos : Pos} (i : Nat) (ks : List α) (A R : α → Ty) [hSt : ∀ a, Stb (R a)] (hi : GI X Γ (.Name x px) iter (ks.map A)) (hz : ks.length ≤ sizeLine)
    (hv : ∀ p ∈ ks, GC X scope ((Γ.set j none).set j (some (A p))) elt (R p)) (h : Bd X (Γ.set i (some (lstT (ks.map R)))) rest H0 D) (ok : BlkOk X.N X.env.scope scope [(x, j)] := by first | exact blkOk_by rfl | exact blkOk_by (by decide +kernel))
    (hg : ∀ (s : Shared) (H : Hp) (C : Addr) (cl : List (Str × Addr)) (fp : List Addr), PG (X.blk s H scope (compEnvC scope cl C X.env) fp) (.Name x px) (gName j) := by exact fun _ _ _ _ _ => pg_name (by assumption) rfl (Or.inl rfl))
    (hy : X.N[i]? = some y := by rfl) (hyl : X.env.scope.names.lookup y = some .local := by rfl) (hsw : swapsWith (.ListComp elt [⟨.Name x px, iter, [], 0⟩] scope pos) (some (.Name y py)) spos.line X.env = pure true := by exact sw_true rfl rfl rfl (by decide +kernel))
    (hc : X.calm = true := by rfl) (hN : X.N.Nodup := by first | assumption | decide) (hf : ∀ x, foldedSetIterable iter X.env x = pure x := by intro _; rfl) : Bd X Γ (.Assign [.Name y py] (.ListComp elt [⟨.Name x px, iter, [], 0⟩] scope pos) spos :: rest) H0 D :=
  b_cons fun σ H e0 t => toS (ps_setLc (i := i) (te := tCE X scope elt) (tt := tCT X scope []) (own := [(x, j)]) hc hN hy hyl hsw pi ok hg (fun s H C cl fp => ⟨fun pins s' σ H1 Q I h => (h s H C cl fp).run pins s' I⟩) (fun s H C cl fp => ⟨fun pins s' σ H1 Q I h => (h s H C cl fp).run pins s' I⟩) hf)
    (g_lcR (ks.map fun p => some (R p)) hi ok hg (by rw [List.length_map, List.length_map]) (by rw [List.length_map]; exact hz) (fun j' T hT => by
      rw [List.getElem?_map] at hT
      cases hp : ks[j']? with
      | none => rw [hp] at hT; cases hT
      | some q =>
        rw [hp] at hT
        cases hT
        exact ⟨_, tgt_name, .inr ⟨R q, by rw [List.getElem?_map, hp]; rfl, gct_nil, hv q (List.mem_of_getElem? hp)⟩⟩)
      (fun U hU => by obtain ⟨a, _, e⟩ := List.mem_map.mp hU; cases e; exact hSt a) own_name hc hN hf t fun Da H' acc e hD hacc hA => by
        have hk : keptT (ks.map fun p => some (R p)) = ks.map R := by unfold keptT; exact kept_all ks R
        rw [hk] at hA
        have hst : Stbs (ks.map R) := stbs_of fun U hU => by obtain ⟨a, _, e⟩ := List.mem_map.mp hU; subst e; exact hSt a
        refine tB_frz hacc trivial fun od => ?_
        exact h _ _ (e0.trans (e.mut hD hacc)) ((t.up (e.mut hD hacc)).set i ⟨Da, acc, rfl, ⟨od, upd_same⟩, hst.le (Le.mut hacc trivial) hA⟩))
/-- a slot's word is weakened -/
theorem b_impS (i : Nat) (hT : Γ[i]? = some (some T)) (k : ∀ v H, T v H → U v H) (h : Bd X (Γ.set i (some U)) rest H0 D) : Bd X Γ rest H0 D := fun σ H e t => by
  obtain ⟨v, hv, tv⟩ := t.get i hT
  exact h σ H e (Typed.put (t.drop i) (List.getElem?_eq_some_iff.mp hT).1 hv (k v H tv))
theorem lst_ex {α : Type u} {β : Type} {C : α → β → Prop} {E : β → Ty} {ks : List α} {D : List β → Prop} (hD : ∀ zs, Pw2 C ks zs → D zs) (v : V) (H : Hp) (h : lstT (ks.map fun k => exT fun z : { z : β // C k z } => E z.1) v H) : (exT fun zs : { zs : List β // D zs } => lstT (zs.1.map E)) v H := by
  obtain ⟨a, vs, ev, hf, h2⟩ := h
  obtain ⟨zs, h3, h4⟩ := all2_ex h2
  exact ⟨⟨zs, hD zs h3⟩, a, vs, ev, hf, h4⟩
end
end RL

set_option Elab.async false
set_option linter.all false
set_option maxRecDepth 100000
set_option maxHeartbeats 1000000
/-! RLgen2: comprehensions over what is of a family; hidden lists of one int -/
namespace RL
open PySem PySem.Spec PyProof.Rows L2
section
variable {X : Cx} {Γ : Ctx} {e o a b c d : Expr} {es : List Expr} {T U : Ty} {Us : List Ty} {pos p p2 pos2 apos : Pos} {x : Str} {H0 : Bs} {D : Ends} {rest : List Stmt}
/-- what a list comprehension does, what is walked of a family -/
theorem g_lcRX {β : Type} {elt tg iter : Expr} {ifs : List Expr} {scope : Scope} {own : List (Str × Nat)} {g : TG} {Ts : β → List Ty} (rs : β → List (Option Ty)) (hi : GIX X Γ tg iter Ts) (ok : BlkOk X.N X.env.scope scope own)
    (hg : ∀ (s : Shared) (H : Hp) (C : Addr) (cl : List (Str × Addr)) (fp : List Addr), PG (X.blk s H scope (compEnvC scope cl C X.env) fp) tg g)
    (hl : ∀ z, (rs z).length = (Ts z).length) (hz : ∀ z, (Ts z).length ≤ sizeLine)
    (hw : ∀ z (i : Nat) (T : Ty), (Ts z)[i]? = some T → ∃ Δ2, Tgt g T ((own.map (·.2)).foldr (fun v G => G.set v none) Γ) Δ2 ∧
      (((rs z)[i]? = some none ∧ GCTs X scope Δ2 ifs false) ∨ ∃ R, (rs z)[i]? = some (some R) ∧ GCTs X scope Δ2 ifs true ∧ GC X scope Δ2 elt R))
    (hS : ∀ z R, some R ∈ rs z → Stb R)
    (hwipe : OwnTgt g own)
    (hc : X.calm = true := by rfl) (hN : X.N.Nodup := by first | assumption | decide) (hf : ∀ x, foldedSetIterable iter X.env x = pure x := by intro _; rfl) {σ : L2.St} {H : Hp} (t : Typed σ Γ H) {Q : VK}
    (q : ∀ z D H' acc, Ex H H' → H D = none → H' D = some (.lst acc) → All2 (keptT (rs z)) acc H' → Q (.ref D) H') : tLc (tI X tg iter) g (tCT X scope ifs) (tCE X scope elt) (own.map (·.2)) σ H Q := by
  refine hi σ H t _ fun z J H1 e1 tn => ?_
  replace hl := hl z
  replace hz := hz z
  replace hw := hw z
  replace hS := hS z
  replace q := q z
  generalize rs z = rs at *
  generalize Ts z = Ts at *
  intro Da hD
  have e1D : Ex H1 (upd H1 Da (.lst [])) := Ex.new hD
  refine ⟨fun i m H' => i ≤ Ts.length ∧ m = Ts.length - i ∧ Ex H1 H' ∧ ∃ acc, H' Da = some (.lst acc) ∧ All2 (keptT (rs.take i)) acc H', ⟨_, Nat.zero_le _, rfl, e1D, [], upd_same, by simp [keptT, All2]⟩, ?_⟩
  rintro i m H' ⟨hi', rfl, e2, acc, hacc, hA⟩
  obtain ⟨t3, t4⟩ := tn i H' e2.le
  by_cases c : i < Ts.length
  · obtain ⟨go, yl⟩ := t3 c
    refine .inr ⟨go, fun H' => Ex H1 H' ∧ ∃ acc, H' Da = some (.lst acc) ∧ All2 (keptT (rs.take (i + 1))) acc H', fun H' h => ⟨Ts.length - (i + 1), by omega, by omega, rfl, h⟩, fun v Hy hy => ?_⟩
    obtain ⟨ey, T, hT, hv⟩ := yl v Hy hy
    obtain ⟨Δ2, tg, alt⟩ := hw i T hT
    have tσ : Typed (L2.wipe σ (own.map (·.2))) ((own.map (·.2)).foldr (fun v G => G.set v none) Γ) Hy := Typed.wipe _ (t.up ((e1.trans e2).trans ey))
    refine hwipe v σ Hy _ (tg v _ Hy _ hv tσ fun σ2 t2 => ?_)
    have hlen : acc.length < sizeLine := by
      rw [← hA.len]
      exact Nat.lt_of_le_of_lt (keptT_len rs i) (Nat.lt_of_lt_of_le c hz)
    rcases alt with ⟨hr, hT⟩ | ⟨R, hr, hT, hE⟩
    · intro s0 H0 C cl fp
      refine hT s0 H0 C cl fp σ2 Hy t2 _ fun H3 e3 => ?_
      refine iteF ⟨e2.trans (ey.trans e3), acc, e3 _ _ (ey _ _ hacc), ?_⟩
      rw [keptT_take hr]
      simpa using hA.up (ey.trans e3)
    · intro s0 H0 C cl fp
      refine hT s0 H0 C cl fp σ2 Hy t2 _ fun H3 e3 => iteT ?_
      intro s1 H1' C1 cl1 fp1
      refine hE s1 H1' C1 cl1 fp1 σ2 H3 (t2.up e3) _ fun y H4 e4 hy => ⟨acc, e4 _ _ (e3 _ _ (ey _ _ hacc)), hlen, (e2.trans (ey.trans (e3.trans e4))).mut hD (e4 _ _ (e3 _ _ (ey _ _ hacc))), acc ++ [y], upd_same, ?_⟩
      rw [keptT_take hr]
      have hm := Le.mut (o := .lst (acc ++ [y])) (e4 _ _ (e3 _ _ (ey _ _ hacc))) trivial
      exact All2.append ((keptT_stb hS i).le ((ey.trans (e3.trans e4)).le.trans hm) hA) ⟨(hS R (List.mem_of_getElem? hr)).le hm hy, trivial⟩
  · have hi2 : i = Ts.length := by omega
    refine .inl ⟨t4 hi2, ?_⟩
    rw [hi2, ← hl, List.take_length] at hA
    exact q Da H' acc (e1.trans e2) (e1.free hD) hacc hA


/-- [e for x in it], it of a family -/
theorem g_lcX {α β : Type} {x : Str} {j : Nat} {elt iter : Expr} {scope : Scope} {px : Pos} (ks : β → List α) (A R : α → Ty) [hSt : ∀ a, Stb (R a)] (hi : GIX X Γ (.Name x px) iter (fun z => (ks z).map A)) (hz : ∀ z, (ks z).length ≤ sizeLine)
    (hv : ∀ z, ∀ p ∈ ks z, GC X scope ((Γ.set j none).set j (some (A p))) elt (R p)) (ok : BlkOk X.N X.env.scope scope [(x, j)] := by first | exact blkOk_by rfl | exact blkOk_by (by decide +kernel))
    (hg : ∀ (s : Shared) (H : Hp) (C : Addr) (cl : List (Str × Addr)) (fp : List Addr), PG (X.blk s H scope (compEnvC scope cl C X.env) fp) (.Name x px) (gName j) := by exact fun _ _ _ _ _ => pg_name (by assumption) rfl (Or.inl rfl))
    (hc : X.calm = true := by rfl) (hN : X.N.Nodup := by first | assumption | decide) (hf : ∀ x, foldedSetIterable iter X.env x = pure x := by intro _; rfl) : G X Γ (.ListComp elt [⟨.Name x px, iter, [], 0⟩] scope pos) (exT fun z => lstT ((ks z).map R)) := fun σ H t Q q =>
  tE_frz (toE (pe_lc (te := tCE X scope elt) (tt := tCT X scope []) (own := [(x, j)]) hc hN pi ok hg (fun s H C cl fp => ⟨fun pins s' σ H1 Q I h => (h s H C cl fp).run pins s' I⟩) (fun s H C cl fp => ⟨fun pins s' σ H1 Q I h => (h s H C cl fp).run pins s' I⟩) hf)
    (g_lcRX (fun z => (ks z).map fun p => some (R p)) hi ok hg (fun z => by rw [List.length_map, List.length_map]) (fun z => by rw [List.length_map]; exact hz z) (fun z j' T hT => by
      rw [List.getElem?_map] at hT
      cases hp : (ks z)[j']? with
      | none => rw [hp] at hT; cases hT
      | some q =>
        rw [hp] at hT
        cases hT
        exact ⟨_, tgt_name, .inr ⟨R q, by rw [List.getElem?_map, hp]; rfl, gct_nil, hv z q (List.mem_of_getElem? hp)⟩⟩)
      (fun z U hU => by obtain ⟨a, _, e⟩ := List.mem_map.mp hU; cases e; exact hSt a) own_name hc hN hf t fun z Da H' acc e hD hacc hA => by
        have hk : keptT ((ks z).map fun p => some (R p)) = (ks z).map R := by unfold keptT; exact kept_all (ks z) R
        rw [hk] at hA
        have hst : Stbs ((ks z).map R) := stbs_of fun U hU => by obtain ⟨a, _, e⟩ := List.mem_map.mp hU; subst e; exact hSt a
        exact ⟨Da, _, hacc, trivial, fun od => q _ _ (e.mut hD hacc) ⟨z, Da, acc, rfl, ⟨od, upd_same⟩, hst.le (Le.mut hacc trivial) hA⟩⟩))
theorem gix_rng1 {tg : Expr} {p2 : Pos} {q : Int → Prop} (h : G X Γ a (inT q)) (hm : X.mg "range" = none) (hn : ∀ n, q n → -(2 ^ 62) ≤ n ∧ n < 2 ^ 62) (hg : Gl X "range" := by rfl) (hst : starEach [a] X.env = [(false, eval a X.env)] := by exact se_one rfl) :
    GIX X Γ tg (.Call (.Name "range" p) [a] [] p2) (fun z : { i : Int // q i } => (List.range z.1.toNat).map fun (i : Nat) => intT (0 + (i : Int))) := fun σ H t Q k => toI (pi_range1 hg hm (pa_cons (pe a) pa_nil hst) hst) (h σ H t _ fun v H1 e1 ⟨z, hv⟩ => by
  have hv' : v = .int z.1 := hv
  subst hv'
  exact ⟨z.1, rfl, (hn _ z.2).1, (hn _ z.2).2, k z _ H1 e1 turns_rng⟩)
theorem g_eqI {i j : Int} (ha : G X Γ a (intT i)) (hb : G X Γ b (intT j)) : G X Γ (.Compare a [.Eq] [b] pos) (blT (decide (i = j))) := (g_cmp op_eq ha hb (r_Eq rfl) (nomark _)).is (by simp)
/-! a list of one int, its int hidden -/
def cellH (b : Addr) : HO := .ext fun h => ∃ (i : Int) (t : Tok) (n : Nat), h.get? b = some { cls := .type "list", data := .seq #[.int i t] n }
def cellT : Ty := ⟨fun v H => ∃ b : Addr, v = .ref b ∧ H b = some (cellH b), fun e ⟨b, h1, h2⟩ => ⟨b, h1, e _ _ h2⟩⟩
theorem cellH_unf {b : Addr} : ¬ Unf (cellH b) := unf_ext (b := b) (o := { cls := .type "list", data := .seq #[.int 0 0] 0 }) rfl (by show Value.type "list" ≠ _; decide) fun h e => ⟨0, 0, 0, e⟩
instance : Stb cellT := ⟨fun e ⟨b, h1, h2⟩ => ⟨b, h1, e _ _ cellH_unf h2⟩⟩
theorem cellH_plain {b : Addr} : Plain b (cellH b) := ⟨trivial, fun q => by
  obtain ⟨h, e, _⟩ := heap_with b { cls := .type "list", data := .seq #[.int 0 0] 0 } rfl
  refine ext_ne h ⟨0, 0, 0, e⟩ ?_
  rintro ⟨oc, vs, t, e1, e2, _⟩
  rw [e] at e1
  cases e1
  cases e2⟩
theorem cell_close {b : Addr} {i : Int} : Retr b (.lst [.int i]) (cellH b) := ⟨trivial, fun P w H H' hp ⟨_, its, n, r, e⟩ => by
  cases r with
  | cons r0 r =>
    cases r
    obtain ⟨t0, rfl⟩ := r0
    exact ⟨⟨i, t0, n, e⟩, ⟨_, e⟩, fun h1 h2 ⟨i', t', n', e'⟩ s => ⟨i', t', n', s _ e'⟩⟩⟩
theorem cell_open {b : Addr} : ∀ (P : Program) (w : World) (hp : Heap), (∃ (i : Int) (t : Tok) (n : Nat), hp.get? b = some { cls := .type "list", data := .seq #[.int i t] n }) → ∃ i : Int, ∀ H', ObjOk P w H' hp b (.lst [.int i]) := fun P w hp ⟨i, t, n, e⟩ =>
  ⟨i, fun H' => ⟨(by show 1 ≤ sizeLine; decide), [.int i t], n, .cons ⟨_, rfl⟩ .nil, e⟩⟩
theorem tE_open {e : Expr} {σ : L2.St} {H : Hp} {Q : VK} {d : Addr} {α : Type} {φ : Heap → Prop} {u : α → HO} (hd : H d = some (.ext φ)) (ho : ∀ (P : Program) (w : World) (h : Heap), φ h → ∃ a, ∀ H', ObjOk P w H' h d (u a)) (h : ∀ a, tE X e σ (upd H d (u a)) Q) : tE X e σ H Q := by
  refine ⟨fun pins s I => ?_⟩
  have y := I.hok d _ hd
  obtain ⟨f, _, _⟩ := (show φ s.heap ∧ _ ∧ _ from y)
  obtain ⟨a, z⟩ := ho X.prog X.w s.heap f
  exact (h a).run pins s (retr I hd trivial (z _))
theorem upd_id {H : Hp} {b : Addr} {o : HO} (h : H b = some o) : upd H b o = H := by
  funext a
  unfold upd
  split
  · rename_i e; rw [e, h]
  · rfl
/-- left[0] -/
theorem g_cell {i : Nat} (hT : Γ[i]? = some (some cellT)) (hN : X.N[i]? = some x := by rfl) (hv : Vis X.env.scope x := by first | exact Or.inl rfl | exact Or.inr (Or.inl rfl) | exact Or.inr (Or.inr rfl)) (hd : (x == ("__debug__" : Str)) = false := by decide) (hcd : (x == ("__classdict__" : Str)) = false := by decide) {k : Nat}
    (hs : PlainIx (.Constant (.int 0) k p2) := by exact fun _ _ => rfl) : G X Γ (.Subscript (.Name x p) (.Constant (.int 0) k p2) pos) (inT fun _ => True) := fun σ H t Q q => by
  obtain ⟨v, hv1, b, ev, hb⟩ := t.get i hT
  subst ev
  refine tE_open (u := fun j : Int => .lst [.int j]) hb cell_open fun j => ?_
  refine tE_retr (toE (pe_ix ix_list (pe_var (i := i) hN hv hd hcd) pe_int hs) ⟨_, hv1, b, [.int j], 0, .int j, rfl, rfl, .inl (.inl upd_same), rfl, b, _, cellH b, upd_same, cell_close, ?_⟩)
  rw [upd_upd, upd_id hb]
  exact q _ _ (Ex.refl H) ⟨⟨j, trivial⟩, rfl⟩
end
end RL

set_option Elab.async false
set_option linter.all false
set_option maxRecDepth 100000
set_option maxHeartbeats 1000000
/-! RLgen3: not in, three tests, int of a truth value, a hidden cell that is changed -/
namespace RL
open PySem PySem.Spec PyProof.Rows L2
section
variable {X : Cx} {Γ : Ctx} {e o a b c d : Expr} {es : List Expr} {T U : Ty} {Ts Us : List Ty} {pos p p2 p3 p4 pos2 apos : Pos} {x : Str} {H0 : Bs} {D : Ends} {rest : List Stmt}
theorem gt_notinSL {y : Str} {zs : List Str} (ha : G X Γ a (strT y)) (hb : G X Γ b (lstT (zs.map fun z => strT z))) (hm : behindInMarks .NotIn b = false := by rfl) : GT X Γ (.Compare a [.NotIn] [b] pos) (!(zs.any fun z => z == y)) :=
  gt_cmp op_notIn_seq ha hb (fun v w H hv hw Q q => by
    obtain ⟨l, ws, rfl, hl, h3⟩ := hw
    have z : ws = zs.map V.str := All2.vals (H := H) (by rw [List.map_map]; exact h3)
    subst z
    have hv' : v = .str y := hv
    subst hv'
    refine ⟨l, _, rfl, .inl hl.sq, rfl, by rw [List.all_map]; exact List.all_eq_true.mpr fun _ _ => rfl, q _ H (Ex.refl H) ?_⟩
    show V.bl (if true then !L2.inV _ _ else _) = V.bl _
    rw [if_pos rfl]
    unfold L2.inV
    rw [List.any_map]
    rfl) hm
theorem gp_and3 {p q r : Bool → Prop} (ha : GP X Γ a p) (hb : p true → GP X Γ b q) (hc : p true → q true → GP X Γ c r) : GP X Γ (.BoolOp .And [a, b, c] pos) fun k => (k = true ∧ p true ∧ q true ∧ r true) ∨ k = false := fun σ H t Q w => toT (PW.pt (pw_and (pt a) (pw_and (pt b) (pw_and1 (pt c))))) (ha σ H t _ fun k H1 e1 hk => by
  cases k with
  | false => exact iteF (w _ H1 e1 (.inr rfl))
  | true => exact iteT (hb hk σ H1 (t.up e1) _ fun l H2 e2 hl => by
    cases l with
    | false => exact iteF (w _ H2 (e1.trans e2) (.inr rfl))
    | true => exact iteT (hc hk hl σ H2 (t.up (e1.trans e2)) _ fun m H3 e3 hm => by
      cases m with
      | false => exact w _ H3 (e1.trans (e2.trans e3)) (.inr rfl)
      | true => exact w _ H3 (e1.trans (e2.trans e3)) (.inl ⟨rfl, hk, hl, hm⟩))))
theorem g_intB {k : Bool} (h : G X Γ e (blT k)) (hm : X.mg "int" = none) (hg : Gl X "int" := by rfl) (he : starEach [e] X.env = (false, eval e X.env) :: starEach [] X.env := by exact se_cons rfl) : G X Γ (.Call (.Name "int" p) [e] [] pos) (intT (if k then 1 else 0)) :=
  g_callTy call_int1 hm (by decide +kernel) (ga_cons h ga_nil he) (fun vs H h2 Q q => .inr ⟨k, vals1' h2, q _ H (Ex.refl H) rfl⟩) hg (he := he)
theorem tS_open {st : Stmt} {σ : L2.St} {H : Hp} {D : Ends} {d : Addr} {α : Type} {φ : Heap → Prop} {u : α → HO} (hd : H d = some (.ext φ)) (ho : ∀ (P : Program) (w : World) (h : Heap), φ h → ∃ a, ∀ H', ObjOk P w H' h d (u a)) (h : ∀ a, tS X st D σ (upd H d (u a))) : tS X st D σ H := by
  refine ⟨fun pins s I => ?_⟩
  have y := I.hok d _ hd
  obtain ⟨f, _, _⟩ := (show φ s.heap ∧ _ ∧ _ from y)
  obtain ⟨a, z⟩ := ho X.prog X.w s.heap f
  exact (h a).run pins s (retr I hd trivial (z _))
theorem set_none {n : Nat} {i j : Nat} {T U : Ty} (h : ((List.replicate n (none : Option Ty)).set i (some T))[j]? = some (some U)) : j = i ∧ U = T ∧ i < n := by
  by_cases hj : j = i
  · subst hj
    by_cases hn : j < n
    · rw [List.getElem?_set_self (by simpa using hn)] at h
      cases h
      exact ⟨rfl, rfl, hn⟩
    · rw [List.getElem?_eq_none (by simpa using Nat.le_of_not_lt hn)] at h
      cases h
  · rw [List.getElem?_set_ne (Ne.symm hj), List.getElem?_replicate] at h
    split at h <;> cases h
/-- left[0] = e, e by what stands there alone -/
theorem b_cellPut {kk : Nat} (i : Nat) (hT : Γ[i]? = some (some cellT)) (he : ∀ (b : Addr) (j : Int), G X ((List.replicate Γ.length none).set i (some (mlT b [intT j]))) e (inT fun _ => True)) (h : Bd X Γ rest H0 D) {p' : Pos} (hN : X.N[i]? = some x := by rfl) (hv : Vis X.env.scope x := by first | exact Or.inl rfl | exact Or.inr (Or.inl rfl) | exact Or.inr (Or.inr rfl)) (hd : (x == ("__debug__" : Str)) = false := by decide) (hcd : (x == ("__classdict__" : Str)) = false := by decide)
    (hs : swapsWithSole [.Subscript (.Name x p2) (.Constant (.int 0) kk p3) p'] e pos.line X.env = pure false := by rfl) (hw : swappedStores [.Subscript (.Name x p2) (.Constant (.int 0) kk p3) p'] e X.env = pure none := by rfl)
    (h1 : (assignEach [.Subscript (.Name x p2) (.Constant (.int 0) kk p3) p'] X.env).map (·.2) = [assign (.Subscript (.Name x p2) (.Constant (.int 0) kk p3) p') X.env] := by rfl)
    (has : ∀ v, assign (.Subscript (.Name x p2) (.Constant (.int 0) kk p3) p') X.env v = (do
      let ov ← holding [v] (eval (.Name x p2) X.env)
      let iv ← holding [v, ov] (eval (.Constant (.int 0) kk p3) X.env)
      standAt p'
      holding [v, ov, iv] (setItem ov iv v)
      release [v, ov, iv] []) := by intro _; rfl) : Bd X Γ (.Assign [.Subscript (.Name x p2) (.Constant (.int 0) kk p3) p'] e pos :: rest) H0 D :=
  b_cons fun σ H e0 t => by
    obtain ⟨v, hv1, b, ev, hb⟩ := t.get i hT
    subst ev
    have hi : i < Γ.length := (List.getElem?_eq_some_iff.mp hT).1
    refine tS_open (u := fun j : Int => .lst [.int j]) hb cell_open fun j => ?_
    have t1 : Typed σ ((List.replicate Γ.length none).set i (some (mlT b [intT j]))) (upd H b (.lst [.int j])) := by
      refine ⟨by rw [List.length_set, List.length_replicate]; exact t.1, fun j' U hU => ?_⟩
      obtain ⟨rfl, rfl, _⟩ := set_none hU
      exact ⟨_, hv1, rfl, _, upd_same, rfl, trivial⟩
    refine toS (ps_asg (pe e) (pg_sub (pe_var (i := i) hN hv hd hcd) pe_int set_list has) hs hw h1) (he b j σ _ t1 _ fun v1 H1 e1 ⟨k, h1⟩ => ?_)
    have h1' : v1 = .int k.1 := h1
    subst h1'
    have hb1 := e1 _ _ (upd_same (H := H) (a := b) (o := .lst [.int j]))
    refine ⟨_, hv1, b, [.int j], 0, 0, rfl, rfl, hb1, rfl, ?_⟩
    have ex : Ex H (upd H1 b (cellH b)) := closes (hide_ex.trans e1) hb cellH_plain hb1 trivial
    refine tB_retr (u := .lst [.int k.1]) (u' := cellH b) (d := b) upd_same cell_close ?_
    rw [upd_upd]
    exact h _ _ (e0.trans ex) (t.up ex)
end
end RL

set_option Elab.async false
set_option linter.all false
set_option maxRecDepth 100000
set_option maxHeartbeats 1000000
/-! SayTxt: the texts of sayings, in plain Lean -/
namespace RL
open PySem PySem.Spec PyProof.Rows L2
theorem str_ext {x y : Str} (h : x.cps.toList = y.cps.toList) : x = y := by
  obtain ⟨⟨x⟩⟩ := x
  obtain ⟨⟨y⟩⟩ := y
  have h' : x = y := h
  rw [h']
theorem app_cps (x y : Str) : (x ++ y).cps.toList = x.cps.toList ++ y.cps.toList := by
  show (x.cps ++ y.cps).toList = _
  simp
theorem emp_app (x : Str) : Str.empty ++ x = x := str_ext (by rw [app_cps]; rfl)
theorem lit_app (x : Str) : ("" : Str) ++ x = x := str_ext (by rw [app_cps]; rfl)
theorem app_lit (x : Str) : x ++ ("" : Str) = x := str_ext (by rw [app_cps]; exact List.append_nil _)
theorem app_assoc (x y z : Str) : x ++ y ++ z = x ++ (y ++ z) := str_ext (by rw [app_cps, app_cps, app_cps, app_cps, List.append_assoc])
theorem len_app (x y : Str) : (x ++ y).length = x.length + y.length := by
  show (x.cps ++ y.cps).size = x.cps.size + y.cps.size
  exact Array.size_append
theorem join_nil (s : Str) : Txt.join s [] = Str.empty := by rw [TL.join_eq]; rfl
theorem join_one (s x : Str) : Txt.join s [x] = x := by rw [TL.join_eq]; rfl
theorem join_cons (s x y : Str) (r : List Str) : Txt.join s (x :: y :: r) = x ++ s ++ Txt.join s (y :: r) := by rw [TL.join_eq, TL.join_eq]; rfl
theorem join_len (s : Str) {n : Nat} : ∀ ys : List Str, (∀ y ∈ ys, y.length ≤ n) → (Txt.join s ys).length ≤ ys.length * (n + s.length)
  | [], _ => by rw [join_nil]; exact Nat.zero_le _
  | [x], h => by
    have := h x List.mem_cons_self
    rw [join_one]
    simp only [List.length_cons, List.length_nil]
    omega
  | x :: y :: r, h => by
    have h1 := h x List.mem_cons_self
    have h2 := join_len s (y :: r) fun z hz => h z (List.mem_cons_of_mem _ hz)
    rw [join_cons, len_app, len_app]
    have e : (x :: y :: r).length = (y :: r).length + 1 := rfl
    rw [e, Nat.add_mul]
    omega
theorem sum_len {n : Nat} : ∀ ys : List Str, (∀ y ∈ ys, y.length ≤ n) → (ys.map (·.length)).sum ≤ ys.length * n
  | [], _ => by simp
  | x :: r, h => by
    have h1 := h x List.mem_cons_self
    have h2 := sum_len r fun z hz => h z (List.mem_cons_of_mem _ hz)
    rw [List.map_cons, List.sum_cons, List.length_cons, Nat.add_mul]
    omega
abbrev itS (i : Int) : Str := (toString i : String)
theorem itS_all : ∀ n : Fin 19, (itS ((n.1 : Int) - 9)).length ≤ 2 := by decide +kernel
theorem itS_len {i : Int} (h : -9 ≤ i ∧ i ≤ 9) : (itS i).length ≤ 2 := by
  have := itS_all ⟨(i + 9).toNat, by omega⟩
  have e : ((((i + 9).toNat : Nat) : Int)) - 9 = i := by omega
  rwa [e] at this
theorem log_small {i : Int} (h : -9 ≤ i ∧ i ≤ 9) : i.natAbs.log2 < 1920 := by
  have h1 : i.natAbs.log2 ≤ i.natAbs := Nat.log2_le_self _
  omega
def powS (q : Str × Int) : Str := if q.2 = 1 then q.1 else q.1 ++ "^" ++ itS q.2
def trmW (t : Trm) : List Str := if t.2 = 1 ∧ t.1 ≠ [] then t.1.map powS else t.1.map powS ++ [itS t.2]
def trmS (t : Trm) : Str := Txt.join "*" (trmW t)
def absI (i : Int) : Int := if i < 0 then -i else i
def rateW (q : Str × Int) : Str := if absI q.2 = 1 then q.1 else itS (absI q.2) ++ "*" ++ q.1
def rateF (text : Str) (q : Str × Int) : Str := if text = "" then (if 0 ≤ q.2 then rateW q else "-" ++ rateW q) else (if 0 ≤ q.2 then text ++ " + " ++ rateW q else text ++ " - " ++ rateW q)
def ratesS (l : PowL) : Str := l.foldl rateF ""
def cmpnS (r : Cmpn) : Str := ratesS r.1 ++ " " ++ r.2.1 ++ " " ++ itS r.2.2
def headS (rows : List Cmpn) : Str := "#(" ++ Txt.join "; " (rows.map cmpnS) ++ ")"
def cntS (rows : List Cmpn) : Way → Str
  | .least n => headS rows ++ " >= " ++ itS n
  | .exact n => headS rows ++ " = " ++ itS n
  | .rest m r => headS rows ++ " / " ++ itS m ++ " = " ++ itS r
def isCon (both : Bool) : Say → Bool
  | .con c _ => both || !c
  | _ => false
def shutS (b : Bool) (t : Str) : Str := if b then "(" ++ t ++ ")" else t
mutual
def sayS : Say → Str
  | .cmp e t1 t2 => trmS t1 ++ (if e then " = " else " | ") ++ trmS t2
  | .cnt rows way => cntS rows way
  | .neg s => "not " ++ shutS (isCon true s) (sayS s)
  | .con c l => Txt.join (if c then " and " else " or ") (saysS c l)
  | .qu e x s => (if e then "some" else "all") ++ " " ++ x ++ " " ++ shutS (isCon true s) (sayS s)
  | .use n xs => n ++ "(" ++ Txt.join ", " xs ++ ")"
def saysS (c : Bool) : List Say → List Str
  | [] => []
  | s :: l => shutS (isCon c s) (sayS s) :: saysS c l
end
theorem saysS_map (c : Bool) (l : List Say) : saysS c l = l.map fun s => shutS (isCon c s) (sayS s) := by
  induction l with
  | nil => rw [saysS]; rfl
  | cons s l ih => rw [saysS, ih, List.map_cons]
/-! how long -/
theorem names_len : ∀ x ∈ allNames, x.length ≤ 3 := by decide +kernel
theorem uses_len : ∀ x ∈ allUses, x.length ≤ 8 := by decide +kernel
theorem signs_len : ∀ x ∈ allSigns, x.length ≤ 2 := by decide +kernel
theorem powS_len {q : Str × Int} (h : q.1 ∈ allNames ∧ 1 ≤ q.2 ∧ q.2 ≤ 4) : (powS q).length ≤ 6 := by
  have h1 := names_len _ h.1
  have h2 := itS_len (i := q.2) (by omega)
  have h3 : ("^" : Str).length = 1 := by decide +kernel
  unfold powS
  split
  · omega
  · rw [len_app, len_app]; omega
theorem trmW_len {t : Trm} (h : TrmOk t) : (trmW t).length ≤ 4 ∧ ∀ y ∈ trmW t, y.length ≤ 6 := by
  have hf := h.few
  have hp : ∀ y ∈ t.1.map powS, y.length ≤ 6 := fun y hy => by
    obtain ⟨q, hq, rfl⟩ := List.mem_map.mp hy
    exact powS_len (h.pw q hq)
  unfold trmW
  split
  · exact ⟨by rw [List.length_map]; omega, hp⟩
  · refine ⟨by rw [List.length_append, List.length_map]; simp only [List.length_cons, List.length_nil]; omega, fun y hy => ?_⟩
    rcases List.mem_append.mp hy with hy | hy
    · exact hp y hy
    · rw [List.mem_singleton.mp hy]
      have := itS_len (i := t.2) (by have := h.con; omega)
      omega
theorem trmS_len {t : Trm} (h : TrmOk t) : (trmS t).length ≤ 28 := by
  obtain ⟨h1, h2⟩ := trmW_len h
  have := join_len "*" (trmW t) h2
  have h3 : ("*" : Str).length = 1 := by decide +kernel
  unfold trmS
  rw [h3] at this
  have : (trmW t).length * (6 + 1) ≤ 4 * 7 := Nat.mul_le_mul_right _ h1
  omega
theorem rateW_len {q : Str × Int} (h : q.1 ∈ allNames ∧ q.2 ≠ 0 ∧ -4 ≤ q.2 ∧ q.2 ≤ 4) : (rateW q).length ≤ 6 := by
  have h1 := names_len _ h.1
  have h2 := itS_len (i := absI q.2) (by unfold absI; split <;> omega)
  have h3 : ("*" : Str).length = 1 := by decide +kernel
  unfold rateW
  split
  · omega
  · rw [len_app, len_app]; omega
theorem rateF_len {q : Str × Int} (h : q.1 ∈ allNames ∧ q.2 ≠ 0 ∧ -4 ≤ q.2 ∧ q.2 ≤ 4) (t : Str) : (rateF t q).length ≤ t.length + 9 := by
  have h1 := rateW_len h
  have h2 : ("-" : Str).length = 1 := by decide +kernel
  have h3 : (" + " : Str).length = 3 := by decide +kernel
  have h4 : (" - " : Str).length = 3 := by decide +kernel
  unfold rateF
  split <;> split <;> (try rw [len_app]) <;> (try rw [len_app]) <;> omega
theorem rates_len : ∀ (l : PowL) (t : Str), (∀ q ∈ l, q.1 ∈ allNames ∧ q.2 ≠ 0 ∧ -4 ≤ q.2 ∧ q.2 ≤ 4) → (l.foldl rateF t).length ≤ t.length + 9 * l.length
  | [], t, _ => by simp
  | q :: l, t, h => by
    have h1 := rateF_len (h q List.mem_cons_self) t
    have h2 := rates_len l (rateF t q) fun r hr => h r (List.mem_cons_of_mem _ hr)
    rw [List.foldl_cons, List.length_cons]
    omega
theorem cmpnS_len {r : Cmpn} (h : CmpnOk r) : (cmpnS r).length ≤ 24 := by
  have h1 := rates_len r.1 "" h.pw
  have h2 := h.few
  have h3 := signs_len _ h.sign
  have h4 := itS_len h.bnd
  have h5 : (" " : Str).length = 1 := by decide +kernel
  have h6 : ("" : Str).length = 0 := by decide +kernel
  unfold cmpnS ratesS
  rw [len_app, len_app, len_app, len_app]
  omega
end RL

set_option Elab.async false
set_option linter.all false
set_option maxRecDepth 100000
set_option maxHeartbeats 1000000
/-! RLgen4: comprehensions with two names, displays with a star -/
namespace RL
open PySem PySem.Spec PyProof.Rows L2
section
variable {X : Cx} {Γ : Ctx} {e o a b c d : Expr} {es : List Expr} {T U : Ty} {Ts Us : List Ty} {pos p p2 p3 p4 pos2 apos : Pos} {x : Str} {H0 : Bs} {D : Ends} {rest : List Stmt}
theorem se_star {e : Expr} {p : Pos} {es : List Expr} {env : Env} : starEach (.Starred e p :: es) env = (true, eval e env) :: starEach es env := by rw [starEach]
/-- [*e, f] -/
theorem g_lstStar (ha : G X Γ e (lstT Ts)) (hb : G X Γ b T) (hl : Ts.length + 1 ≤ sizeLine) (hs : starEach [b] X.env = (false, eval b X.env) :: starEach [] X.env := by exact se_cons rfl) : G X Γ (.List [.Starred e p, b] pos) (lstT (Ts ++ [T])) := fun σ H t Q q =>
  tE_frz (toE (pe_lst (StX.pa_star (pe e) (pa_cons (pe b) pa_nil hs) se_star)) (ha σ H t _ fun v H1 e1 ⟨l, vs, ev, hf, h1⟩ => ⟨l, vs, ev, .inr hf.sq, hb σ H1 (t.up e1) _ fun w H2 e2 h2 => ⟨by rw [List.length_append, ← h1.len]; simpa using hl, fun d hd => ⟨d, _, upd_same, trivial, fun od => by
    rw [upd_upd]
    exact q _ _ ((e1.trans e2).trans (Ex.new hd)) ⟨d, _, rfl, ⟨od, upd_same⟩, ((h1.up e2).append (show All2 [T] [w] H2 from ⟨h2, trivial⟩)).up (Ex.new hd)⟩⟩⟩⟩))
/-- x = [e for y, z in it] -/
theorem b_asgLc2 {α : Type} {x1 x2 y : Str} {j k : Nat} {elt iter : Expr} {scope : Scope} {px1 px2 tpos py spos : Pos} {kk : Nat} (i : Nat) (ks : List α) (A B R : α → Ty) [hSt : ∀ a, Stb (R a)] (hi : GI X Γ (.Tuple [.Name x1 px1, .Name x2 px2] kk tpos) iter (ks.map fun p => tupT X.K [A p, B p])) (hz : ks.length ≤ sizeLine)
    (hv : ∀ p ∈ ks, GC X scope ((((Γ.set k none).set j none).set j (some (A p))).set k (some (B p))) elt (R p)) (h : Bd X (Γ.set i (some (lstT (ks.map R)))) rest H0 D) (hjk : j ≠ k := by decide) (ok : BlkOk X.N X.env.scope scope [(x1, j), (x2, k)] := by first | exact blkOk_by rfl | exact blkOk_by (by decide +kernel))
    (hg : ∀ (s : Shared) (H : Hp) (C : Addr) (cl : List (Str × Addr)) (fp : List Addr), PG (X.blk s H scope (compEnvC scope cl C X.env) fp) (.Tuple [.Name x1 px1, .Name x2 px2] kk tpos) (gTup X.K 2 (gCons (gName j) (gCons (gName k) gNil))) := by exact fun _ _ _ _ _ => pg_tup rfl (pgs_cons (pg_name (by assumption) rfl (Or.inl rfl)) (pgs_cons (pg_name (by assumption) rfl (Or.inl rfl)) pgs_nil)))
    (hy : X.N[i]? = some y := by rfl) (hyl : X.env.scope.names.lookup y = some .local := by rfl) (hsw : swapsWith (.ListComp elt [⟨.Tuple [.Name x1 px1, .Name x2 px2] kk tpos, iter, [], 0⟩] scope pos) (some (.Name y py)) spos.line X.env = pure true := by exact sw_true rfl rfl rfl (by decide +kernel))
    (hc : X.calm = true := by rfl) (hN : X.N.Nodup := by first | assumption | decide) (hf : ∀ x, foldedSetIterable iter X.env x = pure x := by intro _; rfl) : Bd X Γ (.Assign [.Name y py] (.ListComp elt [⟨.Tuple [.Name x1 px1, .Name x2 px2] kk tpos, iter, [], 0⟩] scope pos) spos :: rest) H0 D :=
  b_cons fun σ H e0 t => toS (ps_setLc (i := i) (te := tCE X scope elt) (tt := tCT X scope []) (own := [(x1, j), (x2, k)]) hc hN hy hyl hsw pi ok hg (fun s H C cl fp => ⟨fun pins s' σ H1 Q I h => (h s H C cl fp).run pins s' I⟩) (fun s H C cl fp => ⟨fun pins s' σ H1 Q I h => (h s H C cl fp).run pins s' I⟩) hf)
    (g_lcR (ks.map fun p => some (R p)) hi ok hg (by rw [List.length_map, List.length_map]) (by rw [List.length_map]; exact hz) (fun j' T hT => by
      rw [List.getElem?_map] at hT
      cases hp : ks[j']? with
      | none => rw [hp] at hT; cases hT
      | some q =>
        rw [hp] at hT
        cases hT
        exact ⟨_, tgts2, .inr ⟨R q, by rw [List.getElem?_map, hp]; rfl, gct_nil, hv q (List.mem_of_getElem? hp)⟩⟩)
      (fun U hU => by obtain ⟨a, _, e⟩ := List.mem_map.mp hU; cases e; exact hSt a) (own_tup2 hjk) hc hN hf t fun Da H' acc e hD hacc hA => by
        have hk : keptT (ks.map fun p => some (R p)) = ks.map R := by unfold keptT; exact kept_all ks R
        rw [hk] at hA
        have hst : Stbs (ks.map R) := stbs_of fun U hU => by obtain ⟨a, _, e⟩ := List.mem_map.mp hU; subst e; exact hSt a
        refine tB_frz hacc trivial fun od => ?_
        exact h _ _ (e0.trans (e.mut hD hacc)) ((t.up (e.mut hD hacc)).set i ⟨Da, acc, rfl, ⟨od, upd_same⟩, hst.le (Le.mut hacc trivial) hA⟩))
end
/-! how long the texts are -/
def BL : Nat → Nat
  | 0 => 120
  | d + 1 => 3 * BL d + 40
theorem head_len {rows : List Cmpn} (h1 : rows.length ≤ 2) (h2 : ∀ r ∈ rows, CmpnOk r) : (headS rows).length ≤ 60 := by
  have hj := join_len "; " (rows.map cmpnS) (n := 24) fun y hy => by
    obtain ⟨r, hr, rfl⟩ := List.mem_map.mp hy
    exact cmpnS_len (h2 r hr)
  have e1 : ("; " : Str).length = 2 := by decide +kernel
  have e2 : ("#(" : Str).length = 2 := by decide +kernel
  have e3 : (")" : Str).length = 1 := by decide +kernel
  rw [List.length_map, e1] at hj
  have : rows.length * (24 + 2) ≤ 2 * 26 := Nat.mul_le_mul_right _ h1
  unfold headS
  rw [len_app, len_app]
  omega
theorem cnt_len {rows : List Cmpn} {way : Way} (h1 : rows.length ≤ 2) (h2 : ∀ r ∈ rows, CmpnOk r) (h3 : WayOk way) : (cntS rows way).length ≤ 80 := by
  have hh := head_len h1 h2
  have e1 : (" >= " : Str).length = 4 := by decide +kernel
  have e2 : (" = " : Str).length = 3 := by decide +kernel
  have e3 : (" / " : Str).length = 3 := by decide +kernel
  cases way with
  | least n =>
    have := itS_len (i := n) (by have : 1 ≤ n ∧ n ≤ 3 := h3; omega)
    unfold cntS
    rw [len_app, len_app]; omega
  | exact n =>
    have := itS_len (i := n) (by have : 0 ≤ n ∧ n ≤ 3 := h3; omega)
    unfold cntS
    rw [len_app, len_app]; omega
  | rest m r =>
    have h3' : 2 ≤ m ∧ m ≤ 4 ∧ 0 ≤ r ∧ r < m := h3
    have := itS_len (i := m) (by omega)
    have := itS_len (i := r) (by omega)
    unfold cntS
    rw [len_app, len_app, len_app, len_app]; omega
theorem shut_len (b : Bool) (t : Str) : (shutS b t).length ≤ t.length + 2 := by
  have e1 : ("(" : Str).length = 1 := by decide +kernel
  have e2 : (")" : Str).length = 1 := by decide +kernel
  unfold shutS
  split
  · rw [len_app, len_app]; omega
  · omega
theorem BL_ge (d : Nat) : 120 ≤ BL d := by
  induction d with
  | zero => exact Nat.le_refl _
  | succ d ih => show 120 ≤ 3 * BL d + 40; omega
theorem say_len {d : Nat} {s : Say} (h : SayOk d s) : (sayS s).length ≤ BL d := by
  have e1 : (" = " : Str).length = 3 := by decide +kernel
  have e2 : (" | " : Str).length = 3 := by decide +kernel
  have e3 : ("not " : Str).length = 4 := by decide +kernel
  have e4 : (" and " : Str).length = 5 := by decide +kernel
  have e5 : (" or " : Str).length = 4 := by decide +kernel
  have e6 : ("some" : Str).length = 4 := by decide +kernel
  have e7 : ("all" : Str).length = 3 := by decide +kernel
  have e8 : (" " : Str).length = 1 := by decide +kernel
  have e9 : ("(" : Str).length = 1 := by decide +kernel
  have e10 : (")" : Str).length = 1 := by decide +kernel
  have e11 : (", " : Str).length = 2 := by decide +kernel
  induction h with
  | @cmp d e t1 t2 h1 h2 =>
    have := trmS_len h1
    have := trmS_len h2
    have := BL_ge d
    rw [sayS, len_app, len_app]
    split <;> omega
  | @cnt d rows way h1 h2 h3 =>
    have := cnt_len h1.2 h2 h3
    have := BL_ge d
    rw [sayS]; omega
  | @neg d s h ih =>
    have := shut_len (isCon true s) (sayS s)
    rw [sayS, len_app]
    show _ ≤ 3 * BL d + 40
    omega
  | @con d c l hl h ih =>
    rw [sayS, saysS_map]
    have hj := join_len (if c then " and " else " or ") (l.map fun s => shutS (isCon c s) (sayS s)) (n := BL d + 2) fun y hy => by
      obtain ⟨s, hs, rfl⟩ := List.mem_map.mp hy
      have := shut_len (isCon c s) (sayS s)
      have := ih s hs
      omega
    rw [List.length_map] at hj
    have hs : (if c then (" and " : Str) else " or ").length ≤ 5 := by split <;> omega
    have h2 : l.length * (BL d + 2 + (if c then (" and " : Str) else " or ").length) ≤ 3 * (BL d + 7) := Nat.mul_le_mul hl.2 (by omega)
    show _ ≤ 3 * BL d + 40
    omega
  | @qu d e x s hx h ih =>
    have := shut_len (isCon true s) (sayS s)
    have := names_len _ hx
    rw [sayS, len_app, len_app, len_app, len_app]
    show _ ≤ 3 * BL d + 40
    split <;> omega
  | @use d n xs hn hl hx =>
    have := uses_len _ hn
    have hj := join_len ", " xs (n := 3) fun y hy => names_len _ (hx y hy)
    have h2 : xs.length * (3 + (", " : Str).length) ≤ 3 * 5 := Nat.mul_le_mul hl (by omega)
    have := BL_ge d
    rw [sayS, len_app, len_app, len_app]
    omega
theorem BL3 : BL 3 ≤ 5000 := by decide
end RL

set_option Elab.async false
set_option linter.all false
set_option maxRecDepth 100000
set_option maxHeartbeats 1000000
/-! RLkw: calls with keywords only -/
namespace RL
open PySem PySem.Spec PyProof.Rows L2
section
variable {X : Cx} {CX : CXT} {k n : Nat} {f : Addr} {fd : FuncData} {ps ks : List Str} {sp : Sp} {E : XK} {x : Str} {p pos : Pos} {kws : List Keyword} {tk : TA} {g : List Value → List Value → List Value} {gV : List V → List V → List V}
theorem pe_callK0 (F : FnOk X.prog X.w X.K X.mg X.base CX k f fd ps sp) (hr : Room k X.A) (hg : L2.Gl X x) (hm : X.mg x = some (.ref f)) (hk : PySem.W.keepIn X.K (.ref f) = true) (hb : KBn X.K fd ps 0 ks g gV) (hx : Passes CX X E) (hkw : PK X kws tk)
    (hall : (backToKw pos (keywordEach kws X.env)).all (·.1.isSome) = true := by rfl) (hks : (backToKw pos (keywordEach kws X.env)).filterMap (·.1) = ks := by rfl) (hdb : (x == ("__debug__" : Str)) = false := by decide)
    (hpl : ((backTo pos (starEach [] X.env)).any (·.1) || (backToKw pos (keywordEach kws X.env)).any (·.1.isNone)) = false := by rfl) :
    PE X (.Call (.Name x p) [] kws pos) (tCallN 0 ks.length sp gV E tNil tk) := by
  refine ⟨fun pins s σ H Q I h => ?_⟩
  refine wpAny_Call_Name_kw (ld_glob I hg hm ?_ hdb)
  refine PySem.W.callWith_KW0 (h₀ := X.base) I.ok.mod.kin hk hall ?_ hpl
  refine thn (hkw.run pos pins s σ H _ I h) fun ws s2 ⟨zs, H2, I2, rz, l1, l2, q2⟩ => ⟨I2.kIn, ?_⟩
  rw [hks]
  exact run_fnN (us := []) (vs := []) F hr hb hx I2 .nil rz rfl l2 q2
end
/-- a def that keeps a promise, called with values or with all of them as keywords, in the order of ks -/
structure FnGK (P : Program) (w : World) (K : PySem.W.Frag) (mg : Str → Option Value) (base : Heap) (k : Nat) (x : Str) (ps : List Str) (sp : Sp) : Prop where
  ex : ∃ f fd, FnOk P w K mg base CX0 k f fd ps sp ∧ mg x = some (.ref f) ∧ PySem.W.keepIn K (.ref f) = true ∧ Binds K fd ps [] ∧ KBn K fd ps 0 ps (fun us ws => us ++ ws) (fun vs zs => vs ++ zs)
theorem FnGK.fn {P : Program} {w : World} {K : PySem.W.Frag} {mg : Str → Option Value} {base : Heap} {k : Nat} {x : Str} {ps : List Str} {sp : Sp} (F : FnGK P w K mg base k x ps sp) : FnG P w K mg base k x ps sp := by
  obtain ⟨f, fd, h1, h2, h3, h4, h5⟩ := F.ex
  exact ⟨f, fd, h1, h2, h3, h4⟩
theorem FunD.bindsKw {K : PySem.W.Frag} {x qual : Str} {params : Arguments} {body : List Stmt} {scope : Scope} {kws : List (Str × V)} {f : Addr} {fd : FuncData} {ps : List Str} (F : FunD K x qual params body scope [] kws f fd)
    (h : ∀ (kV doc pm : Value) (an : Option Addr) (cdv ct : Value) (ws : List Value), ws.length = ps.length → bindArgs (PySem.W.fnOf x qual params body scope .none kV doc pm an cdv ct) ⟨[], ps.zip ws⟩ = pure (ps.zip ws)) : KBn K fd ps 0 ps (fun us ws => us ++ ws) (fun vs zs => vs ++ zs) := by
  obtain ⟨oc, od, dV, kV, doc, pm, an, cdv, ct, osl, rfl, lk, hcd, hD, hK⟩ := F.ex
  rcases hD with ⟨_, rfl⟩ | ⟨e, _⟩
  · refine ⟨fun s us ws _ h1 h2 => ?_, fun r1 r2 => r1.append r2⟩
    obtain rfl : us = [] := List.length_eq_zero_iff.mp h1
    exact .of_eq (h kV doc pm an cdv ct ws h2)
  · exact absurd rfl e
section
variable {qa : List He.Fa} {qn : List He.DefD} {ex : PySem.W.Frag → Bool} {K : PySem.W.Frag} {mg : Str → Option Value} {P : Program} {w : World} {base : Heap} {k : Nat} {ps : List Str} {sp : Sp}
theorem Tx.fnK (T : Tx qa qn ex K mg) (d : He.DefD) (h : d ∈ qn) (x : Str) (hx : d.at_ = (x, none)) (hg : He.Fa.glo x ∈ qa) (hz : d.dfl = [])
    (hb : ∀ (kV doc pm : Value) (an : Option Addr) (cdv ct : Value) (us : List Value), us.length = ps.length → bindArgs (PySem.W.fnOf d.name d.qual d.params d.body d.scope .none kV doc pm an cdv ct) ⟨us, []⟩ = pure (ps.zip us))
    (hbk : ∀ (kV doc pm : Value) (an : Option Addr) (cdv ct : Value) (us : List Value), us.length = ps.length → bindArgs (PySem.W.fnOf d.name d.qual d.params d.body d.scope .none kV doc pm an cdv ct) ⟨[], ps.zip us⟩ = pure (ps.zip us))
    (ok : ∀ f fd, FunD K d.name d.qual d.params d.body d.scope [] (d.kws K) f fd → FnOk P w K mg base CX0 k f fd ps sp) : FnGK P w K mg base k x ps sp := by
  obtain ⟨fd, F⟩ := T.def_ d h
  have e0 : d.dvs K = [] := by unfold He.DefD.dvs; rw [hz]; rfl
  rw [e0] at F
  refine ⟨_, fd, ok _ _ F, ?_, F.kp, F.bindsN hb, FunD.bindsKw F hbk⟩
  have e : He.fAd K d.at_ = He.ga K x := by rw [hx]; rfl
  rw [e]
  exact T.glo x hg
end
section
variable {X : Cx} {Γ : Ctx} {e : Expr} {T : Ty} {pos p kpos : Pos} {x kw : Str} {α : Type} {A : α → List Ty} {R : α → Ty} {k : Nat}
/-- f(k = e) -/
theorem g_callK1 (F : FnGK X.prog X.w X.K X.mg X.base k x [kw] (spG A R)) (hr : Room k X.A) (i : α) (ha : G X Γ e T) (hT : ∀ v H, T v H → All2 (A i) [v] H := by exact fun _ _ h => ⟨h, trivial⟩)
    (hg : L2.Gl X x := by rfl) (hdb : (x == ("__debug__" : Str)) = false := by decide) (hall : (backToKw pos (keywordEach [⟨some kw, e, kpos⟩] X.env)).all (·.1.isSome) = true := by rfl) (hks : (backToKw pos (keywordEach [⟨some kw, e, kpos⟩] X.env)).filterMap (·.1) = [kw] := by rfl)
    (hpl : ((backTo pos (starEach [] X.env)).any (·.1) || (backToKw pos (keywordEach [⟨some kw, e, kpos⟩] X.env)).any (·.1.isNone)) = false := by rfl) {T' : Ty} (hR : R i = T' := by rfl) : G X Γ (.Call (.Name x p) [] [⟨some kw, e, kpos⟩] pos) T' := fun σ H t Q q => by
  subst hR
  obtain ⟨f, fd, F, hm, hk, _, hb⟩ := F.ex
  exact toE (pe_callK0 F hr hg hm hk hb pass0 (pk_cons (pe e) pk_nil) hall hks hdb hpl) (ha σ H t _ fun v H1 e1 h1 => ⟨rfl, rfl, i, hT v H1 h1, fun v' H2 e2 h2 => q v' H2 (e1.trans e2) h2⟩)
end
end RL

set_option Elab.async false
set_option linter.all false
set_option maxRecDepth 100000
set_option maxHeartbeats 1000000
/-! RLlike: is None, isinstance with two classes, zip, all, list * int -/
namespace RL
open PySem PySem.Spec PyProof.Rows L2
section
variable {X : Cx} {Γ : Ctx} {a b e : Expr} {T U : Ty} {Ts Us : List Ty} {pos p p1 p2 p3 tp tpos : Pos} {x y : Str} {elts : List Expr} {kk : Nat}
/-- x is None, x no None -/
theorem gt_isN0 {k : Nat} (ha : G X Γ a T) (hT : ∀ v H, T v H → v ≠ .non) : GT X Γ (.Compare a [.Is] [.Constant .none k p2] pos) false :=
  gt_cmp op_isN ha g_non (fun v w H hv hw Q q => ⟨hw, q _ H (Ex.refl H) (by
    show V.bl _ = V.bl _
    simp [hT v H hv])⟩)
theorem kit2 {K : PySem.W.Frag} {n n1 n2 : String} {r1 r2 : Bool} (h1 : kitB n n1 = some r1) (h2 : kitB n n2 = some r2) : PySem.W.kitAny K (.type n) [.type n1, .type n2] = some (r1 || r2) :=
  kitAny_cons (kit_ty h1) (fun e => by
    subst e
    exact kitAny_cons (kit_ty h2) (fun e => by subst e; exact kitAny_nil) fun e => by subst e; rfl) fun e => by subst e; rfl
/-- isinstance(x, (A, B)) -/
theorem g_isi2 {n n1 n2 : String} {r1 r2 : Bool} {k : Nat} (he : G X Γ e T) (ht : ∀ v H, T v H → TyX X.K H v (.type n)) (hm : X.mg "isinstance" = none) (hx : X.mg x = none) (hy : X.mg y = none) (hv : bootBuiltins x = some (.type n1)) (hw : bootBuiltins y = some (.type n2)) (hk1 : kitB n n1 = some r1) (hk2 : kitB n n2 = some r2) (hg : L2.Gl X "isinstance" := by rfl) (hgx : L2.Gl X x := by rfl) (hgy : L2.Gl X y := by rfl)
    (hdx : (x == ("__debug__" : Str)) = false := by decide) (hnx : x ≠ "__name__" := by decide) (hdy : (y == ("__debug__" : Str)) = false := by decide) (hny : y ≠ "__name__" := by decide)
    (hs : starEach [e, .Tuple [.Name x p1, .Name y p2] k tp] X.env = (false, eval e X.env) :: starEach [.Tuple [.Name x p1, .Name y p2] k tp] X.env := by exact se_cons rfl)
    (hs2 : starEach [.Tuple [.Name x p1, .Name y p2] k tp] X.env = (false, eval (.Tuple [.Name x p1, .Name y p2] k tp) X.env) :: starEach [] X.env := by exact se_cons rfl)
    (hs3 : starEach [.Name x p1, .Name y p2] X.env = (false, eval (.Name x p1) X.env) :: starEach [.Name y p2] X.env := by exact se_cons rfl)
    (hs4 : starEach [.Name y p2] X.env = (false, eval (.Name y p2) X.env) :: starEach [] X.env := by exact se_cons rfl)
    (hpl : (backTo pos (starEach [.Tuple [.Name x p1, .Name y p2] k tp] X.env)).any (·.1) = false := by first | exact se_any rfl | rfl) :
    G X Γ (.Call (.Name "isinstance" p) [e, .Tuple [.Name x p1, .Name y p2] k tp] [] pos) (blT (r1 || r2)) := fun σ H t Q q =>
  toE (pe_callB call_isiT hg hm (by decide +kernel) (pa_cons (pe e) (pa_cons (pe_tup (pa_cons (pe_bltn (v := .ty n1) hgx hx hv rfl hnx hdx) (pa_cons (pe_bltn (v := .ty n2) hgy hy hw rfl hny hdy) pa_nil hs4) hs3)) pa_nil hs2) hs) (he := hs) (hpl := hpl))
    (he σ H t _ fun v H1 e1 h1 => ⟨by show 2 ≤ sizeLine; decide, fun tp hp => ⟨v, tp, [.ty n1, .ty n2], .type n, [.type n1, .type n2], r1 || r2, rfl, upd_same, .cons (.ty n1) (.cons (.ty n2) .nil), ht v _ (T.up (Ex.new hp) h1), kit2 hk1 hk2, q _ _ (e1.trans (Ex.new hp)) rfl⟩⟩)
/-- zip of two frozen lists of one length -/
def zipTy (K : PySem.W.Frag) (Ts Us : List Ty) : List Ty := List.zipWith (fun T U => tupT K [T, U]) Ts Us
theorem zipTy_get {K : PySem.W.Frag} {i : Nat} {T U : Ty} (h : Ts[i]? = some T) (k : Us[i]? = some U) : (zipTy K Ts Us)[i]? = some (tupT K [T, U]) := by
  unfold zipTy
  rw [List.getElem?_zipWith, h, k]
theorem gi_zipL [hS : Stbs Ts] [hS2 : Stbs Us] (ha : G X Γ a (lstT Ts)) (hb : G X Γ b (lstT Us)) (hl : Ts.length = Us.length) (hm : X.mg "zip" = none) (hg : L2.Gl X "zip" := by rfl)
    (hs : starEach [a, b] X.env = (false, eval a X.env) :: starEach [b] X.env := by exact se_cons rfl) (hs2 : starEach [b] X.env = (false, eval b X.env) :: starEach [] X.env := by exact se_cons rfl) (hpl : (backTo pos (starEach [b] X.env)).any (·.1) = false := by first | exact se_any rfl | rfl) :
    GI X Γ (.Tuple elts kk tpos) (.Call (.Name "zip" p) [a, b] [] pos) (zipTy X.K Ts Us) := fun σ H t Q q =>
  toI (RZ.pi_zipA hg hm (pa_cons (pe a) (pa_cons (pe b) pa_nil hs2) hs) hs hpl) (ha σ H t _ fun v H1 e1 h1 => hb σ H1 (t.up e1) _ fun w H2 e2 h2 => by
    obtain ⟨l, vs, ev, hf, h3⟩ := (lstT Ts).up e2 h1
    obtain ⟨m, ws, ew, hf2, h4⟩ := h2
    subst ev; subst ew
    refine ⟨l, m, vs, ws, rfl, .inl ⟨hf.sq, hf2.sq, q _ H2 (e1.trans e2) fun i H' e => ⟨fun hi => ?_, fun hi => ?_⟩⟩⟩
    · have hz : (zipTy X.K Ts Us).length = Ts.length := by simp [zipTy, hl]
      rw [hz] at hi
      obtain ⟨y1, hy1, ty1⟩ := (hS.le e h3).get (List.getElem?_eq_getElem hi)
      obtain ⟨y2, hy2, ty2⟩ := (hS2.le e h4).get (List.getElem?_eq_getElem (hl ▸ hi))
      refine ⟨⟨vs, ws, y1, y2, (hf.le e).sq, (hf2.le e).sq, hy1, hy2⟩, fun x H3 hy => ?_⟩
      obtain ⟨A, z1, z2, ex, hn, eH, k1, k2⟩ := hy
      subst ex; subst eH
      have k1' := k1 vs (hf.le e).sq
      have k2' := k2 ws (hf2.le e).sq
      rw [hy1] at k1'
      rw [hy2] at k2'
      cases k1'; cases k2'
      exact ⟨Ex.new hn, _, zipTy_get (List.getElem?_eq_getElem hi) (List.getElem?_eq_getElem (hl ▸ hi)), A, _, rfl, .inl upd_same, Ty.up _ (Ex.new hn) ty1, Ty.up _ (Ex.new hn) ty2, trivial⟩
    · have hz : (zipTy X.K Ts Us).length = Ts.length := by simp [zipTy, hl]
      exact ⟨vs, ws, (hf.le e).sq, (hf2.le e).sq, .inl (by rw [hi, hz, h3.len]; exact Nat.le_refl _)⟩)
/-- [elt for x, y in ..] -/
theorem g_lc2 {α : Type} {x1 x2 : Str} {j k : Nat} {elt iter : Expr} {scope : Scope} {px1 px2 : Pos} {kk : Nat} (ks : List α) (A B R : α → Ty) [hSt : ∀ a, Stb (R a)] (hi : GI X Γ (.Tuple [.Name x1 px1, .Name x2 px2] kk tpos) iter (ks.map fun p => tupT X.K [A p, B p])) (hz : ks.length ≤ sizeLine)
    (hv : ∀ p ∈ ks, GC X scope ((((Γ.set k none).set j none).set j (some (A p))).set k (some (B p))) elt (R p)) (hjk : j ≠ k := by decide) (ok : BlkOk X.N X.env.scope scope [(x1, j), (x2, k)] := by first | exact blkOk_by rfl | exact blkOk_by (by decide +kernel))
    (hg : ∀ (s : Shared) (H : Hp) (C : Addr) (cl : List (Str × Addr)) (fp : List Addr), PG (X.blk s H scope (compEnvC scope cl C X.env) fp) (.Tuple [.Name x1 px1, .Name x2 px2] kk tpos) (gTup X.K 2 (gCons (gName j) (gCons (gName k) gNil))) := by exact fun _ _ _ _ _ => pg_tup rfl (pgs_cons (pg_name (by assumption) rfl (Or.inl rfl)) (pgs_cons (pg_name (by assumption) rfl (Or.inl rfl)) pgs_nil)))
    {T' : Ty} (hR : lstT (ks.map R) = T' := by rfl) (hc : X.calm = true := by rfl) (hN : X.N.Nodup := by first | assumption | decide) (hf : ∀ x, foldedSetIterable iter X.env x = pure x := by intro _; rfl) : G X Γ (.ListComp elt [⟨.Tuple [.Name x1 px1, .Name x2 px2] kk tpos, iter, [], 0⟩] scope pos) T' := by
  subst hR
  refine g_lc (ks.map fun p => some (R p)) hi ok hg (by rw [List.length_map, List.length_map]) (by rw [List.length_map]; exact hz) (fun i T hT => ?_) (fun U hU => by obtain ⟨a, _, e⟩ := List.mem_map.mp hU; cases e; exact hSt a) (own_tup2 hjk) (by unfold keptT; rw [kept_all]) hc hN hf
  rw [List.getElem?_map] at hT
  cases hp : ks[i]? with
  | none => rw [hp] at hT; cases hT
  | some q =>
    rw [hp] at hT
    cases hT
    exact ⟨_, tgts2, .inr ⟨R q, by rw [List.getElem?_map, hp]; rfl, gct_nil, hv q (List.mem_of_getElem? hp)⟩⟩
/-- [x] * 2 -/
theorem g_rep2 {j : Nat} (h : G X Γ e T) (hs : starEach [e] X.env = (false, eval e X.env) :: starEach [] X.env := by exact se_cons rfl) : G X Γ (.BinOp (.List [e] p) .Mult (.Constant (.int 2) j p2) pos) (lstT [T, T]) := fun σ H t Q q =>
  tE_frz (toE (pe_op op_rep (pe_lst (pa_cons (pe e) pa_nil hs)) pe_int) (h σ H t _ fun v H1 e1 h1 => ⟨by show 1 ≤ sizeLine; decide, fun d hd => ⟨d, 2, [v], rfl, rfl, upd_same, by decide, by decide, by show 1 * 2 ≤ sizeLine; decide, fun d2 hd2 => ⟨d2, _, upd_same, trivial, fun od => by
    rw [upd_upd]
    have e3 := (Ex.new (o := .lst [v]) hd).trans (Ex.new (o := .frz od (.lst [v, v])) hd2)
    exact q _ _ (e1.trans e3) ⟨d2, [v, v], rfl, ⟨od, upd_same⟩, T.up e3 h1, T.up e3 h1, trivial⟩⟩⟩⟩))
end
end RL

set_option Elab.async false
set_option linter.all false
set_option maxRecDepth 100000
/-! RLslp: generators that sleep stay as they are while other code runs.
A run is looked at with every sleeping generator's rest exchanged for one that has no run; what is shown of that run holds of the true one, and no sleeper was touched. -/
namespace RL
open PySem
open Sem (wp)

/-- frames of no generator -/
abbrev NoGen (fs : List Frame) : Prop := splitAtGen fs = none
theorem noGen_nil : NoGen [] := rfl
theorem noGen_ret {k h g l c p kp} {fs : List Frame} (e : NoGen fs) : NoGen (.ret k h g l c p kp :: fs) := by
  show (splitAtGen fs).map _ = none
  rw [show splitAtGen fs = none from e]; rfl
theorem noGen_tail {F : Frame} {fs : List Frame} (h : NoGen (F :: fs)) : NoGen fs := by
  cases F with
  | gen g k l c p => cases h
  | ret k hh g l c p kp =>
    have h' : (splitAtGen fs).map _ = none := h
    exact Option.map_eq_none_iff.mp h'
theorem noGen_append : ∀ {fs gs : List Frame}, NoGen fs → NoGen gs → NoGen (fs ++ gs)
  | [], _, _, h => h
  | .ret k hh g l c p kp :: fs, gs, h, h' => by
    rw [List.cons_append]
    exact noGen_ret (noGen_append (noGen_tail h) h')
  | .gen g k l c p :: fs, _, h, _ => by cases h

/-- a sleeper that has no run -/
def dead : GenState → GenState
  | .suspended _ l c p fs cl => .suspended (fun _ => .unsupported "") l c p fs cl
  | x => x
/-- the true states of the sleepers -/
abbrev Ov := Nat → Option GenState
def ov (O : Ov) (s : Shared) : Shared := { s with gens := s.gens.mapIdx fun i x => (O i).getD x }
theorem ov_get {O : Ov} {s : Shared} {i : Nat} : (ov O s).gens[i]? = (s.gens[i]?).map fun x => (O i).getD x := by
  show (s.gens.mapIdx _)[i]? = _
  rw [Array.getElem?_mapIdx]
theorem ov_size {O : Ov} {s : Shared} : (ov O s).gens.size = s.gens.size := by
  show (s.gens.mapIdx _).size = _
  rw [Array.size_mapIdx]
structure Good (O : Ov) (s : Shared) : Prop where
  dead : ∀ i x, O i = some x → ∃ l c p fs cl, s.gens[i]? = some (.suspended (fun _ => .unsupported "") l c p fs cl) ∧ x.seen = (GenState.suspended (fun _ => .unsupported "") l c p fs cl).seen
  live : ∀ i, O i = none → ∀ k l c p fs cl, s.gens[i]? = some (.suspended k l c p fs cl) → NoGen fs
def EndOk : End → Prop
  | .susp _ _ _ _ _ _ fs => NoGen fs
  | .ret _ => True
theorem Good.same {O : Ov} {s s' : Shared} (h : Good O s) (e : s'.gens = s.gens) : Good O s' := ⟨fun i x q => by rw [e]; exact h.dead i x q, fun i q k l c p fs cl z => h.live i q k l c p fs cl (by rw [← e]; exact z)⟩
theorem Good.awake {O : Ov} {s : Shared} {g : Nat} {x : GenState} (h : Good O s) (e : s.gens[g]? = some x) (n : ∀ l c p fs cl, x ≠ .suspended (fun _ => .unsupported "") l c p fs cl) : O g = none := by
  cases q : O g with
  | none => rfl
  | some y =>
    obtain ⟨l, c, p, fs, cl, e', _⟩ := h.dead g y q
    rw [e] at e'
    exact absurd (Option.some.inj e') (n l c p fs cl)
theorem setGen_get {s : Shared} {g i : Nat} {x : GenState} : (s.setGen g x).gens[i]? = if g = i then (if g < s.gens.size then some x else none) else s.gens[i]? := by
  show (s.gens.setIfInBounds g x)[i]? = _
  rw [Array.getElem?_setIfInBounds]
theorem ov_setGen {O : Ov} {s : Shared} {g : Nat} {x : GenState} (h : O g = none) : ov O (s.setGen g x) = (ov O s).setGen g x := by
  have : (s.gens.setIfInBounds g x).mapIdx (fun i x => (O i).getD x) = (s.gens.mapIdx fun i x => (O i).getD x).setIfInBounds g x := by
    apply Array.ext_getElem?
    intro i
    rw [Array.getElem?_mapIdx, Array.getElem?_setIfInBounds, Array.getElem?_setIfInBounds, Array.getElem?_mapIdx, Array.size_mapIdx]
    by_cases c : g = i
    · subst c
      rw [if_pos rfl, if_pos rfl]
      split <;> simp [h]
    · rw [if_neg c, if_neg c]
  show ({ s with gens := (s.gens.setIfInBounds g x).mapIdx _ } : Shared) = { s with gens := (s.gens.mapIdx _).setIfInBounds g x }
  rw [this]
theorem Good.setGen {O : Ov} {s : Shared} {g : Nat} {x : GenState} (h : Good O s) (hg : O g = none) (hx : ∀ k l c p fs cl, x = .suspended k l c p fs cl → NoGen fs) : Good O (s.setGen g x) := ⟨fun i y q => by
  have c : g ≠ i := fun z => by rw [z, q] at hg; cases hg
  rw [setGen_get, if_neg c]
  exact h.dead i y q, fun i q k l c p fs cl z => by
  rw [setGen_get] at z
  split at z
  · split at z
    · exact hx k l c p fs cl (Option.some.inj z)
    · cases z
  · exact h.live i q k l c p fs cl z⟩
theorem Good.pushed {O : Ov} {s : Shared} {c : Code} (h : Good O s) : Good O { s with gens := s.gens.push (.fresh c) } := ⟨fun i y q => by
  obtain ⟨l, c', p, fs, cl, e, r⟩ := h.dead i y q
  refine ⟨l, c', p, fs, cl, ?_, r⟩
  show (s.gens.push _)[i]? = _
  have hi := (Array.getElem?_eq_some_iff.mp e).1
  rw [Array.getElem?_push, if_neg (Nat.ne_of_lt hi)]
  exact e, fun i q k l c' p fs cl z => by
  have z' : (s.gens.push (.fresh c))[i]? = some (.suspended k l c' p fs cl) := z
  rw [Array.getElem?_push] at z'
  split at z'
  · cases z'
  · exact h.live i q k l c' p fs cl z'⟩
theorem Good.none_size {O : Ov} {s : Shared} (h : Good O s) : O s.gens.size = none := by
  cases q : O s.gens.size with
  | none => rfl
  | some y =>
    obtain ⟨l, c', p, fs, cl, e, r⟩ := h.dead _ y q
    exact absurd (Array.getElem?_eq_some_iff.mp e).1 (Nat.lt_irrefl _)
theorem ov_push {O : Ov} {s : Shared} {c : Code} (h : Good O s) : ov O { s with gens := s.gens.push (.fresh c) } = { ov O s with gens := (ov O s).gens.push (.fresh c) } := by
  have : (s.gens.push (.fresh c)).mapIdx (fun i x => (O i).getD x) = (s.gens.mapIdx fun i x => (O i).getD x).push (.fresh c) := by
    rw [Array.mapIdx_push, h.none_size]
    rfl
  show ({ s with gens := (s.gens.push (.fresh c)).mapIdx _ } : Shared) = { s with gens := _ }
  rw [this]
  rfl
theorem no_runs {M : Model} {Γ : PySem.Ctx} {p : Pos} {w : String} {fs : List Frame} {s s' : Shared} {e : End} (h : Runs M Γ p (.unsupported w) fs s e s') : False := by
  generalize ht : (Sem.unsupported w : Sem Fin) = t at h
  induction h <;> (try (cases ht; done)) <;> (try (rename_i ih _; exact ih ht)) <;> (try (rename_i ih; exact ih ht)) <;> (try (rename_i ih _ _ ; exact ih ht)) <;> (try (subst ht; simp_all; done))

theorem runs_ov {M : Model} {O : Ov} {Γ : PySem.Ctx} {p : Pos} {t : Sem PySem.Fin} {fs : List Frame} {s s' : Shared} {e : End} (h : Runs M Γ p t fs s e s') :
    Good O s → NoGen fs → Runs M Γ p t fs (ov O s) e (ov O s') ∧ Good O s' ∧ EndOk e := by
  induction h with
  | done => exact fun g _ => ⟨.done, g, trivial⟩
  | raise => exact fun g _ => ⟨.raise, g, trivial⟩
  | again hq _ ih => exact fun g n => let ⟨a, b⟩ := ih g n; ⟨.again hq a, b⟩
  | rule _ ih => exact fun g n => let ⟨a, b⟩ := ih g n; ⟨.rule a, b⟩
  | «at» _ ih => exact fun g n => let ⟨a, b⟩ := ih g n; ⟨.at a, b⟩
  | load ho _ ih => exact fun g n => let ⟨a, b⟩ := ih g n; ⟨.load ho a, b⟩
  | update ho _ ih => exact fun g n => let ⟨a, b⟩ := ih (g.same rfl) n; ⟨.update ho a, b⟩
  | loadIfAlive _ ih => exact fun g n => let ⟨a, b⟩ := ih g n; ⟨.loadIfAlive a, b⟩
  | point _ ih => exact fun g n => let ⟨a, b⟩ := ih g n; ⟨.point a, b⟩
  | alloc _ ih => exact fun g n => let ⟨a, b⟩ := ih (g.same rfl) n; ⟨.alloc a, b⟩
  | fresh _ ih => exact fun g n => let ⟨a, b⟩ := ih (g.same rfl) n; ⟨.fresh a, b⟩
  | ask _ ih => exact fun g n => let ⟨a, b⟩ := ih g n; ⟨.ask a, b⟩
  | choose hn _ ih => exact fun g n => let ⟨a, b⟩ := ih (g.same rfl) n; ⟨.choose hn a, b⟩
  | os _ ih => exact fun g n => let ⟨a, b⟩ := ih (g.same rfl) n; ⟨.os a, b⟩
  | handled _ ih => exact fun g n => let ⟨a, b⟩ := ih g n; ⟨.handled a, b⟩
  | @genState gi st Γ p k s e s' hs _ ih =>
    intro g n
    obtain ⟨a, b⟩ := ih g n
    have hs' : (ov O s).gens[gi]? = some ((O gi).getD st) := by rw [ov_get, hs]; rfl
    have hseen : ((O gi).getD st).seen = st.seen := by
      cases q : O gi with
      | none => rfl
      | some y =>
        obtain ⟨l, c, p, fs, cl, e1, e2⟩ := g.dead gi y q
        rw [hs] at e1
        cases Option.some.inj e1
        exact e2
    refine ⟨.genState hs' ?_, b⟩
    rw [hseen]
    exact a
  | stack _ ih => exact fun g n => let ⟨a, b⟩ := ih g n; ⟨.stack a, b⟩
  | thread _ ih => exact fun g n => let ⟨a, b⟩ := ih g n; ⟨.thread a, b⟩
  | @newGen Γ p k s e s' c _ ih =>
    intro g n
    obtain ⟨a, b⟩ := ih g.pushed n
    refine ⟨.newGen ?_, b⟩
    rw [ov_push g] at a
    rw [ov_size]
    exact a
  | call _ _ ih1 ih2 =>
    intro g n
    obtain ⟨a, b, _⟩ := ih1 g noGen_nil
    obtain ⟨a2, b2⟩ := ih2 b n
    exact ⟨.call a a2, b2⟩
  | callSusp _ ih =>
    intro g n
    obtain ⟨a, b, c⟩ := ih g noGen_nil
    exact ⟨.callSusp a, b, noGen_append c (noGen_ret noGen_nil)⟩
  | yield => exact fun g _ => ⟨.yield, g, noGen_nil⟩
  | @resumeFresh Γ p gi l k s c e₁ s₁ e s' hs _ hq _ ih1 ih2 =>
    intro g n
    have hO : O gi = none := g.awake hs fun _ _ _ _ _ z => by cases z
    have hs' : (ov O s).gens[gi]? = some (.fresh c) := by rw [ov_get, hs, hO]; rfl
    obtain ⟨a, b, c1⟩ := ih1 (g.setGen hO fun _ _ _ _ _ _ z => by cases z) noGen_nil
    rw [ov_setGen hO] at a
    obtain ⟨a2, b2⟩ := ih2 (b.setGen hO fun k l c p fs cl z => by
      cases e₁ with
      | ret r => cases z
      | susp v g l k c p fs =>
        cases z
        exact c1) n
    rw [ov_setGen hO] at a2
    exact ⟨.resumeFresh hs' a hq a2, b2⟩
  | @resumeSuspended Γ p gi r l k s k₀ l₀ c₀ p₀ fs cl e₁ s₁ e s' hs hr hq _ ih1 ih2 =>
    intro g n
    have hO : O gi = none := g.awake hs fun _ _ _ _ _ z => by
      cases z
      exact no_runs hr
    have hs' : (ov O s).gens[gi]? = some (.suspended k₀ l₀ c₀ p₀ fs cl) := by rw [ov_get, hs, hO]; rfl
    obtain ⟨a, b, c1⟩ := ih1 (g.setGen hO fun _ _ _ _ _ _ z => by cases z) (g.live gi hO _ _ _ _ _ _ hs)
    rw [ov_setGen hO] at a
    obtain ⟨a2, b2⟩ := ih2 (b.setGen hO fun k l c p fs cl z => by
      cases e₁ with
      | ret r => cases z
      | susp v g l k c p fs =>
        cases z
        exact c1) n
    rw [ov_setGen hO] at a2
    exact ⟨.resumeSuspended hs' a hq a2, b2⟩
  | @resumeJustStarted gi v Γ p k s e s' l c hs hv _ ih =>
    intro g n
    have hO : O gi = none := g.awake hs fun _ _ _ _ _ z => by cases z
    have hs' : (ov O s).gens[gi]? = some (.fresh c) := by rw [ov_get, hs, hO]; rfl
    obtain ⟨a, b⟩ := ih g n
    exact ⟨.resumeJustStarted hs' hv a, b⟩
  | @resumeThrowFresh gi Γ p k e s' x l s c hs _ ih =>
    intro g n
    have hO : O gi = none := g.awake hs fun _ _ _ _ _ z => by cases z
    have hs' : (ov O s).gens[gi]? = some (.fresh c) := by rw [ov_get, hs, hO]; rfl
    obtain ⟨a, b⟩ := ih (g.setGen hO fun _ _ _ _ _ _ z => by cases z) n
    rw [ov_setGen hO] at a
    exact ⟨.resumeThrowFresh hs' a, b⟩
  | @resumeRunning gi Γ p k s e s' r l hs _ ih =>
    intro g n
    have hO : O gi = none := g.awake hs fun _ _ _ _ _ z => by cases z
    have hs' : (ov O s).gens[gi]? = some .running := by rw [ov_get, hs, hO]; rfl
    obtain ⟨a, b⟩ := ih g n
    exact ⟨.resumeRunning hs' a, b⟩
  | @resumeFinished gi Γ p k s e s' r l hs _ ih =>
    intro g n
    have hO : O gi = none := g.awake hs fun _ _ _ _ _ z => by cases z
    have hs' : (ov O s).gens[gi]? = some .finished := by rw [ov_get, hs, hO]; rfl
    obtain ⟨a, b⟩ := ih g n
    exact ⟨.resumeFinished hs' a, b⟩
  | segRet _ _ ih1 ih2 =>
    intro g n
    obtain ⟨a, b, _⟩ := ih1 g noGen_nil
    obtain ⟨a2, b2⟩ := ih2 b (noGen_tail n)
    exact ⟨.segRet a a2, b2⟩
  | segGen => exact fun g n => by cases n
  | segSuspOut hs _ ih =>
    intro g n
    obtain ⟨a, b, c⟩ := ih g noGen_nil
    exact ⟨.segSuspOut hs a, b, noGen_append c n⟩
  | segSuspGen hs _ _ _ _ _ =>
    intro g n
    rw [show splitAtGen _ = none from n] at hs
    cases hs

theorem wakes_ov {M : Model} {O : Ov} {Γ : PySem.Ctx} {p : Pos} {g : Nat} {r : Resume} {s s' : Shared} {res : GenResult} (h : Wakes M Γ p g r s res s') (hg : Good O s) : Wakes M Γ p g r (ov O s) res (ov O s') ∧ Good O s' := by
  unfold Wakes at h
  split at h
  · exact h.elim
  · rename_i c hs
    have hO : O g = none := hg.awake hs fun _ _ _ _ _ z => by cases z
    have hs' : (ov O s).gens[g]? = some (.fresh c) := by rw [ov_get, hs, hO]; rfl
    unfold Wakes
    rw [hs']
    split at h
    · obtain ⟨e₁, s₁, hr, hq, rfl, rfl⟩ := h
      obtain ⟨a, b, c1⟩ := runs_ov hr (hg.setGen hO fun _ _ _ _ _ _ z => by cases z) noGen_nil
      rw [ov_setGen hO] at a
      refine ⟨⟨e₁, ov O s₁, a, hq, rfl, ov_setGen hO⟩, b.setGen hO fun k l c p fs cl z => ?_⟩
      cases e₁ with
      | ret r => cases z
      | susp v g l k c p fs =>
        cases z
        exact c1
    · obtain ⟨h1, rfl⟩ := h
      exact ⟨⟨h1, rfl⟩, hg⟩
    · obtain ⟨h1, rfl⟩ := h
      exact ⟨⟨h1, ov_setGen hO⟩, hg.setGen hO fun _ _ _ _ _ _ z => by cases z⟩
  · rename_i k₀ l₀ c₀ p₀ fs cl hs
    obtain ⟨e₁, s₁, hr, hq, rfl, rfl⟩ := h
    have hO : O g = none := hg.awake hs fun _ _ _ _ _ z => by
      cases z
      exact no_runs hr
    have hs' : (ov O s).gens[g]? = some (.suspended k₀ l₀ c₀ p₀ fs cl) := by rw [ov_get, hs, hO]; rfl
    unfold Wakes
    rw [hs']
    obtain ⟨a, b, c1⟩ := runs_ov hr (hg.setGen hO fun _ _ _ _ _ _ z => by cases z) (hg.live g hO _ _ _ _ _ _ hs)
    rw [ov_setGen hO] at a
    refine ⟨⟨e₁, ov O s₁, a, hq, rfl, ov_setGen hO⟩, b.setGen hO fun k l c p fs cl z => ?_⟩
    cases e₁ with
    | ret r => cases z
    | susp v g l k c p fs =>
      cases z
      exact c1
  · rename_i hs
    have hO : O g = none := hg.awake hs fun _ _ _ _ _ z => by cases z
    obtain ⟨h1, rfl⟩ := h
    have hs' : (ov O s').gens[g]? = some .running := by rw [ov_get, hs, hO]; rfl
    unfold Wakes
    rw [hs']
    exact ⟨⟨h1, rfl⟩, hg⟩
  · rename_i hs
    have hO : O g = none := hg.awake hs fun _ _ _ _ _ z => by cases z
    obtain ⟨h1, rfl⟩ := h
    have hs' : (ov O s').gens[g]? = some .finished := by rw [ov_get, hs, hO]; rfl
    unfold Wakes
    rw [hs']
    exact ⟨⟨h1, rfl⟩, hg⟩
theorem wp_ov {α : Type} (M : Model) (O : Ov) (Γ : PySem.Ctx) (t : Sem α) : ∀ (Q : α → Pos → Shared → Prop) (E : Value → Pos → Shared → Prop) (p : Pos) (s : Shared), Good O s → wp M Γ t Q E p s →
    wp M Γ t (fun a p' s' => ∃ s2, s' = ov O s2 ∧ Good O s2 ∧ Q a p' s2) (fun e p' s' => ∃ s2, s' = ov O s2 ∧ Good O s2 ∧ E e p' s2) p (ov O s) := by
  induction t with
  | pure a => intro Q E p s hn h; exact ⟨s, rfl, hn, h⟩
  | raise e => intro Q E p s hn h; exact ⟨s, rfl, hn, h⟩
  | unsupported _ => intro Q E p s _ h; exact h
  | finish _ => intro Q E p s _ h; exact h
  | rule _ k ih => intro Q E p s hn h; exact ih () Q E p s hn h
  | «at» p' k ih => intro Q E p s hn h; exact ih () Q E p' s hn h
  | load a _ k ih => intro Q E p s hn h; obtain ⟨o, ho, h⟩ := h; exact ⟨o, ho, ih o Q E p s hn h⟩
  | update a _ f k ih => intro Q E p s hn h; exact ⟨h.1, ih () Q E p { s with heap := s.heap.update a f } (hn.same rfl) h.2⟩
  | loadIfAlive a k ih => intro Q E p s hn h; exact ih _ Q E p s hn h
  | point _ k ih => intro Q E p s hn h; exact ih () Q E p s hn h
  | register _ _ => intro Q E p s _ h; exact h
  | alloc o k ih => intro Q E p s hn h; exact ih _ Q E p { s with heap := s.heap.push o } (hn.same rfl) h
  | fresh k ih => intro Q E p s hn h; exact ih _ Q E p { s with toks := s.toks + 1 } (hn.same rfl) h
  | ask k ih => intro Q E p s hn h; exact ih _ Q E p s hn h
  | choose src m k ih => intro Q E p s hn h; exact ⟨h.1, ih _ Q E p { s with drawn := s.drawn.bump src } (hn.same rfl) h.2⟩
  | os q _ k ih => intro Q E p s hn h; exact ih _ Q E p { s with os := (Os.step s.os q).1 } (hn.same rfl) h
  | call c hd _ _ k ih =>
    intro Q E p s hn h
    obtain ⟨r, s', hr, h⟩ := h
    obtain ⟨a, b, _⟩ := runs_ov (O := O) hr hn noGen_nil
    exact ⟨r, ov O s', a, ih r Q E p s' b h⟩
  | handled own k ih => intro Q E p s hn h; exact ih _ Q E p s hn h
  | genState g k ih =>
    intro Q E p s hn h
    obtain ⟨st, hs, h⟩ := h
    have hs' : (ov O s).gens[g]? = some ((O g).getD st) := by rw [ov_get, hs]; rfl
    have hseen : ((O g).getD st).seen = st.seen := by
      cases q : O g with
      | none => rfl
      | some y =>
        obtain ⟨l, c, p, fs, cl, e1, e2⟩ := hn.dead g y q
        rw [hs] at e1
        cases Option.some.inj e1
        exact e2
    refine ⟨_, hs', ?_⟩
    rw [hseen]
    exact ih _ Q E p s hn h
  | newGen c k ih =>
    intro Q E p s hn h
    have z := ih _ Q E p { s with gens := s.gens.push (.fresh c) } hn.pushed h
    rw [ov_push hn] at z
    show wp M Γ (k (ov O s).gens.size) _ _ p _
    rw [ov_size]
    exact z
  | resume g r _ k ih =>
    intro Q E p s hn h
    obtain ⟨res, s', hw, h⟩ := h
    obtain ⟨a, b⟩ := wakes_ov hw hn
    exact ⟨res, ov O s', a, ih res Q E p s' b h⟩
  | yield _ _ _ _ => intro Q E p s _ h; exact h
  | stack k ih => intro Q E p s hn h; exact ih _ Q E p s hn h
  | fork _ _ => intro Q E p s _ h; exact h
  | thread k ih => intro Q E p s hn h; exact ih _ Q E p s hn h
  | await _ _ _ _ _ => intro Q E p s _ h; exact h

/-! ### the form that is used -/
/-- the same, all sleepers dead -/
def doze (s : Shared) : Shared := { s with gens := s.gens.map dead }
def ovOf (s : Shared) : Ov := fun i => match s.gens[i]? with
  | some (.suspended k l c p fs cl) => some (.suspended k l c p fs cl)
  | _ => none
theorem doze_get {s : Shared} {i : Nat} : (doze s).gens[i]? = (s.gens[i]?).map dead := by
  show (s.gens.map dead)[i]? = _
  rw [Array.getElem?_map]
theorem doze_good (s : Shared) : Good (ovOf s) (doze s) := by
  refine ⟨fun i x h => ?_, fun i h k l c p fs cl e => ?_⟩
  · unfold ovOf at h
    split at h
    · rename_i k l c p fs cl e
      cases h
      exact ⟨l, c, p, fs, cl, by rw [doze_get, e]; rfl, rfl⟩
    · cases h
  · rw [doze_get] at e
    unfold ovOf at h
    cases q : s.gens[i]? with
    | none => rw [q] at e; cases e
    | some y =>
      rw [q] at e h
      cases y with
      | suspended => cases h
      | fresh => cases e
      | running => cases e
      | finished => cases e
theorem doze_ov (s : Shared) : ov (ovOf s) (doze s) = s := by
  have : ((s.gens.map dead).mapIdx fun i x => (ovOf s i).getD x) = s.gens := by
    apply Array.ext_getElem?
    intro i
    rw [Array.getElem?_mapIdx, Array.getElem?_map]
    unfold ovOf
    cases q : s.gens[i]? with
    | none => rfl
    | some y => cases y <;> rfl
  show ({ s with gens := (s.gens.map dead).mapIdx _ } : Shared) = s
  rw [this]
theorem dead_bare (x : GenState) : (dead x).bare = x.bare := by cases x <;> rfl
theorem doze_bare {s : Shared} (h : PyProof.Rows.AllBare s.gens) : PyProof.Rows.AllBare (doze s).gens := fun y hy => by
  obtain ⟨x, hx, rfl⟩ := Array.mem_map.mp (show y ∈ s.gens.map dead from hy)
  rw [dead_bare]
  exact h x hx
/-- what a run leaves: as the dozing run left it, but for the sleepers, who are as they were -/
structure Woke (s s2 s' : Shared) : Prop where
  eq : s' = { s2 with gens := s'.gens }
  bare : PyProof.Rows.AllBare s.gens → PyProof.Rows.AllBare s2.gens → PyProof.Rows.AllBare s'.gens
  slept : ∀ (i : Nat) k l c p fs cl, s.gens[i]? = some (GenState.suspended k l c p fs cl) → s'.gens[i]? = some (GenState.suspended k l c p fs cl)
theorem woke_of {s s2 : Shared} (g : Good (ovOf s) s2) : Woke s s2 (ov (ovOf s) s2) := by
  refine ⟨rfl, fun h1 h2 y hy => ?_, fun i k l c p fs cl e => ?_⟩
  · obtain ⟨i, hi, e⟩ := Array.mem_iff_getElem.mp hy
    have e2 : (ov (ovOf s) s2).gens[i]? = some y := by rw [Array.getElem?_eq_getElem hi, e]
    rw [ov_get] at e2
    cases q : s2.gens[i]? with
    | none => rw [q] at e2; cases e2
    | some x =>
      rw [q] at e2
      have e3 : (ovOf s i).getD x = y := Option.some.inj e2
      cases r : ovOf s i with
      | none =>
        rw [r] at e3
        have e4 : x = y := e3
        rw [← e4]
        obtain ⟨hi', e5⟩ := Array.getElem?_eq_some_iff.mp q
        rw [← e5]
        exact h2 _ (Array.getElem_mem hi')
      | some z =>
        rw [r] at e3
        have e4 : z = y := e3
        rw [← e4]
        unfold ovOf at r
        split at r
        · rename_i k l c p fs cl e5
          cases r
          obtain ⟨hi', e6⟩ := Array.getElem?_eq_some_iff.mp e5
          rw [← e6]
          exact h1 _ (Array.getElem_mem hi')
        · cases r
  · have ho : ovOf s i = some (.suspended k l c p fs cl) := by unfold ovOf; rw [e]
    obtain ⟨l', c', p', fs', cl', e2, _⟩ := g.dead i _ ho
    rw [ov_get, e2, ho]
    rfl
/-- THE RULE: what is shown of the dozing state holds of the true one, and the sleepers sleep on -/
theorem sleepers {α : Type} {M : Model} {A : Around} {t : Sem α} {Q : α → Shared → Prop} {E : Value → Shared → Prop} {s : Shared} (h : wpAny M A t Q E (doze s)) :
    wpAny M A t (fun a s' => ∃ s2, Woke s s2 s' ∧ Q a s2) (fun e s' => ∃ s2, Woke s s2 s' ∧ E e s2) s := fun Γ p hΓ => by
  have z := wp_ov M (ovOf s) Γ t _ _ p (doze s) (doze_good s) (h Γ p hΓ)
  rw [doze_ov] at z
  refine Sem.wp_mono M Γ t (fun a p' s' ⟨s2, e, g, q⟩ => ?_) (fun a p' s' ⟨s2, e, g, q⟩ => ?_) p s z
  · subst e
    exact ⟨s2, woke_of g, q⟩
  · subst e
    exact ⟨s2, woke_of g, q⟩
end RL

set_option Elab.async false
set_option linter.all false
set_option maxRecDepth 100000
set_option maxHeartbeats 4000000
/-! RLseg: one stretch of a generator's code, from its waking to where it hands out or ends -/
namespace RL
open PySem PySem.Spec PyProof.Rows L2
open Sem (wp)

/-- from here the code runs to an end of which Φ holds -/
def SegP (M : Model) (A : Around) (Φ : End → Shared → Prop) (c : Code) (t : Sem PySem.Fin) (fs : List Frame) (s : Shared) : Prop :=
  ∀ Γ p, Γ.code = c → PySem.Ctx.Woken Γ A → ∃ e s', Runs M Γ p t fs s e s' ∧ Φ e s'
/-- waking it -/
def GoesP (M : Model) (A : Around) (Φ : End → Shared → Prop) (gs : GenState) (s : Shared) : Prop := match gs with
  | .fresh c => SegP M A Φ c (M.den c) [] s
  | .suspended k _ c _ fs _ => SegP M A Φ c (k (.send .none)) fs s
  | _ => False
section
variable {M : Model} {A : Around} {Φ : End → Shared → Prop} {c : Code} {fs : List Frame} {s : Shared}
theorem sgm_wrap {α : Type} {m : Sem α} {K : α → Sem PySem.Fin} {J : Value → Sem PySem.Fin} {gd : Bool → Bool} {lv : List Value → List Value}
    (h : wpAny M (A.over c fs) m (fun a s1 => SegP M A Φ c (K a) fs s1) (fun x s1 => SegP M A Φ c (J x) fs s1) s) : SegP M A Φ c (m.wrap K J gd lv) fs s := fun Γ p hc hΓ => by
  subst hc
  exact runs_wrap_of_wp K J gd lv m (h (Γ.over fs) p (hΓ.over fs)) (fun a p1 s1 z => z Γ p1 rfl hΓ) (fun x p1 s1 z => z Γ p1 rfl hΓ)
theorem sgm_at {p' : Pos} {k : Unit → Sem PySem.Fin} (h : SegP M A Φ c (k ()) fs s) : SegP M A Φ c (.at p' k) fs s :=
  sgm_wrap (m := standAt p') (K := k) (J := .raise) (gd := id) (lv := id) (wpAny_standAt h)
theorem sgm_call {c' : Code} {h g l} {k : Result → Sem PySem.Fin} (hc : ∀ p, SegP M A Φ c' (M.den c') (.ret k h g l c p [] :: fs) s) : SegP M A Φ c (.call c' h g l k) fs s := fun Γ p e hΓ => by
  subst e
  obtain ⟨e1, s1, hr, he⟩ := hc p (Γ.goto c') p rfl (hΓ.goto c')
  exact ⟨e1, s1, runs_call_seg hr, he⟩
theorem sgm_leaf {k h g l c₁ p₁ kp} (r : Result) (hk : SegP M A Φ c₁ (k r) fs s) : SegP M A Φ c (leafOf r) (.ret k h g l c₁ p₁ kp :: fs) s := fun Γ p e hΓ => by
  subst e
  obtain ⟨e1, s1, hr, he⟩ := hk (Γ.goto c₁) p₁ rfl (hΓ.goto c₁)
  exact ⟨e1, s1, Runs.pop r hr, he⟩
theorem sgm_again {c' : Code} (hq : c'.quiet = true) (hc : SegP M A Φ c' (M.den c') fs s) : SegP M A Φ c (.pure (.again c')) fs s := fun Γ p e hΓ => by
  subst e
  obtain ⟨e1, s1, hr, he⟩ := hc (Γ.goto c') p rfl (hΓ.goto c')
  exact ⟨e1, s1, Runs.head (c₁ := c') (fun _ _ x => .again hq x) hr, he⟩
theorem sgm_end (r : Result) (h : Φ (.ret r) s) : SegP M A Φ c (leafOf r) [] s := fun Γ p _ _ => ⟨.ret r, s, Runs.leaf r, h⟩
theorem sgm_yield {v : Value} {g : Bool} {l : List Value} {k : Resume → Sem PySem.Fin} (hfs : splitAtGen fs = none) (hg : g = false) (hfg : fs.any Frame.guarded = false)
    (h : ∀ p, (End.susp v g l k c p fs).quiet = true → Φ (.susp v g l k c p fs) s) : SegP M A Φ c (.yield v g l k) fs s := fun Γ p e _ => by
  subst e
  exact ⟨_, s, Runs.yield' fs hfs, h p (by simp [End.quiet, hg, hfg])⟩
theorem SegP.imp {Φ' : End → Shared → Prop} {t : Sem PySem.Fin} (h : SegP M A Φ c t fs s) (k : ∀ e s, Φ e s → Φ' e s) : SegP M A Φ' c t fs s := fun Γ p hc hΓ =>
  let ⟨e, s1, hr, he⟩ := h Γ p hc hΓ
  ⟨e, s1, hr, k _ _ he⟩
end
/-! ### statements -/
section
variable {M : Model} {A : Around} {Φ : End → Shared → Prop} {c : Code} {fs : List Frame} {s : Shared} {env : Env} {K : Flow → Sem PySem.Fin} {J : Value → Sem PySem.Fin} {gd : Bool → Bool} {lv : List Value → List Value}
/-- behind a statement -/
def andThen (rest : List Stmt) (env : Env) (K : Flow → Sem PySem.Fin) (J : Value → Sem PySem.Fin) (gd : Bool → Bool) (lv : List Value → List Value) : Flow → Sem PySem.Fin := fun f => match f with
  | .next => (execs rest env).wrap K J gd lv
  | f => K f
theorem sgm_cons {st : Stmt} {rest : List Stmt} (h : SegP M A Φ c ((exec st env).wrap (andThen rest env K J gd lv) J gd lv) fs s) : SegP M A Φ c ((execs (st :: rest) env).wrap K J gd lv) fs s := by
  rw [execs_cons_wrap]
  exact h
/-- yield e: asleep with what follows -/
theorem sgm_exprYield {e : Expr} {yp pos : Pos} (hfs : splitAtGen fs = none) (hgd : gd false = false) (hfg : fs.any Frame.guarded = false) (hco : env.scope.isCoroutine = false) (hi : interactive env = false)
    (h : wpAny M (A.over c fs) (eval e env) (fun v s1 => ∀ (l : List Value) (k : Resume → Sem PySem.Fin) (p : Pos), (End.susp v (gd false) l k c p fs).quiet = true →
      (∀ (Φ' : End → Shared → Prop) (s2 : Shared), SegP M A Φ' c (K .next) fs s2 → SegP M A Φ' c (k (.send .none)) fs s2) → Φ (.susp v (gd false) l k c p fs) s1) (fun x s1 => SegP M A Φ c (J x) fs s1) s) :
    SegP M A Φ c ((exec (.Expr (.Yield (some e) yp) pos) env).wrap K J gd lv) fs s := by
  have hy : ∀ v, yieldOut env v = yieldValue v := fun v => by
    simp only [yieldOut, hco, Bool.false_eq_true, if_false]
  rw [exec_Expr env _ pos hi rfl]
  show SegP M A Φ c (.at pos fun _ => ((eval e env >>= fun v => (standAt yp >>= fun _ => yieldOut env v)) >>= fun x => dropValue (.Yield (some e) yp) pos x).wrap K J gd lv) fs s
  refine sgm_at ?_
  simp only [hy]
  rw [Sem.bind_eq_wrap', Sem.bind_eq_wrap', Sem.wrap_wrap, Sem.wrap_wrap]
  refine sgm_wrap (wpAny_mono h (fun v s1 h1 => ?_) fun _ _ z => z)
  refine sgm_at (sgm_yield hfs hgd hfg fun p hq => h1 _ _ p hq fun Φ' s2 z => ?_)
  exact z
theorem sgm_while {test : Expr} {body : List Stmt} {pos : Pos}
    (h : ∀ p, SegP M A Φ (.whileLoop test body [] env) (M.den (.whileLoop test body [] env))
      (.ret (fun r => ((match r with | .ok f => (.pure f : Sem Flow) | .error e => .raise e).onRaise (cameBack env)).wrap K J gd lv) none (gd false) (lv []) c p [] :: fs) s) :
    SegP M A Φ c ((exec (.While test body [] pos) env).wrap K J gd lv) fs s := sgm_at (sgm_call h)
end
section
variable {prog : Program} {w : World} {A : Around} {Φ : End → Shared → Prop} {fs : List Frame} {s : Shared} {env : Env}
abbrev passOn (env : Env) : Value → Sem PySem.Fin := fun e => (do noteFrame e env; theTreesLotGoes e : Sem Unit).wrap (fun _ => .raise e) .raise id id
def turnEnd (test : Expr) (body : List Stmt) (env : Env) : Flow → Sem PySem.Fin := fun f => match f with
  | .next => .pure (.again (.whileLoop test body [] env))
  | .cont => .pure (.again (.whileLoop test body [] env))
  | .brk => .pure (.done .next)
  | .ret v => .pure (.done (.ret v))
theorem sgm_turn {test : Expr} {body : List Stmt}
    (h : wpAny (model prog w) (A.over (.whileLoop test body [] env) fs) (isTrue test env (eval test env)) (fun b s1 =>
        if b = true then SegP (model prog w) A Φ (.whileLoop test body [] env) ((execs body env).wrap (turnEnd test body env) (passOn env) id id) fs s1
        else SegP (model prog w) A Φ (.whileLoop test body [] env) (.pure (.done .next)) fs s1) (fun x s1 => SegP (model prog w) A Φ (.whileLoop test body [] env) (passOn env x) fs s1) s) :
    SegP (model prog w) A Φ (.whileLoop test body [] env) ((model prog w).den (.whileLoop test body [] env)) fs s := by
  show SegP _ A Φ _ ((whileTurn test body [] env).onRaise (fun x => do noteFrame x env; theTreesLotGoes x)) fs s
  unfold whileTurn
  rw [Sem.onRaise_eq_wrap, Sem.bind_eq_wrap', Sem.wrap_wrap]
  refine sgm_wrap (wpAny_mono h (fun b s1 hb => ?_) fun x s1 hx => ?_)
  · cases b with
    | false => exact hb
    | true =>
      have hb : SegP (model prog w) A Φ (.whileLoop test body [] env) ((execs body env).wrap (turnEnd test body env) (passOn env) id id) fs s1 := hb
      show SegP _ A Φ _ (Sem.wrap _ _ _ _ (if true = true then _ else _)) fs s1
      rw [if_pos rfl, Sem.bind_eq_wrap', Sem.wrap_wrap]
      have e := Sem.wrap_congr (execs body env) (K := fun a => Sem.wrap Sem.pure (fun e => (do noteFrame e env; theTreesLotGoes e : Sem Unit).bind fun _ => Sem.raise e) id id (match a with
          | .next => again (.whileLoop test body [] env)
          | .cont => again (.whileLoop test body [] env)
          | .brk => pure (PySem.Fin.done .next)
          | .ret v => pure (PySem.Fin.done (.ret v)))) (K' := turnEnd test body env) (H := fun e => Sem.wrap Sem.pure (fun e => (do noteFrame e env; theTreesLotGoes e : Sem Unit).bind fun _ => Sem.raise e) id id (Sem.raise e)) (H' := passOn env) id id (fun f => by cases f <;> rfl) (fun e => by
            show (do noteFrame e env; theTreesLotGoes e : Sem Unit).bind (fun _ => Sem.raise e) = _
            rw [Sem.bind_eq_wrap])
      first
        | (rw [← e] at hb; exact hb)
        | (rw [← e] at hb; refine (cast ?_ hb); congr 1; refine Sem.wrap_congr _ _ _ (fun f => ?_) fun x => rfl; cases f <;> rfl)
  · show SegP _ A Φ _ ((do noteFrame x env; theTreesLotGoes x : Sem Unit).bind fun _ => .raise x) fs s1
    rw [Sem.bind_eq_wrap]
    exact hx
/-- a def's end -/
def bodyEnd : Flow → Sem PySem.Fin := fun f => .pure (.done (.ret (match f with | .ret v => v | _ => .none)))
def bodyExc (env : Env) : Value → Sem PySem.Fin := fun e => (leaving env e).wrap (fun _ => .raise e) .raise id id
/-- a generator's whole body -/
theorem sgm_func {body : List Stmt} (h : SegP (model prog w) A Φ (.func body env) ((execs body env).wrap bodyEnd (bodyExc env) id id) fs s) : SegP (model prog w) A Φ (.func body env) ((model prog w).den (.func body env)) fs s := by
  show SegP _ A Φ _ (.point [] fun _ => ((execs body env).onRaise (leaving env)) >>= _) fs s
  refine sgm_wrap (m := point) (K := fun _ => ((execs body env).onRaise (leaving env)) >>= _) (J := .raise) (gd := id) (lv := fun _ => []) (wpAny_point ?_)
  rw [Sem.onRaise_eq_wrap, Sem.bind_eq_wrap', Sem.wrap_wrap, Sem.wrap_congr (execs body env) _ _ (K' := bodyEnd) (H' := bodyExc env) (fun f => by cases f <;> rfl) (fun e => by unfold bodyExc; rw [Sem.bind_eq_wrap, Sem.wrap_wrap]; rfl)]
  exact h
end
end RL

set_option Elab.async false
set_option linter.all false
set_option maxRecDepth 100000
set_option maxHeartbeats 4000000
/-! RLgo: the body of a generator def, stretch by stretch. At each waking the code is looked at in a new context, whose ground is what is older than the generator's frame. -/
namespace RL
open PySem PySem.Spec PyProof.Rows L2

/-! ### the older part of a heap -/
theorem cut_get {α : Type u} {a : Array α} {n b : Nat} : (a.extract 0 n)[b]? = if b < n then a[b]? else none := by
  rw [Array.getElem?_extract]
  simp only [Nat.zero_add, Nat.sub_zero]
  by_cases c : b < n
  · by_cases c2 : b < a.size
    · rw [if_pos (by omega), if_pos c]
    · rw [if_neg (by omega), if_pos c, Array.getElem?_eq_none (by omega)]
  · rw [if_neg (by omega), if_neg c]
def cutH (h : Heap) (n : Nat) : Heap := { h with objs := h.objs.extract 0 n }
theorem cutH_size {h : Heap} {n : Nat} (hn : n ≤ h.objs.size) : (cutH h n).objs.size = n := by
  show (h.objs.extract 0 n).size = n
  rw [Array.size_extract]
  omega
theorem cutH_get {h : Heap} {n : Nat} {b : Addr} {o : Obj} : (cutH h n).get? b = some o ↔ b < n ∧ h.get? b = some o := by
  have e : (cutH h n).objs[b]? = if b < n then h.objs[b]? else none := by
    exact cut_get
  unfold Heap.get?
  rw [e]
  by_cases c : b < n
  · rw [if_pos c]
    exact ⟨fun z => ⟨c, z⟩, fun z => z.2⟩
  · rw [if_neg c]
    exact ⟨fun z => (by cases z), fun z => absurd z.1 c⟩
/-- without the private things -/
def off (pv : List Addr) (H : Hp) : Hp := fun a => if a ∈ pv then none else H a
theorem off_in {pv : List Addr} {H : Hp} {a : Addr} (h : a ∈ pv) : off pv H a = none := if_pos h
theorem off_ne {pv : List Addr} {H : Hp} {a : Addr} (h : a ∉ pv) : off pv H a = H a := if_neg h
theorem off_some {pv : List Addr} {H : Hp} {a : Addr} {o : HO} (h : off pv H a = some o) : a ∉ pv ∧ H a = some o := by
  unfold off at h
  split at h
  · cases h
  · rename_i c
    exact ⟨c, h⟩
theorem off_nil {H : Hp} : off [] H = H := by
  funext a
  exact if_neg (by simp)

/-! ### a generator -/
structure GD where
  P : Program
  w : World
  K : PySem.W.Frag
  mg : Str → Option Value
  base : Heap
  N : List Str
  qual : Str
  scope : Scope
  f : Addr
  cd : Value
  A : Around
  outer : List Env
  L : Addr
abbrev GD.env (D : GD) : Env := envOfC D.qual D.scope D.L D.f D.cd
abbrev GD.M (D : GD) : Model := model D.P D.w
/-- the context of a stretch that begins at s -/
def GD.cx (D : GD) (s : Shared) (H : Hp) : Cx where
  prog := D.P
  w := D.w
  K := D.K
  mg := D.mg
  base := D.base
  A := D.A.deeper D.env
  N := D.N
  s_0 := s
  H_0 := H
  env := D.env
  outer := D.outer
  stack := D.env :: D.outer
  ex := []
  calm := true
  fn := fun _ => true
  pn := []
  xe := fun _ _ => False
/-- a waking: the state, what is tracked, what is to stay as it is, the generator's private lists -/
structure Om where
  s : Shared
  H : Hp
  pins : List (Addr × Obj)
  pv : List Addr
abbrev GD.X (D : GD) (ω : Om) : Cx := D.cx { ω.s with heap := cutH ω.s.heap D.L } ω.H
def Gin (D : GD) (ω : Om) (σ : L2.St) (H : Hp) (s : Shared) : Prop := Inv (D.X ω) ω.pins σ H s
/-- what a stretch has kept of what it found, and its private lists now -/
structure Frm (L : Addr) (ω : Om) (pv : List Addr) (H : Hp) : Prop where
  ex : Ex (off ω.pv ω.H) H
  lst : ∀ a ∈ pv, ∃ vs, H a = some (.lst vs)
  own : ∀ a ∈ pv, a ∈ ω.pv ∨ (ω.H a = none ∧ L ≤ a)
/-- woken: H as it fell asleep -/
structure Wk (pv : List Addr) (H : Hp) (ω : Om) : Prop where
  same : ω.pv = pv
  le : Le H ω.H
  own : ∀ a ∈ pv, ω.H a = H a
/-- what a stretch gives: the next item of rem; at the end nothing (if it ends) -/
def Gives (D : GD) (ends : Bool) : List Ty → Om → End → Shared → Prop
  | [], ω, e, s' => ends = false ∨ (e = .ret (.ok (.ret .none)) ∧ ∃ σ H pv, Gin D ω σ H s' ∧ Frm D.L ω pv H)
  | T :: rem, ω, e, s' => match e with
    | .ret _ => False
    | .susp v g l k c p fs => (End.susp v g l k c p fs).quiet = true ∧ ∃ x σ H pv, Gin D ω σ H s' ∧ Frm D.L ω pv H ∧ RelV x v ∧ T x H ∧
      ((rem ≠ [] ∨ ends = true) → ∀ ω' : Om, Gin D ω' σ ω'.H ω'.s → Wk pv H ω' → SegP D.M D.A (Gives D ends rem ω') c (k (.send .none)) fs ω'.s)

/-! ### statements of the body -/
structure Gpos (D : GD) (c : Code) (fs : List Frame) (gd : Bool → Bool) : Prop where
  over : D.A.over c fs = D.A.deeper D.env
  split : splitAtGen fs = none
  guard : fs.any Frame.guarded = false
  gd : gd false = false
abbrev GA' := List Ty → Om → L2.St → Hp → Prop
structure GE where
  nx : GA'
  bk : GA' := fun _ _ _ _ => False
  ct : GA' := fun _ _ _ _ => False
  rt : List Ty → Om → V → Hp → Prop := fun _ _ _ _ => False
def GE.at (E : GE) (rem : List Ty) (ω : Om) : Ends := { nx := E.nx rem ω, bk := E.bk rem ω, ct := E.ct rem ω, rt := E.rt rem ω }
def GK (D : GD) (ends : Bool) (E : GE) (c : Code) (fs : List Frame) (K : Flow → Sem PySem.Fin) : Prop := ∀ rem ω s f, SP (D.X ω) ω.pins (E.at rem ω) f s → SegP D.M D.A (Gives D ends rem ω) c (K f) fs s
structure YJ (D : GD) (ends : Bool) (m : Sem Flow) (Pre : GA') (E : GE) : Prop where
  run : ∀ (c : Code) (fs : List Frame) (K : Flow → Sem PySem.Fin) (J : Value → Sem PySem.Fin) (gd : Bool → Bool) (lv : List Value → List Value), Gpos D c fs gd → GK D ends E c fs K →
    ∀ rem ω σ H s, Gin D ω σ H s → Pre rem ω σ H → SegP D.M D.A (Gives D ends rem ω) c (m.wrap K J gd lv) fs s
section
variable {D : GD} {ends : Bool} {Pre Mid : GA'} {E : GE} {st : Stmt} {rest body : List Stmt}
theorem yj_st (h : ∀ rem ω σ H, Pre rem ω σ H → tS (D.X ω) st (E.at rem ω) σ H) : YJ D ends (exec st D.env) Pre E := ⟨fun c fs K J gd lv g k rem ω σ H s I p => by
  refine sgm_wrap ?_
  rw [g.over]
  exact wpAny_mono ((h rem ω σ H p).run ω.pins s I) (fun f s1 hs => k rem ω s1 f hs) fun _ _ z => False.elim z⟩
theorem yj_plain (h : ∀ rem ω σ H, Pre rem ω σ H → tB (D.X ω) rest (E.at rem ω) σ H) : YJ D ends (execs rest D.env) Pre E := ⟨fun c fs K J gd lv g k rem ω σ H s I p => by
  refine sgm_wrap ?_
  rw [g.over]
  exact wpAny_mono ((h rem ω σ H p).run ω.pins s I) (fun f s1 hs => k rem ω s1 f hs) fun _ _ z => False.elim z⟩
theorem yj_cons (a : YJ D ends (exec st D.env) Pre { E with nx := Mid }) (b : YJ D ends (execs rest D.env) Mid E) : YJ D ends (execs (st :: rest) D.env) Pre E := ⟨fun c fs K J gd lv g k rem ω σ H s I p => by
  refine sgm_cons (a.run c fs _ J gd lv g (fun rem ω s f hs => ?_) rem ω σ H s I p)
  cases f with
  | next =>
    obtain ⟨σ1, H1, I1, q⟩ := hs
    exact b.run c fs K J gd lv g k rem ω σ1 H1 s I1 q
  | brk => exact k rem ω s .brk hs
  | cont => exact k rem ω s .cont hs
  | ret u => exact k rem ω s (.ret u) hs⟩
theorem yj_nil (h : ∀ rem ω σ H, Pre rem ω σ H → E.nx rem ω σ H) : YJ D ends (execs [] D.env) Pre E := yj_plain fun rem ω σ H p => toB pss_nil (h rem ω σ H p)
/-- yield e -/
theorem yj_yield {e : Expr} {yp pos : Pos} (hco : D.scope.isCoroutine = false) (hi : interactive D.env = false)
    (h : ∀ rem ω σ H, Pre rem ω σ H → tE (D.X ω) e σ H fun x H1 => ∃ T rem' pv, rem = T :: rem' ∧ T x H1 ∧ Frm D.L ω pv H1 ∧ ((rem' ≠ [] ∨ ends = true) → ∀ ω', Wk pv H1 ω' → E.nx rem' ω' σ ω'.H)) :
    YJ D ends (exec (.Expr (.Yield (some e) yp) pos) D.env) Pre E := ⟨fun c fs K J gd lv g k rem ω σ H s I p => by
  refine sgm_exprYield g.split g.gd g.guard hco hi ?_
  rw [g.over]
  refine wpAny_mono ((h rem ω σ H p).run ω.pins s I) (fun v s1 hv l kk p1 hq hk => ?_) fun _ _ z => False.elim z
  obtain ⟨x, H1, I1, rv, T, rem', pv, rfl, hx, hf, hn⟩ := hv
  exact ⟨hq, x, σ, H1, pv, I1, hf, rv, hx, fun hr ω' I' wk => hk _ _ (k rem' ω' ω'.s .next ⟨σ, ω'.H, I', hn hr ω' wk⟩)⟩⟩
theorem gc_in {c c' : Code} {fs : List Frame} {gd : Bool → Bool} {k : Result → Sem PySem.Fin} {l kp : List Value} {p : Pos} (g : Gpos D c fs gd) (hw : c'.weight = 0) (hu : c'.cUnits = 0) : Gpos D c' (.ret k none (gd false) l c p kp :: fs) id where
  over := (GenW.over_loop hw hu).trans g.over
  split := noGen_ret g.split
  guard := by
    show (gd false || fs.any Frame.guarded) = false
    rw [g.gd, g.guard]
    rfl
  gd := rfl
/-- while -/
theorem yj_while {test : Expr} {pos : Pos} (W : Nat → GA') (Tr : Nat → GA') (h0 : ∀ rem ω σ H, Pre rem ω σ H → ∃ m, W m rem ω σ H)
    (ht : ∀ m rem ω σ H, W m rem ω σ H → tT (D.X ω) test σ H fun b H1 => if b = true then Tr m rem ω σ H1 else E.nx rem ω σ H1)
    (hb : ∀ m, YJ D ends (execs body D.env) (Tr m) { nx := fun rem ω σ H => ∃ m', m' < m ∧ W m' rem ω σ H, ct := fun rem ω σ H => ∃ m', m' < m ∧ W m' rem ω σ H, bk := E.nx, rt := E.rt }) :
    YJ D ends (exec (.While test body [] pos) D.env) Pre E := ⟨fun c fs K J gd lv g k rem ω σ H s I p => by
  obtain ⟨m0, w0⟩ := h0 rem ω σ H p
  refine sgm_while fun p1 => ?_
  have gl := fun (kk : Result → Sem PySem.Fin) => gc_in (k := kk) (c' := .whileLoop test body [] D.env) (l := lv []) (kp := []) (p := p1) g rfl rfl
  have loop : ∀ (m : Nat) (rem : List Ty) (ω : Om) (σ : L2.St) (H : Hp) (s : Shared), W m rem ω σ H → Gin D ω σ H s → SegP D.M D.A (Gives D ends rem ω) (.whileLoop test body [] D.env) (D.M.den (.whileLoop test body [] D.env))
      (.ret (fun r => ((match r with | .ok f => (.pure f : Sem Flow) | .error e => .raise e).onRaise (cameBack D.env)).wrap K J gd lv) none (gd false) (lv []) c p1 [] :: fs) s := by
    intro m
    induction m using Nat.strongRecOn with
    | ind m ih =>
      intro rem ω σ H s w I
      refine sgm_turn ?_
      rw [(gl _).over]
      refine wpAny_mono ((ht m rem ω σ H w).run ω.pins s I) (fun b s1 hb1 => ?_) fun _ _ z => False.elim z
      obtain ⟨H1, I1, q⟩ := hb1
      cases b with
      | false =>
        rw [if_neg Bool.false_ne_true] at q ⊢
        exact sgm_leaf (.ok .next) (k rem ω s1 .next ⟨σ, H1, I1, q⟩)
      | true =>
        rw [if_pos rfl] at q ⊢
        refine (hb m).run _ _ _ _ id id (gl _) (fun rem ω s2 f hs => ?_) rem ω σ H1 s1 I1 q
        cases f with
        | next =>
          obtain ⟨σ2, H2, I2, m', hm, w2⟩ := hs
          exact sgm_again rfl (ih m' hm rem ω σ2 H2 s2 w2 I2)
        | cont =>
          obtain ⟨σ2, H2, I2, m', hm, w2⟩ := hs
          exact sgm_again rfl (ih m' hm rem ω σ2 H2 s2 w2 I2)
        | brk => exact sgm_leaf (.ok .next) (k rem ω s2 .next hs)
        | ret u => exact sgm_leaf (.ok (.ret u)) (k rem ω s2 (.ret u) hs)
  exact loop m0 rem ω σ H s w0 I⟩
end
end RL

set_option Elab.async false
set_option linter.all false
set_option maxRecDepth 100000
set_option maxHeartbeats 4000000
/-! RLnx: a sleeping generator's next item, seen from the def that walks it -/
namespace RL
open PySem PySem.Spec PyProof.Rows L2

/-- a generator that the code of X wakes -/
abbrev gdOf (X : Cx) (N : List Str) (qual : Str) (scope : Scope) (f : Addr) (cd : Value) (L : Addr) : GD := ⟨X.prog, X.w, X.K, X.mg, X.base, N, qual, scope, f, cd, X.A.in1, X.stack, L⟩
/-- no cells, no captured names -/
structure NoCells (D : GD) : Prop where
  kind : D.scope.kind = .function
  co : D.scope.isCoroutine = false
  own : ∀ y ∈ D.scope.names, y.2 ≠ .cell ∧ y.2 ≠ .free
theorem cellsFrom_none : ∀ (l : List (Str × NameKind)) (n : Nat) (acc : List (Str × Addr)), (∀ y ∈ l, y.2 ≠ .cell ∧ y.2 ≠ .free) → cellsFrom n l acc = acc := by
  intro l
  induction l with
  | nil => intro n acc _; rfl
  | cons y l ih =>
    intro n acc h
    obtain ⟨x, k⟩ := y
    have h1 := h (x, k) List.mem_cons_self
    have h2 := ih n acc fun z hz => h z (List.mem_cons_of_mem _ hz)
    cases k <;> first | exact h2 | exact absurd rfl h1.1 | exact absurd rfl h1.2
theorem NoCells.cells {D : GD} (h : NoCells D) (x : Str) : D.env.cells.lookup x = Option.none := by
  show (cellsFrom (D.L + 1) D.scope.names []).lookup x = none
  rw [cellsFrom_none _ _ _ h.own]
  rfl
/-- asleep with these private things, at H, s -/
structure Sleeps (D : GD) (ends : Bool) (rem : List Ty) (pv : List Addr) (σ : L2.St) (H : Hp) (s : Shared) (gs : GenState) : Prop where
  inv : ∃ ω, Gin D ω σ H s
  lst : ∀ a ∈ pv, (∃ vs, H a = some (.lst vs)) ∧ D.L ≤ a
  go : (rem ≠ [] ∨ ends = true) → ∀ ω' : Om, Gin D ω' σ ω'.H ω'.s → Wk pv H ω' → GoesP D.M D.A (Gives D ends rem ω') gs ω'.s
/-- .. and now: Hy, sy when it fell asleep -/
structure Asl (X : Cx) (pins : List (Addr × Obj)) (D : GD) (ga g : Nat) (pv : List Addr) (Hy : Hp) (sy : Shared) (H : Hp) (s : Shared) : Prop where
  obj : ∀ b, b = D.L ∨ b ∈ pv → ∀ o, sy.heap.get? b = some o → s.heap.get? b = some o
  gen : s.heap.IsGen ga g
  le : Le (off pv Hy) H
  fp : ∀ b, b = D.L ∨ b = ga ∨ b ∈ pv → FpOk X pins H b
  ga : D.L < ga ∧ ga ∉ pv
/-- where the walking code stands -/
structure Nest (X : Cx) (D : GD) (H : Hp) (s : Shared) : Prop where
  fr : ∀ b ∈ frs X.stack, b < D.L
  cel : ∀ x c, X.env.cells.lookup x = some c → c < D.L
  old : X.base.objs.size ≤ D.L
  mid : ∀ b, D.L ≤ b → b < X.s_0.heap.objs.size → b ∈ X.ex ∨ H b ≠ none
  sz : D.L < s.heap.objs.size
/-- what is tracked while it runs -/
def merge (pv : List Addr) (Hy H : Hp) : Hp := fun a => if a ∈ pv then Hy a else H a
theorem merge_in {pv : List Addr} {Hy H : Hp} {a : Addr} (h : a ∈ pv) : merge pv Hy H a = Hy a := if_pos h
theorem merge_ne {pv : List Addr} {Hy H : Hp} {a : Addr} (h : a ∉ pv) : merge pv Hy H a = H a := if_neg h
section
variable {X : Cx} {N : List Str} {qual : Str} {scope : Scope} {f : Addr} {cd : Value} {L : Addr} {pins : List (Addr × Obj)} {σc σ : L2.St} {H Hy : Hp} {s sy : Shared} {ga g : Nat} {pv : List Addr}
theorem off_merge (A : ∀ b ∈ pv, H b = none) : off pv (merge pv Hy H) = H := by
  funext a
  by_cases c : a ∈ pv
  · rw [off_in c, A a c]
  · rw [off_ne c, merge_ne c]
theorem le_merge (pl : ∀ a ∈ pv, ∃ vs, Hy a = some (.lst vs)) (A : Le (off pv Hy) H) (hn : ∀ b ∈ pv, H b = none) : Le Hy (merge pv Hy H) := by
  refine ⟨fun a o nu h n => ?_, fun p q hq t => ?_⟩
  · by_cases c : a ∈ pv
    · rw [merge_in c]; exact h
    · rw [merge_ne c]; exact A.sm a o nu (by rw [off_ne c]; exact h) n
  · have hp : ∀ {b : Addr} {u : HO}, Hy b = some u → (∀ vs, u ≠ .lst vs) → b ∉ pv := fun {b u} e nl hb => by
      obtain ⟨vs, z⟩ := pl b hb
      rw [e] at z
      exact nl vs (Option.some.inj z)
    have t1 : LamX.TabS (off pv Hy) p q := by
      obtain ⟨ps, h1, h2, h3⟩ := t
      refine ⟨ps, by rw [off_ne (hp h1 fun _ z => by cases z)]; exact h1, h2, fun pos cv hc => ?_⟩
      obtain ⟨c, e1, e2⟩ := h3 pos cv hc
      have nl : ∀ vs, LamX.CodeO c q ≠ .lst vs := fun vs z => by
        have z' : HO.ext _ = HO.lst vs := z
        cases z'
      exact ⟨c, e1, by rw [off_ne (hp e2 nl)]; exact e2⟩
    obtain ⟨ps, h1, h2, h3⟩ := A.tab p q hq t1
    have hq1 : ∀ {b : Addr} {u : HO}, H b = some u → b ∉ pv := fun {b u} e hb => by
      rw [hn b hb] at e; cases e
    refine ⟨ps, by rw [merge_ne (hq1 h1)]; exact h1, h2, fun pos cv hc => ?_⟩
    obtain ⟨c, e1, e2⟩ := h3 pos cv hc
    exact ⟨c, e1, by rw [merge_ne (hq1 e2)]; exact e2⟩
/-- its pins: itself, what the walking code has pinned, that code's frame if it is younger -/
def pinsOf (X : Cx) (pins : List (Addr × Obj)) (L ga : Nat) (h : Heap) : List (Addr × Obj) := pinsAt (ga :: (if L ≤ X.env.locals then [X.env.locals] else [])) h ++ (X.pn ++ pins)
/-- it can be woken -/
theorem wakes_ok (I : Inv X pins σc H s) (nc : NoCells (gdOf X N qual scope f cd L)) (A : Asl X pins (gdOf X N qual scope f cd L) ga g pv Hy sy H s) (n : Nest X (gdOf X N qual scope f cd L) H s) {ω : Om} (J : Gin (gdOf X N qual scope f cd L) ω σ Hy sy)
    (pl : ∀ a ∈ pv, (∃ vs, Hy a = some (.lst vs)) ∧ L ≤ a) {G : Array GenState} (hG : AllBare G) :
    Gin (gdOf X N qual scope f cd L) ⟨{ s with gens := G }, merge pv Hy H, pinsOf X pins L ga s.heap, pv⟩ σ (merge pv Hy H) { s with gens := G } := by
  have hpv : ∀ b ∈ pv, H b = none := fun b hb => (A.fp b (.inr (.inr hb))).1
  have nL : L ∉ pv := fun hb => by
    obtain ⟨⟨vs, e⟩, _⟩ := pl L hb
    have z : Hy L = none := J.free
    rw [e] at z; cases z
  have below : ∀ {b : Addr}, b < L → b ∉ pv := fun {b} h hb => Nat.lt_irrefl _ (Nat.lt_of_lt_of_le h (pl b hb).2)
  have hsz : L ≤ s.heap.objs.size := Nat.le_of_lt n.sz
  have hL := A.fp L (.inl rfl)
  have noc : ∀ {x : Str} {c : Addr}, (gdOf X N qual scope f cd L).env.cells.lookup x = some c → False := fun {x c} e => by
    have z := nc.cells x
    rw [e] at z
    cases z
  have cut : ∀ {b : Addr} {o : Obj}, b < L → s.heap.get? b = some o → (cutH s.heap L).get? b = some o := fun {b o} h e => cutH_get.mpr ⟨h, e⟩
  refine ⟨⟨I.ok.mod, nc.kind, rfl, rfl, ?_, J.ok.inj, J.ok.has, fun x c _ e => ?_, J.ok.hd, Around.frames_deeper (A := X.A.in1) I.ok.frames, .inr ⟨rfl, rfl⟩, fun b hb => absurd (show b ∈ ([] : List Addr) from hb) (by simp), fun b o e => ?_, ?_, fun b o _ hb => absurd (show b ∈ ([] : List Addr) from hb) (by simp), fun b hb => absurd (show b ∈ ([] : List Addr) from hb) (by simp), ?_, fun b hb => ?_⟩, rfl, hG, Un.kept fun b o e => (cutH_get.mp e).2, ?_, fun x c e => ?_, ?_, fun x c e => ?_, fun p hp => ?_, ?_, J.len⟩
  · show (cutH s.heap L).objs.size ≤ L
    exact Nat.le_of_eq (cutH_size hsz)
  · exact (noc e).elim
  · obtain ⟨e1, e2⟩ := I.bs b o e
    have hb : b < L := Nat.lt_of_lt_of_le (Heap.lt_size e) n.old
    exact ⟨cut hb e1, (merge_ne (below hb)).trans e2⟩
  · show X.base.objs.size ≤ (cutH s.heap L).objs.size
    rw [cutH_size hsz]
    exact n.old
  · show (cutH s.heap L).FunFrames X.base X.stack
    have all : ∀ (l : List Env), (∀ b ∈ frs l, b < L) → s.heap.FunFrames X.base l → (cutH s.heap L).FunFrames X.base l := by
      intro l
      induction l with
      | nil => intro _ _; trivial
      | cons env r ih =>
        intro hs hl
        obtain ⟨hk, ⟨b, o, hf, hn, ho, hd⟩, hr⟩ := hl
        have hb : b < L := hs b (by unfold frs; rw [List.filterMap_cons, hf]; exact List.mem_cons_self)
        exact ⟨hk, ⟨b, o, hf, hn, cut hb ho, hd⟩, ih (fun b hb => hs b (by unfold frs; rw [List.filterMap_cons, hf]; exact List.mem_cons_of_mem _ hb)) hr⟩
    exact all X.stack n.fr I.stack
  · exact (merge_ne (below (n.fr b hb))).trans (I.stkFree b hb)
  · obtain ⟨m, hn, hl⟩ := J.loc
    refine ⟨m, hn.at fun o e => A.obj L (.inl rfl) o e, fun i x v e1 e2 e3 => ?_⟩
    obtain ⟨u, r, l⟩ := hl i x v e1 e2 e3
    refine ⟨u, r, ?_⟩
    rcases l with l | ⟨_, c, e, _⟩
    · exact .inl l
    · exact (noc e).elim
  · exact (noc e).elim
  · exact (merge_ne nL).trans hL.1
  · exact (noc e).elim
  · have notin : ∀ {b : Addr}, H b = none → b ∉ pv → merge pv Hy H b = none := fun {b} h hb => (merge_ne hb).trans h
    rcases List.mem_append.mp (show p ∈ [] ++ pinsOf X pins L ga s.heap from hp) with hp | hp
    · cases hp
    rcases List.mem_append.mp hp with hp | hp
    · obtain ⟨hb, e⟩ := of_pinsAt hp
      rcases List.mem_cons.mp hb with hb | hb
      · obtain ⟨f0, f1, f2, f3, f4, f5⟩ := A.fp ga (.inr (.inl rfl))
        obtain ⟨o, nm, qn, ho, hc, hd, _⟩ := A.gen
        rw [hb] at e ⊢
        rw [ho] at e
        refine ⟨by rw [← e]; exact ho, notin f0 A.ga.2, Nat.ne_of_gt A.ga.1, fun hm => ?_, fun v z => ?_⟩
        · exact absurd (Nat.lt_trans (n.fr ga hm) A.ga.1) (Nat.lt_irrefl _)
        · rw [← Option.some.inj e, hd] at z
          cases z
      · split at hb
        · rename_i hLl
          rw [List.mem_singleton.mp hb] at e ⊢
          obtain ⟨m, ⟨o, es, ep, ho, hd, _⟩, _⟩ := I.loc
          rw [ho] at e
          refine ⟨by rw [← e]; exact ho, notin I.free fun hm => ?_, fun z => ?_, fun hm => ?_, fun v z => ?_⟩
          · exact (A.fp _ (.inr (.inr hm))).2.1 rfl
          · exact hL.2.1 z.symm
          · exact absurd (Nat.lt_of_lt_of_le (n.fr _ hm) hLl) (Nat.lt_irrefl _)
          · rw [← Option.some.inj e, hd] at z
            cases z
        · cases hb
    · obtain ⟨e, h0, h1, h2, h3⟩ := I.pin p hp
      refine ⟨e, notin h0 fun hm => ?_, hL.2.2.2.2.2 p hp, fun hm => ?_, h3⟩
      · exact (A.fp _ (.inr (.inr hm))).2.2.2.2.2 p hp rfl
      · rcases List.mem_cons.mp (I.stkSub _ hm) with z | z
        · exact h1 z
        · exact h2 z
  · intro b u e
    by_cases c : b ∈ pv
    · obtain ⟨⟨vs, hb⟩, _⟩ := pl b c
      rw [merge_in c, hb] at e
      cases e
      obtain ⟨hz, its, k, rv, eo⟩ := J.hok b _ hb
      exact ⟨hz, its, k, rv, A.obj b (.inr c) _ eo⟩
    · rw [merge_ne c] at e
      have own : ∀ {b' u'}, H b' = some u' → merge pv Hy H b' = some u' := fun {b' u'} z => by
        refine (merge_ne fun hb => ?_).trans z
        rw [hpv b' hb] at z; cases z
      exact (I.hok b u e).stay (fun _ _ _ z => z) (fun _ z => own z) fun _ _ z => own z
theorem there_of {P : Program} {w : World} {H : Hp} {h : Heap} {a : Addr} {u : HO} (x : ObjOk P w H h a u) : ∃ o, h.get? a = some o := by
  cases u with
  | lst xs => obtain ⟨_, _, _, _, e⟩ := x; exact ⟨_, e⟩
  | tup xs => obtain ⟨_, _, _, o, e, _⟩ := x; exact ⟨o, e⟩
  | dK kvs => obtain ⟨_, _, _, _, o, _, _, e, _⟩ := x; exact ⟨o, e⟩
  | dT kvs => obtain ⟨_, _, _, _, o, _, _, e, _⟩ := x; exact ⟨o, e⟩
  | set S n => obtain ⟨o, _, _, _, e, _⟩ := x; exact ⟨o, e⟩
  | ins C dx fs => obtain ⟨_, _, _, e, _⟩ := x; exact ⟨_, e⟩
  | own y => exact x
  | xd fs => obtain ⟨_, ⟨o, _, _, e, _⟩, _⟩ := x; exact ⟨o, e⟩
  | rng lo hi => obtain ⟨_, _, _, e⟩ := x; exact ⟨_, e⟩
  | frz ob u => exact ⟨ob, x.1⟩
  | tbl ps => exact ⟨_, x⟩
  | met f y => exact ⟨_, x⟩
  | ext φ => exact x.2.1
/-- what a stretch has left, seen from the walking code -/
theorem back_ok (I : Inv X pins σc H s) (A : Asl X pins (gdOf X N qual scope f cd L) ga g pv Hy sy H s) (n : Nest X (gdOf X N qual scope f cd L) H s)
    (pl : ∀ a ∈ pv, (∃ vs, Hy a = some (.lst vs)) ∧ L ≤ a) {G : Array GenState} {H1 : Hp} {s1 : Shared} {pv1 : List Addr}
    (J : Gin (gdOf X N qual scope f cd L) ⟨{ s with gens := G }, merge pv Hy H, pinsOf X pins L ga s.heap, pv⟩ σ H1 s1) (F : Frm L ⟨{ s with gens := G }, merge pv Hy H, pinsOf X pins L ga s.heap, pv⟩ pv1 H1) :
    Inv X pins σc (off pv1 H1) s1 ∧ Ex H (off pv1 H1) ∧ (∀ b, b = L ∨ b = ga ∨ b ∈ pv1 → FpOk X pins (off pv1 H1) b) ∧ s1.heap.IsGen ga g ∧ (∀ a ∈ pv1, (∃ vs, H1 a = some (.lst vs)) ∧ L ≤ a) ∧ ga ∉ pv1 ∧ Nest X (gdOf X N qual scope f cd L) (off pv1 H1) s1 := by
  have hpv : ∀ b ∈ pv, H b = none := fun b hb => (A.fp b (.inr (.inr hb))).1
  have Fex : Ex H H1 := by
    have z := F.ex
    rw [show off _ _ = H from off_merge hpv] at z
    exact z
  have nofree : ∀ {b : Addr} {u : HO}, H b = some u → b ∉ pv1 := fun {b u} e hb => by
    rcases F.own b hb with z | ⟨z, _⟩
    · rw [hpv b z] at e; cases e
    · by_cases c : b ∈ pv
      · rw [hpv b c] at e; cases e
      · have z' : merge pv Hy H b = none := z
        rw [merge_ne c, e] at z'
        cases z'
  have ge : ∀ b ∈ pv1, L ≤ b := fun b hb => by
    rcases F.own b hb with z | ⟨_, z⟩
    · exact (pl b z).2
    · exact z
  have EX : Ex H (off pv1 H1) := by
    refine ⟨fun a o h k => ?_, fun a h => ?_, fun p q hq t => ?_⟩
    · rw [off_ne (nofree h)]
      exact Fex.sm a o h k
    · cases q : H a with
      | none => rfl
      | some u =>
        rw [off_ne (nofree q)] at h
        have := Fex.dom a h
        rw [q] at this
        cases this
    · obtain ⟨ps, h1, h2, h3⟩ := t
      obtain ⟨ps', k1, k2, k3⟩ := Fex.tab p q hq ⟨ps, h1, h2, h3⟩
      refine ⟨ps', by rw [off_ne (nofree h1)]; exact k1, k2, fun pos cv hc => ?_⟩
      obtain ⟨c, e1, e2⟩ := k3 pos cv hc
      refine ⟨c, e1, ?_⟩
      rw [off_ne fun hb => ?_]
      · exact e2
      · obtain ⟨vs, z⟩ := F.lst c hb
        rw [e2] at z
        have z' : HO.ext _ = HO.lst vs := Option.some.inj z
        cases z'
  have pin : ∀ {b : Addr} {o : Obj}, (b, o) ∈ pinsOf X pins L ga s.heap → s1.heap.get? b = some o ∧ H1 b = none := fun {b o} hb => by
    obtain ⟨e, h0, _⟩ := J.pin (b, o) (List.mem_append_right _ hb)
    exact ⟨e, h0⟩
  have pinGa : ∀ {o : Obj}, s.heap.get? ga = some o → s1.heap.get? ga = some o ∧ H1 ga = none := fun {o} e => pin (List.mem_append_left _ (mem_pinsAt List.mem_cons_self e))
  have pinLoc : ∀ {o : Obj}, L ≤ X.env.locals → s.heap.get? X.env.locals = some o → s1.heap.get? X.env.locals = some o ∧ H1 X.env.locals = none := fun {o} hl e => pin (List.mem_append_left _ (mem_pinsAt (by rw [if_pos hl]; exact List.mem_cons_of_mem _ (List.mem_singleton.mpr rfl)) e))
  have pinP : ∀ p ∈ X.pn ++ pins, s1.heap.get? p.1 = some p.2 ∧ H1 p.1 = none := fun p hp => pin (b := p.1) (o := p.2) (List.mem_append_right _ hp)
  have hsz : L ≤ s.heap.objs.size := Nat.le_of_lt n.sz
  have cut : ∀ {b : Addr} {o : Obj}, b < L → s.heap.get? b = some o → (cutH s.heap L).get? b = some o := fun {b o} h e => cutH_get.mpr ⟨h, e⟩
  have below : ∀ {b : Addr}, b < L → b ∉ pv := fun {b} h hb => Nat.lt_irrefl _ (Nat.lt_of_lt_of_le h (pl b hb).2)
  have hno : ∀ {b : Addr}, b ∉ ([] : List Addr) := fun {b} => by simp
  have lowNone : ∀ {b : Addr} {o : Obj}, b < L → s.heap.get? b = some o → H b = none → H1 b = none := fun {b o} hb e h => J.base.free b o (cut hb e) ((merge_ne (below hb)).trans h) hno
  have offNone : ∀ {b : Addr}, H1 b = none → off pv1 H1 b = none := fun {b} h => by
    by_cases c : b ∈ pv1
    · exact off_in c
    · rw [off_ne c]; exact h
  -- what may have changed
  let bad : Addr → Bool := fun b => decide (L ≤ b) && decide (b ≠ X.env.locals) && !(X.pn ++ pins).any fun p => decide (p.1 = b)
  let ch : List Addr := (List.range s.heap.objs.size).filter fun b => bad b && (H b).isNone
  have inCh : ∀ {b : Addr} {o : Obj}, s.heap.get? b = some o → H b = none → b ∉ ch → b < L ∨ b = X.env.locals ∨ ∃ p ∈ X.pn ++ pins, p.1 = b := fun {b o} e h hb => by
    by_cases c1 : b < L
    · exact .inl c1
    · by_cases c2 : b = X.env.locals
      · exact .inr (.inl c2)
      · refine .inr (.inr ?_)
        have : ¬ ((bad b && (H b).isNone) = true) := fun z => hb (List.mem_filter.mpr ⟨List.mem_range.mpr (Heap.lt_size e), z⟩)
        simp only [bad, h, Option.isNone_none, Bool.and_true, Bool.and_eq_true, decide_eq_true_eq, Bool.not_eq_true', not_and, Bool.not_eq_false, List.any_eq_true] at this
        exact this ⟨Nat.le_of_not_lt c1, c2⟩
  have ofCh : ∀ {b : Addr}, b ∈ ch → L ≤ b ∧ b ≠ X.env.locals ∧ (∀ p ∈ X.pn ++ pins, p.1 ≠ b) ∧ H b = none := fun {b} hb => by
    have z := (List.mem_filter.mp hb).2
    simp only [bad, Bool.and_eq_true, decide_eq_true_eq, Bool.not_eq_true', List.any_eq_false, Option.isNone_iff_eq_none] at z
    exact ⟨z.1.1.1, z.1.1.2, z.1.2, z.2⟩
  have locKept : ∀ {o : Obj}, s.heap.get? X.env.locals = some o → X.env.locals ∉ frs X.stack → s1.heap.get? X.env.locals = some o := fun {o} e hf => by
    by_cases c : L ≤ X.env.locals
    · exact (pinLoc c e).1
    · exact J.base.keep _ o (cut (Nat.lt_of_not_le c) e) ((merge_ne (below (Nat.lt_of_not_le c))).trans I.free) hf hno
  have locNone : H1 X.env.locals = none := by
    obtain ⟨m, ⟨o, es, ep, ho, _⟩, _⟩ := I.loc
    by_cases c : L ≤ X.env.locals
    · exact (pinLoc c ho).2
    · exact lowNone (Nat.lt_of_not_le c) ho I.free
  have U : Un (frs X.stack) ch H (off pv1 H1) s.heap s1.heap := by
    refine ⟨fun b o e h hf hb => ?_, fun b o e h hf hb => ?_, fun b o e h hb => ?_, fun b o e hb => ?_, fun b xs e => EX.sm b _ e, fun b o u e => EX.sm b _ e, fun b ps e => ?_⟩
    · rcases inCh e h hb with c | c | ⟨p, hp, c⟩
      · exact J.base.keep b o (cut c e) ((merge_ne (below c)).trans h) hf hno
      · subst c; exact locKept e hf
      · subst c
        have e1 := (I.pin p hp).1
        rw [e] at e1
        rw [Option.some.inj e1]
        exact (pinP p hp).1
    · exact J.base.slot b o (cut (n.fr b hf) e) ((merge_ne (below (n.fr b hf))).trans h) hf hno
    · rcases inCh e h hb with c | c | ⟨p, hp, c⟩
      · exact offNone (lowNone c e h)
      · subst c; exact offNone locNone
      · subst c; exact offNone (pinP p hp).2
    · cases q : H b with
      | some u =>
        have hd : (off pv1 H1) b ≠ none := fun z => by
          have := EX.dom b z
          rw [q] at this; cases this
        cases r : off pv1 H1 b with
        | none => exact absurd r hd
        | some v =>
          obtain ⟨_, r1⟩ := off_some r
          exact there_of (J.hok b v r1)
      | none =>
        rcases inCh e q hb with c | c | ⟨p, hp, c⟩
        · by_cases hf : b ∈ frs X.stack
          · obtain ⟨sl, z⟩ := J.base.slot b o (cut c e) ((merge_ne (below c)).trans q) hf hno
            exact ⟨_, z⟩
          · exact ⟨o, J.base.keep b o (cut c e) ((merge_ne (below c)).trans q) hf hno⟩
        · subst c
          by_cases hf : X.env.locals ∈ frs X.stack
          · obtain ⟨sl, z⟩ := J.base.slot _ o (cut (n.fr _ hf) e) ((merge_ne (below (n.fr _ hf))).trans q) hf hno
            exact ⟨_, z⟩
          · exact ⟨o, locKept e hf⟩
        · subst c
          exact ⟨_, (pinP p hp).1⟩
    · have c : b ∉ pv := fun hb => by rw [hpv b hb] at e; cases e
      obtain ⟨more, z⟩ := J.base.tbls b ps ((merge_ne c).trans e)
      exact ⟨more, by rw [off_ne (nofree e)]; exact z⟩
  have hok : HOk X.prog X.w (off pv1 H1) s1.heap := fun b u e => by
    obtain ⟨hb, e1⟩ := off_some e
    have own : ∀ {c : Addr} {v : HO}, H1 c = some v → (∀ vs, v ≠ .lst vs) → off pv1 H1 c = some v := fun {c v} z nl => by
      rw [off_ne fun hc => ?_]
      · exact z
      · obtain ⟨vs, y⟩ := F.lst c hc
        rw [z] at y
        exact nl vs (Option.some.inj y)
    exact (J.hok b u e1).stay (fun _ _ _ z => z) (fun _ z => own z fun _ y => by cases y) fun _ _ z => own z fun _ y => by cases y
  have inv : Inv X pins σc (off pv1 H1) s1 := I.call' J.os U hok J.bare fun b hb => by
    obtain ⟨h1, h2, h3, h4⟩ := ofCh hb
    refine ⟨?_, h2, fun x c e z => ?_, h3⟩
    · by_cases c : b < X.s_0.heap.objs.size
      · rcases n.mid b h1 c with z | z
        · exact .inl z
        · exact absurd h4 z
      · exact .inr (Nat.le_of_not_lt c)
    · exact absurd (Nat.lt_of_lt_of_le (n.cel x c e) (by rw [z]; exact h1)) (Nat.lt_irrefl _)
  have hga : H1 ga = none := by
    obtain ⟨o, nm, qn, ho, _⟩ := A.gen
    exact (pinGa ho).2
  refine ⟨inv, EX, fun b hb => ?_, ?_, fun a ha => ⟨F.lst a ha, ge a ha⟩, fun hm => ?_, n.fr, n.cel, n.old, fun b h1 h2 => ?_, ?_⟩
  · rcases hb with hb | hb | hb
    · have z := A.fp b (.inl hb)
      subst hb
      exact ⟨offNone J.free, z.2⟩
    · have z := A.fp b (.inr (.inl hb))
      subst hb
      exact ⟨offNone hga, z.2⟩
    · by_cases c : b ∈ pv
      · exact ⟨off_in hb, (A.fp b (.inr (.inr c))).2⟩
      · obtain ⟨vs, hl⟩ := F.lst b hb
        have hLb := ge b hb
        have hH : H b = none := by
          rcases F.own b hb with z | ⟨z, _⟩
          · exact absurd z c
          · have z' : merge pv Hy H b = none := z
            rw [merge_ne c] at z'
            exact z'
        refine ⟨off_in hb, fun z => ?_, fun z => ?_, ?_, fun x k e z => ?_, fun p hp z => ?_⟩
        · rw [z, locNone] at hl; cases hl
        · rcases I.ok.stk with e | ⟨e, _⟩
          · exact absurd (Nat.lt_of_lt_of_le (n.fr b (by rw [e]; exact z)) hLb) (Nat.lt_irrefl _)
          · exact absurd (Nat.lt_of_lt_of_le (n.fr b (by rw [e]; unfold frs; rw [List.filterMap_cons]; split <;> first | exact z | exact List.mem_cons_of_mem _ z)) hLb) (Nat.lt_irrefl _)
        · by_cases k : b < X.s_0.heap.objs.size
          · rcases n.mid b hLb k with z | z
            · exact .inl z
            · exact absurd hH z
          · exact .inr (Nat.le_of_not_lt k)
        · exact absurd (Nat.lt_of_lt_of_le (n.cel x k e) (by rw [z]; exact hLb)) (Nat.lt_irrefl _)
        · have y := (pinP p hp).2
          rw [z, hl] at y
          cases y
  · obtain ⟨o, nm, qn, ho, r⟩ := A.gen
    exact ⟨o, nm, qn, (pinGa ho).1, r⟩
  · obtain ⟨vs, hl⟩ := F.lst ga hm
    rw [hga] at hl
    cases hl
  · rcases n.mid b h1 h2 with z | z
    · exact .inl z
    · exact .inr fun y => z (EX.dom b y)
  · obtain ⟨m, hn, _⟩ := J.loc
    exact hn.lt
end
end RL

set_option Elab.async false
set_option linter.all false
set_option maxRecDepth 100000
set_option maxHeartbeats 4000000
/-! RLnx2: next of a sleeping generator -/
namespace RL
open PySem PySem.Spec PyProof.Rows L2
section
variable {P : Program} {w : World} {A : Around} {E : Value → Shared → Prop} {s : Shared}
/-- a stretch's end may be looked at by its kind -/
theorem resume_seg {Φ : End → Shared → Prop} {g : Nat} {gs : GenState} {l : List Value} {α : Type} {k : GenResult → Sem α} {Q : α → Shared → Prop} (hg : s.gens[g]? = some gs)
    (hgo : GoesP (model P w) A Φ gs (s.setGen g .running))
    (h : ∀ e s1, Φ e s1 → e.quiet = true ∧ wpAny (model P w) A (k e.result) Q E (s1.setGen g e.genState)) : wpAny (model P w) A (.resume g (.send .none) l k) Q E s := by
  intro Γ p hΓ
  rw [Sem.wp_resume]
  cases gs with
  | fresh c =>
    obtain ⟨e, s1, hr, he⟩ := hgo (Γ.wake c p) p rfl (PySem.Ctx.In.wake hΓ c p)
    obtain ⟨hq, hk⟩ := h e s1 he
    exact ⟨_, _, by unfold Wakes; rw [hg]; exact ⟨e, s1, hr, hq, rfl, rfl⟩, hk Γ p hΓ⟩
  | suspended k₀ l₀ c₀ p₀ fs₀ cl =>
    obtain ⟨e, s1, hr, he⟩ := hgo (Γ.wake c₀ p) p₀ rfl (PySem.Ctx.In.wake hΓ c₀ p)
    obtain ⟨hq, hk⟩ := h e s1 he
    exact ⟨_, _, by unfold Wakes; rw [hg]; exact ⟨e, s1, hr, hq, rfl, rfl⟩, hk Γ p hΓ⟩
  | running => exact hgo.elim
  | finished => exact hgo.elim
theorem next_seg {Φ : End → Shared → Prop} {a : Addr} {g : Nat} {gs : GenState} {Q : Option Value → Shared → Prop} (hh : A.handled = none) (hl : s.heap.NoLimit) (hroom : A.depth < recursionLimit) (hg : s.heap.IsGen a g) (hgs : s.gens[g]? = some gs)
    (hgo : GoesP (model P w) A.in1 Φ gs (s.setGen g .running))
    (hY : ∀ v l k c p fs s1, Φ (.susp v false l k c p fs) s1 → Q (some v) (s1.setGen g (End.susp v false l k c p fs).genState))
    (hΦ : ∀ e s1, Φ e s1 → (∃ v gd l k c p fs, e = .susp v gd l k c p fs ∧ gd = false ∧ e.quiet = true) ∨ e = .ret (.ok (.ret .none)))
    (hP : ∀ s1, Φ (.ret (.ok (.ret .none))) s1 → ∀ h', (∀ b o, s1.heap.get? b = some o → h'.get? b = some o) → Q none { s1.setGen g .finished with heap := h' }) : wpAny (model P w) A (pyNext (.ref a)) Q E s := by
  unfold pyNext
  refine wpAny_bind (wpAny_attempt (wpAny_callSpecial?_slot (name := Str.ofString "__next__") hg.typeIs slot_gen_next (wpAny_call_entry slot_gen_next hg.typeIs entry_gen_next ?_ (args_gen_next _))))
  show wpAny _ A.in1 (Builtin.Generator.genWake (.ref a) (.send .none)) _ _ s
  unfold Builtin.Generator.genWake
  refine wpAny_bind (wpAny_holding (wpAny_genNumber hg (wpAny_bind (wpAny_genState hgs ?_))))
  cases gs with
  | running => exact hgo.elim
  | finished => exact hgo.elim
  | _ =>
    refine wpAny_bind (wpAny_roomToWake hl hroom ?_)
    show wpAny _ A.in1 (.resume g (.send .none) [] _) _ _ s
    refine resume_seg hgs hgo fun e s1 he => ?_
    rcases hΦ e s1 he with ⟨v, gd, l, k, c, p, fs, rfl, rfl, hq⟩ | rfl
    · exact ⟨hq, wpAny_pure ⟨v, rfl, wpAny_pure (hY v l k c p fs s1 he)⟩⟩
    · refine ⟨rfl, ?_⟩
      show wpAny _ A.in1 (newExc (.type "StopIteration") [] >>= _) _ _ _
      refine wpAny_bind ?_
      simp only [newExc, newTuple]
      refine wpAny_bind (wpAny_newObj_type ?_ (by size_fits))
      refine wpAny_bind (m := firstArgMember _ _) (wpAny_of_eq (a := Value.none) (by first | rfl | (simp only [firstArgMember]; rfl)) ?_)
      refine wpAny_newObj_type ?_ (by size_fits)
      simp only [raiseNew]
      refine wpAny_bind (wpAny_bind (wpAny_handled ?_))
      first | rw [show A.in1.handled = none from hh] | rw [hh]
      refine wpAny_throw ?_
      refine wpAny_bind (wpAny_isInstance (T := "StopIteration") (b := true) ⟨_, Heap.get?_push_size _ rfl, rfl⟩ isSubtype_stop ?_)
      exact wpAny_pure (hP s1 he _ fun b o hb => Heap.get?_push_of_some _ (Heap.get?_push_of_some _ hb))
end

theorem le_off {pv : List Addr} {H : Hp} (h : ∀ a ∈ pv, ∃ vs, H a = some (.lst vs)) : Le H (off pv H) := by
  refine ⟨fun a o nu e n => ?_, fun p q _ t => ?_⟩
  · rw [off_ne fun hb => ?_]
    · exact e
    · obtain ⟨vs, z⟩ := h a hb
      rw [e] at z
      cases Option.some.inj z
      exact nu trivial
  · obtain ⟨ps, h1, h2, h3⟩ := t
    refine ⟨ps, ?_, h2, fun pos cv hc => ?_⟩
    · rw [off_ne fun hb => ?_]
      · exact h1
      · obtain ⟨vs, z⟩ := h p hb
        rw [h1] at z
        cases Option.some.inj z
    · obtain ⟨c, e1, e2⟩ := h3 pos cv hc
      refine ⟨c, e1, ?_⟩
      rw [off_ne fun hb => ?_]
      · exact e2
      · obtain ⟨vs, z⟩ := h c hb
        rw [e2] at z
        have z' : HO.ext _ = HO.lst vs := Option.some.inj z
        cases z'
section
variable {X : Cx} {N : List Str} {qual : Str} {scope : Scope} {f : Addr} {cd : Value} {L : Addr} {pins : List (Addr × Obj)} {σc σ : L2.St} {H Hy : Hp} {s sy : Shared} {ga g : Nat} {pv : List Addr} {ends : Bool} {rem : List Ty} {gs : GenState}
/-- asleep, with all that the walking code must know -/
structure Rests (X : Cx) (pins : List (Addr × Obj)) (D : GD) (ends : Bool) (ga g : Nat) (rem : List Ty) (H : Hp) (s : Shared) (sus : Bool) : Prop where
  ex : ∃ pv σ Hy sy gs, Sleeps D ends rem pv σ Hy sy gs ∧ Asl X pins D ga g pv Hy sy H s ∧ Nest X D H s ∧ s.gens[g]? = some gs ∧ (sus = true → ∃ k l c p fs cl, gs = .suspended k l c p fs cl)
theorem gen_next {su : Bool} {Q : Option Value → Shared → Prop} {E : Value → Shared → Prop} (hc : X.calm = true) (hd : X.A.depth < recursionLimit) (I : Inv X pins σc H s) (nc : NoCells (gdOf X N qual scope f cd L)) (R : Rests X pins (gdOf X N qual scope f cd L) ends ga g rem H s su)
    (hS : ∀ T ∈ rem, Stb T) (hr : rem ≠ [] ∨ ends = true)
    (hY : ∀ T rem' x u H' s', rem = T :: rem' → RelV x u → T x H' → Ex H H' → Inv X pins σc H' s' → Rests X pins (gdOf X N qual scope f cd L) ends ga g rem' H' s' true → Q (some u) s')
    (hE : rem = [] → ∀ H' s', Ex H H' → Inv X pins σc H' s' → Q none s') : wpAny (model X.prog X.w) X.A (pyNext (.ref ga)) Q E s := by
  obtain ⟨pv, σ, Hy, sy, gs, S, A, n, hgs, _⟩ := R.ex
  obtain ⟨ω, J⟩ := S.inv
  have hh : X.A.handled = none := I.ok.hd hc
  have hgl : g < s.gens.size := (Array.getElem?_eq_some_iff.mp hgs).1
  have hb1 : AllBare (s.setGen g .running).gens := allBare_setGen I.bare rfl
  have J' := wakes_ok I nc A n J S.lst (G := (s.setGen g .running).gens) hb1
  have wk : Wk pv Hy ⟨s.setGen g .running, merge pv Hy H, pinsOf X pins L ga s.heap, pv⟩ := ⟨rfl, le_merge (fun a ha => (S.lst a ha).1) A.le (fun b hb => (A.fp b (.inr (.inr hb))).1), fun a ha => merge_in ha⟩
  have go := S.go hr ⟨s.setGen g .running, merge pv Hy H, pinsOf X pins L ga s.heap, pv⟩ J' wk
  refine GenW.wpAny_gsz (n := g + 1) hgl (next_seg (Φ := Gives (gdOf X N qual scope f cd L) ends rem ⟨s.setGen g .running, merge pv Hy H, pinsOf X pins L ga s.heap, pv⟩) hh I.nolimit hd A.gen hgs go (fun v l k c p fs s1 h1 hsz => ?_) (fun e s1 h1 => ?_) fun s1 h1 h' hk hsz => ?_)
  · cases rem with
    | nil =>
      rcases h1 with h1 | ⟨h1, _⟩
      · rcases hr with z | z
        · exact absurd rfl z
        · rw [h1] at z; cases z
      · cases h1
    | cons T rem' =>
      obtain ⟨hq, x, σ1, H1, pv1, J1, F, rv, hx, hk⟩ := h1
      obtain ⟨I1, ex1, fp1, ga1, pl1, nga1, n1⟩ := back_ok I A n S.lst J1 F
      have hs1 : g < s1.gens.size := by
        have z : (s1.setGen g (End.susp v false l k c p fs).genState).gens.size = s1.gens.size := GenW.setGen_size _ _ _
        have y : g + 1 ≤ (s1.setGen g (End.susp v false l k c p fs).genState).gens.size := hsz
        omega
      have hbare : AllBare (s1.setGen g (End.susp v false l k c p fs).genState).gens := allBare_setGen I1.bare (End.bare_of_quiet hq)
      have re : ∀ {Y : Cx} {ps : List (Addr × Obj)} {σ' : L2.St} {H' : Hp}, Inv Y ps σ' H' s1 → Inv Y ps σ' H' (s1.setGen g (End.susp v false l k c p fs).genState) := fun {Y ps σ' H'} z => z.call' (ch := []) rfl Un.refl z.hok hbare fun b hb => absurd hb (by simp)
      have loff : Le H1 (off pv1 H1) := le_off fun a ha => (pl1 a ha).1
      refine hY T rem' x v _ _ rfl rv ((hS T List.mem_cons_self).le loff hx) ex1 (re I1) ⟨pv1, σ1, H1, s1.setGen g (End.susp v false l k c p fs).genState, (End.susp v false l k c p fs).genState, ⟨⟨_, re J1⟩, pl1, fun hr' ω' Jw wkw => hk hr' ω' Jw wkw⟩, ⟨fun _ _ _ e => e, ga1, Le.refl _, fp1, ⟨A.ga.1, nga1⟩⟩, ⟨n1.fr, n1.cel, n1.old, n1.mid, n1.sz⟩, setGen_at hs1, fun _ => ⟨_, _, _, _, _, _, rfl⟩⟩
  · cases rem with
    | nil =>
      rcases h1 with h1 | ⟨h1, _⟩
      · rcases hr with z | z
        · exact absurd rfl z
        · rw [h1] at z; cases z
      · exact .inr h1
    | cons T rem' =>
      cases e with
      | ret r => exact False.elim h1
      | susp v gd l k c p fs =>
        obtain ⟨hq, _⟩ := h1
        refine .inl ⟨v, gd, l, k, c, p, fs, rfl, ?_, hq⟩
        cases gd with
        | false => rfl
        | true => simp [End.quiet] at hq
  · cases rem with
    | cons T rem' => exact False.elim h1
    | nil =>
      rcases h1 with h1 | ⟨_, σ1, H1, pv1, J1, F⟩
      · rcases hr with z | z
        · exact absurd rfl z
        · rw [h1] at z; cases z
      · obtain ⟨I1, ex1, _⟩ := back_ok I A n S.lst J1 F
        refine hE rfl _ _ ex1 (I1.call' (ch := []) (s' := { s1.setGen g .finished with heap := h' }) rfl (Un.kept hk) (I1.hok.kept hk) (allBare_setGen I1.bare rfl) fun b hb => absurd hb (by simp))
end
end RL

set_option Elab.async false
set_option linter.all false
set_option maxRecDepth 100000
set_option maxHeartbeats 4000000
/-! RLgfor: for x in a generator -/
namespace RL
open PySem PySem.Spec PyProof.Rows L2
section
variable {X : Cx} {pins : List (Addr × Obj)} {σ : L2.St} {H : Hp} {s s2 s' : Shared}
theorem inv_doze (I : Inv X pins σ H s) : Inv X pins σ H (doze s) := I.call' (s' := doze s) (ch := []) rfl Un.refl I.hok (doze_bare I.bare) fun b hb => absurd hb (by simp)
theorem inv_woke (w : Woke s s2 s') (hb : AllBare s.gens) (I : Inv X pins σ H s2) : Inv X pins σ H s' := by
  rw [w.eq]
  exact I.call' (s' := { s2 with gens := s'.gens }) (ch := []) rfl Un.refl I.hok (w.bare hb I.bare) fun b hb => absurd hb (by simp)
theorem woke_heap (w : Woke s s2 s') : s'.heap = s2.heap := by rw [w.eq]
variable {D : GD} {ends : Bool} {ga g : Nat} {rem : List Ty}
/-- what must stay for it to sleep on -/
theorem rests_kept (R : Rests X pins D ends ga g rem H s true) : ∃ fp : List Addr, (∀ b ∈ fp, FpOk X pins H b) ∧ (∀ b ∈ fp, ∃ o, s.heap.get? b = some o ∧ ∀ v, o.data ≠ .cell v) ∧ ga ∈ fp ∧ ∃ k l c p fs cl, s.gens[g]? = some (GenState.suspended k l c p fs cl) ∧
    ∀ H' s', Le H H' → (∀ b ∈ fp, H' b = none) → (∀ b ∈ fp, ∀ o, s.heap.get? b = some o → s'.heap.get? b = some o) → s'.gens[g]? = some (GenState.suspended k l c p fs cl) → (∀ b, D.L ≤ b → b < X.s_0.heap.objs.size → b ∈ X.ex ∨ H' b ≠ none) → Rests X pins D ends ga g rem H' s' true := by
  obtain ⟨pv, σ, Hy, sy, gs, S, A, n, hgs, hsus⟩ := R.ex
  obtain ⟨k, l, c, p, fs, cl, rfl⟩ := hsus rfl
  obtain ⟨ω, J⟩ := S.inv
  obtain ⟨m, hn, _⟩ := J.loc
  obtain ⟨oL, es, ep, hoL, hdL, _⟩ := hn
  have objL : s.heap.get? D.L = some oL := A.obj D.L (.inl rfl) _ hoL
  have memfp : ∀ {b : Addr}, b ∈ D.L :: ga :: pv → b = D.L ∨ b = ga ∨ b ∈ pv := fun {b} hb => by simpa using hb
  refine ⟨D.L :: ga :: pv, fun b hb => A.fp b (memfp hb), fun b hb => ?_, by simp, k, l, c, p, fs, cl, hgs, fun H' s' le hf hk hg hm => ⟨pv, σ, Hy, sy, _, S, ⟨fun b hb o e => ?_, ?_, A.le.trans le, fun b hb => ?_, A.ga⟩, ⟨n.fr, n.cel, n.old, hm, ?_⟩, hg, fun _ => ⟨_, _, _, _, _, _, rfl⟩⟩⟩
  · rcases memfp hb with h | h | h
    · subst h
      exact ⟨oL, objL, fun v z => by rw [hdL] at z; cases z⟩
    · subst h
      obtain ⟨o, nm, qn, ho, _, hd, _⟩ := A.gen
      exact ⟨o, ho, fun v z => by rw [hd] at z; cases z⟩
    · obtain ⟨⟨vs, e⟩, _⟩ := S.lst b h
      obtain ⟨_, its, k, _, eo⟩ := J.hok b _ e
      exact ⟨_, A.obj b (.inr h) _ eo, fun v z => by cases z⟩
  · refine hk b ?_ o (A.obj b hb o e)
    rcases hb with h | h
    · rw [h]; exact List.mem_cons_self
    · exact List.mem_cons_of_mem _ (List.mem_cons_of_mem _ h)
  · obtain ⟨o, nm, qn, ho, r⟩ := A.gen
    exact ⟨o, nm, qn, hk ga (by simp) o ho, r⟩
  · refine ⟨hf b ?_, (A.fp b hb).2⟩
    rcases hb with h | h | h
    · rw [h]; simp
    · rw [h]; simp
    · exact List.mem_cons_of_mem _ (List.mem_cons_of_mem _ h)
  · exact Heap.lt_size (hk D.L (by simp) oL objL)
end
/-- e makes a generator that hands out these -/
def GGen (X : Cx) (Γ : Ctx) (e : Expr) (items : List Ty) (ends : Bool) : Prop := ∀ pins s σ H, Inv X pins σ H s → Typed σ Γ H → wpAny (model X.prog X.w) X.A (eval e X.env) (fun v s' => ∃ H' ga g N qual scope f cd L, v = .ref ga ∧ Ex H H' ∧ Inv X pins σ H' s' ∧
  NoCells (gdOf X N qual scope f cd L) ∧ X.s_0.heap.objs.size ≤ L ∧ (∀ b, L ≤ b → FpOk X pins H' b) ∧ Rests X pins (gdOf X N qual scope f cd L) ends ga g items H' s' false) X.xe s
section
variable {X : Cx} {Γ : Ctx} {D : Ends} {rest body : List Stmt} {H0 : Bs} {pos : Pos}
/-- for tg in a generator -/
theorem b_forG {it tg : Expr} {g : TG} {items : List Ty} {ends : Bool} (Ok : Nat → Ctx → Prop) (hi : GGen X Γ it items ends) (hg : PG X tg g) (hS : ∀ T ∈ items, Stb T) (h0 : Ok 0 Γ)
    (hs : ∀ (H1 : Hp) (i : Nat) (T : Ty) (Δ : Ctx), H0.ok H1 → items[i]? = some T → Ok i Δ → ∃ Δ2, Tgt g T Δ Δ2 ∧ Bd X Δ2 body (H0.at H1) (turnD D X rest (H0.at H1) (Ok (i + 1))))
    (hd : ends = true → ∀ Δ, Ok items.length Δ → Bd X Δ rest H0 D) (hn : ends = false → ∀ Δ, ¬ Ok items.length Δ)
    (hdp : X.A.depth < recursionLimit) (hc : X.calm = true := by rfl) (hp : PassesOwn (model X.prog X.w) X.A X.env X.xe := by exact PassesOwn.never) (hf : ∀ x, foldedSetIterable it X.env x = pure x := by intro _; rfl)
    (hxe : ∀ e s s2 s', Woke s s2 s' → X.xe e s2 → X.xe e s' := by exact fun _ _ _ _ _ h => h) : Bd X Γ (.For tg it body [] pos :: rest) H0 D :=
  b_cons fun σ H e0 t => ⟨fun pins s I => by
    have dz : ∀ {α : Type} {tm : Sem α} {Q : α → Shared → Prop} {s : Shared}, wpAny (model X.prog X.w) X.A tm Q X.xe (doze s) → wpAny (model X.prog X.w) X.A tm (fun a s' => ∃ s2, Woke s s2 s' ∧ Q a s2) X.xe s := fun {α tm Q s} h => wpAny_mono (sleepers h) (fun _ _ z => z) fun e s' ⟨s2, w, z⟩ => hxe e _ s2 s' w z
    refine wpAny_For (thn (hi pins s σ H I t) fun v s1 h1 => ?_) hf
    obtain ⟨H1, ga, gi, N, qual, scope, f, cd, L, rfl, e1, I1, nc, hL, _, R1⟩ := h1
    have hgen1 : s1.heap.IsGen ga gi := by
      obtain ⟨_, _, _, _, _, _, A, _⟩ := R1.ex
      exact A.gen
    refine wpAny_pyIter_gen hgen1 ?_
    refine codeAny_forLoop_any (fun n s' => ∃ i σ' H' Δ su, i ≤ items.length ∧ n = items.length - i ∧ Inv X pins σ' H' s' ∧ Ok i Δ ∧ H0.ok H' ∧ Typed σ' Δ H' ∧ Rests X pins (gdOf X N qual scope f cd L) ends ga gi (items.drop i) H' s' su) ?_ items.length ⟨0, σ, H1, Γ, false, Nat.zero_le _, rfl, I1, h0, e0.trans e1, t.up e1, R1⟩
    rintro n s3 ⟨i, σ3, H3, Δ, su, hi3, rfl, I3, ok, b3, t3, R3⟩
    have hne : items.drop i ≠ [] ∨ ends = true := by
      cases he : ends with
      | true => exact .inr rfl
      | false =>
        left
        intro z
        have hl : items.length ≤ i := List.drop_eq_nil_iff.mp z
        have : i = items.length := by omega
        subst this
        exact hn he Δ ok
    refine wpAny_passesOwn hp (gen_next (Q := fun r s4 => _) hc hdp I3 nc R3 (fun T hT => hS T (List.mem_of_mem_drop hT)) hne (fun T rem' x u H4 s4 hrem ru hx e4 I4 R4 => ?_) fun hrem H4 s4 e4 I4 => ?_)
    · have hi2 : i < items.length := by
        by_cases c : i < items.length
        · exact c
        · rw [List.drop_eq_nil_iff.mpr (by omega)] at hrem
          cases hrem
      have hT : items[i]? = some T := by
        rw [List.drop_eq_getElem_cons hi2] at hrem
        injection hrem with h1 h2
        rw [List.getElem?_eq_getElem hi2, h1]
      have hrem' : rem' = items.drop (i + 1) := by
        rw [List.drop_eq_getElem_cons hi2] at hrem
        injection hrem with h1 h2
        exact h2.symm
      subst hrem'
      obtain ⟨fp, hfp, hob, hga, k, l, c, p, fs, cl, hgs, re⟩ := rests_kept R4
      have hgo : s4.heap.IsGen ga gi := by
        obtain ⟨_, _, _, _, _, _, A, _⟩ := R4.ex
        exact A.gen
      obtain ⟨go, nm, qn, hgo1, hgo2, hgo3, _⟩ := hgo
      refine go_of hgo1 hgo2 hgo3 (by decide) ?_
      have b4 : H0.ok H4 := Bs.up b3 e4
      obtain ⟨Δ2, tgt, bd⟩ := hs H4 i T Δ b4 hT ok
      have I4' := I4.pinned hfp hob
      refine wpAny_passesOwn hp (thn (dz (hg.run (pins ++ pinsAt fp s4.heap) (doze s4) σ3 H4 x u (fun σ5 H5 => H5 = H4 ∧ Typed σ5 Δ2 H4) (inv_doze I4') ru (tgt x σ3 H4 _ hx (t3.up e4) fun σ2 t2 => ⟨rfl, t2⟩))) fun _ s5 ⟨s52, w5, σ5, H5, I5, eH, t5⟩ => ?_)
      subst eH
      have I5' := inv_woke w5 I4.bare I5
      have g5 := w5.slept gi k l c p fs cl hgs
      refine wpAny_passesOwn hp (thn (dz ((bd σ5 H5 (Bs.here b4) t5).run (pins ++ pinsAt fp s4.heap) (doze s5) (inv_doze I5'))) fun fl s6 ⟨s62, w6, q6⟩ => ?_)
      have g6 := w6.slept gi k l c p fs cl g5
      have again : ∀ {σ7 : L2.St} {H7 : Hp}, Inv X (pins ++ pinsAt fp s4.heap) σ7 H7 s62 → (∃ Δ, Ok (i + 1) Δ ∧ (H0.at H5).ok H7 ∧ Typed σ7 Δ H7) → ∃ m, m < items.length - i ∧ ∃ i σ' H' Δ su, i ≤ items.length ∧ m = items.length - i ∧ Inv X pins σ' H' s6 ∧ Ok i Δ ∧ H0.ok H' ∧ Typed σ' Δ H' ∧ Rests X pins (gdOf X N qual scope f cd L) ends ga gi (items.drop i) H' s6 su := fun {σ7 H7} I7 ⟨Δ', ok', b7, t7⟩ => by
        have I7' := inv_woke w6 I5'.bare I7
        have pin : ∀ b ∈ fp, ∀ o, s4.heap.get? b = some o → s6.heap.get? b = some o ∧ H7 b = none := fun b hb o e =>
          let z := I7'.pin (b, o) (List.mem_append_right _ (List.mem_append_right _ (mem_pinsAt hb e)))
          ⟨z.1, z.2.1⟩
        refine ⟨items.length - (i + 1), by omega, i + 1, σ7, H7, Δ', true, by omega, rfl, I7'.unpinned, ok', Bs.back b4 b7, t7, re H7 s6 b7.2 (fun b hb => ?_) (fun b hb o e => (pin b hb o e).1) g6 fun b h1 h2 => absurd (Nat.lt_of_lt_of_le h2 (Nat.le_trans hL h1)) (Nat.lt_irrefl _)⟩
        obtain ⟨o, e, _⟩ := hob b hb
        exact (pin b hb o e).2
      cases fl with
      | next => obtain ⟨σ7, H7, I7, n7⟩ := q6; exact again I7 n7
      | cont => obtain ⟨σ7, H7, I7, n7⟩ := q6; exact again I7 n7
      | brk =>
        obtain ⟨σ7, H7, I7, q7⟩ := q6
        exact ⟨σ7, H7, (inv_woke w6 I5'.bare I7).unpinned, q7⟩
      | ret v =>
        obtain ⟨x7, σ7, H7, I7, r7, q7⟩ := q6
        exact ⟨x7, σ7, H7, (inv_woke w6 I5'.bare I7).unpinned, r7, q7⟩
    · have hl : items.length ≤ i := List.drop_eq_nil_iff.mp hrem
      have hi2 : i = items.length := by omega
      subst hi2
      have he : ends = true := by
        rcases hne with z | z
        · exact absurd hrem z
        · exact z
      exact wpAny_execs_nil ⟨σ3, H4, I4, hd he Δ ok σ3 H4 (Bs.up b3 e4) (t3.up e4)⟩⟩
end
end RL

set_option Elab.async false
set_option linter.all false
set_option maxRecDepth 100000
set_option maxHeartbeats 4000000
/-! RLgdef: a generator def by its body; its call -/
namespace RL
open PySem PySem.Spec PyProof.Rows L2
theorem cutH_all {h : Heap} : cutH h h.objs.size = h := by
  unfold cutH
  have : h.objs.extract 0 h.objs.size = h.objs := by simp
  rw [this]
/-- what a call of a generator def leaves: the generator has not begun -/
structure GenNew (P : Program) (w : World) (K : PySem.W.Frag) (mg : Str → Option Value) (base : Heap) (k : Nat) (outer : List Env) (H : Hp) (s : Shared) (items : List Ty) (ends : Bool) (u : Value) (s' : Shared) : Prop where
  ex : ∃ (ga g : Nat) (c : Code) (N : List Str) (qual : Str) (scope : Scope) (f : Addr) (cd : Value) (σ : L2.St), u = .ref ga ∧ s.heap.objs.size < ga ∧ ga < s'.heap.objs.size ∧ s'.heap.IsGen ga g ∧ s'.gens[g]? = some (.fresh c) ∧ s'.os = s.os ∧ AllBare s'.gens ∧
    (∀ b o, s.heap.get? b = some o → s'.heap.get? b = some o) ∧ ∀ A : Around, Room k A → A.frames = some outer → NoCells ⟨P, w, K, mg, base, N, qual, scope, f, cd, A, outer, s.heap.objs.size⟩ ∧ Sleeps ⟨P, w, K, mg, base, N, qual, scope, f, cd, A, outer, s.heap.objs.size⟩ ends items [] σ H s' (.fresh c)
structure FnGen (P : Program) (w : World) (K : PySem.W.Frag) (mg : Str → Option Value) (base : Heap) (k : Nat) (x : Str) (ps : List Str) {α : Type} (A : α → List Ty) (items : α → List Ty) (ends : α → Bool) : Prop where
  len : ∀ a, (A a).length = ps.length
  ex : ∃ f fd, mg x = some (.ref f) ∧ PySem.W.keepIn K (.ref f) = true ∧ Binds K fd ps [] ∧ ∀ (Ar : Around) (outer : List Env) (s : Shared) (H : Hp) (args : Args) (us : List Value) (vs : List V) (a : α), Room k Ar → Env0 P w K mg base Ar outer s H → BindsTo s fd args (ps.zip us) → Vals vs us → All2 (A a) vs H →
    codeAny (model P w) Ar (.call (.ref f) args) (fun r s' => match r with | .ok (.ret u) => GenNew P w K mg base k outer H s (items a) (ends a) u s' | _ => False) s
/-- how its body begins -/
def gPre {α : Type} (N : List Str) (A : α → List Ty) (items : α → List Ty) (a : α) : GA' := fun rem ω σ H => rem = items a ∧ ω.pv = [] ∧ H = ω.H ∧ Typed σ (ctx0 N (A a)) H
/-- .. and ends -/
def gEnd (L : Addr) : GE := { nx := fun rem ω _ H => rem = [] ∧ ∃ pv, Frm L ω pv H, rt := fun rem ω v H => v = .non ∧ rem = [] ∧ ∃ pv, Frm L ω pv H }
section
variable {P : Program} {w : World} {K : PySem.W.Frag} {mg : Str → Option Value} {base : Heap} {x qual : Str} {params : Arguments} {body : List Stmt} {scope : Scope} {kws : List (Str × V)} {f : Addr} {fd : FuncData} {N ps : List Str} {k : Nat} {α : Type} {A : α → List Ty} {items : α → List Ty} {ends : α → Bool}
theorem gen_made (F : FunD K x qual params body scope [] kws f fd) (S : GScope N ps scope) (own : ∀ y ∈ scope.names, y.2 ≠ .cell) (hl : ∀ a, (A a).length = ps.length) (hSt : ∀ a, Stbs (A a))
    (h : ∀ (a : α) (D : GD), D.P = P → D.w = w → D.K = K → D.mg = mg → D.base = base → D.N = N → D.qual = qual → D.scope = scope → Room k (D.A.deeper D.env) → YJ D (ends a) (execs body D.env) (gPre N A items a) (gEnd D.L))
    {Ar : Around} {outer : List Env} {s : Shared} {H : Hp} {args : Args} {us : List Value} {vs : List V} (a : α) (hr : Room (k + 1) Ar) (e0 : Env0 P w K mg base Ar outer s H) (hb : BindsTo s fd args (ps.zip us)) (r : Vals vs us) (hA : All2 (A a) vs H) :
    codeAny (model P w) Ar (.call (.ref f) args) (fun r s' => match r with | .ok (.ret u) => GenNew P w K mg base (k + 1) outer H s (items a) (ends a) u s' | _ => False) s := by
  obtain ⟨oc, od, dV, kV, doc, pm, an, cdv, ct, osl, rfl, lk, hcd, _, _⟩ := F.ex
  have hvl : vs.length = ps.length := by rw [← hA.len]; exact hl a
  have KX : K.In s.heap := e0.mod.kin.keeps fun b o e => (e0.bs b o e).1
  have lim : s.heap.NoLimit := e0.mod.nolimit.keeps fun b o e => (e0.bs b o e).1
  have hkind : ∀ y ∈ ps.zip us, scope.names.lookup y.1 = some .local ∨ (scope.names.lookup y.1 = some .cell ∧ ((cellsFrom (s.heap.objs.size + 1) scope.names []).lookup y.1).isSome = true) := fun ⟨n, v⟩ hy => by
    rcases S.par n (List.of_mem_zip hy).1 with q | q
    · exact .inl q
    · exact .inr ⟨q, PySem.W.cellsFrom_some _ _ _ (.inl q)⟩
  refine codeAny_call_generator hr.depth (KX _ _ lk) rfl S.co S.gen rfl (PySem.W.codeRec_of KX hcd) (hb _ _ _ _ ?_)
  refine wpAny_newFunctionEnv_cells S.kind hkind fun env he s1 x1 => ?_
  subst he
  refine ⟨lim.keeps x1.toInCall.keep, ?_⟩
  obtain ⟨h1, tk, es1, hk1⟩ := x1.done
  have os1 : s1.os = s.os := by rw [es1]
  have gen1 : s1.gens = s.gens := by rw [es1]
  have lt1 : s.heap.objs.size < s1.heap.objs.size := x1.toInCall.ns.lt
  have kp1 : ∀ b o, s.heap.get? b = some o → s1.heap.get? b = some o := x1.toInCall.keep
  have main : ∀ (go : Obj) (nm qn : Value) (tk2 : Nat), go.cls = .type "generator" → go.data = .fields #[.int s1.gens.size 0, nm, qn] → go.slots = #[] → (∀ h : Heap, (h.push go).get? h.objs.size = some go) →
      GenNew P w K mg base (k + 1) outer H s (items a) (ends a) (.ref s1.heap.objs.size) { s1 with gens := s1.gens.push (.fresh (.func body (envOfC qual scope s.heap.objs.size f cdv))), toks := tk2, heap := s1.heap.push go } := by
    intro go nm qn tk2 hgc hgd hgs hgp
    have kp2 : ∀ b o, s1.heap.get? b = some o → (s1.heap.push go).get? b = some o := fun b o e => Heap.get?_push_of_some _ e
    have bare2 : AllBare (s1.gens.push (.fresh (.func body (envOfC qual scope s.heap.objs.size f cdv)))) := AllBare.push (by rw [gen1]; exact e0.bare) rfl
    refine ⟨s1.heap.objs.size, s1.gens.size, _, N, qual, scope, f, cdv, L2.start N vs, rfl, lt1, ?_, ⟨go, nm, qn, hgp _, hgc, hgd, hgs⟩, Array.getElem?_push_size .., os1, bare2, fun b o e => kp2 b o (kp1 b o e), fun Aw hrw hfr => ?_⟩
    · show _ < (s1.heap.push go).objs.size
      rw [Heap.size_push]; exact Nat.lt_succ_self _
    have nc : NoCells ⟨P, w, K, mg, base, N, qual, scope, f, cdv, Aw, outer, s.heap.objs.size⟩ := ⟨S.kind, S.co, fun y hy => ⟨own y hy, S.nofree y hy⟩⟩
    refine ⟨nc, ⟨⟨⟨s, H, [], []⟩, ?_⟩, fun a ha => absurd ha (by simp), fun _ ω' J wk => ?_⟩⟩
    · have e0w : Env0 P w K mg base Aw outer s H := ⟨hfr, e0.mod, e0.bs, e0.bsz, e0.funs, e0.frf, e0.hok, e0.bare⟩
      have I1 : Inv (gcxOf P w K mg base N qual scope f cdv Aw outer s H (fun _ _ _ => False) []) [] (L2.start N vs) H s1 := inv_startG S hrw.hd e0w hvl r x1
      have I2 : Inv (gcxOf P w K mg base N qual scope f cdv Aw outer s H (fun _ _ _ => False) []) [] (L2.start N vs) H { s1 with gens := s1.gens.push (.fresh (.func body (envOfC qual scope s.heap.objs.size f cdv))), toks := tk2, heap := s1.heap.push go } :=
        I1.call' (ch := []) rfl (Un.kept kp2) (I1.hok.kept kp2) bare2 fun b z => by simp at z
      have ec : cutH s.heap s.heap.objs.size = s.heap := cutH_all
      show Inv (GD.cx _ { s with heap := cutH s.heap s.heap.objs.size } H) [] _ H _
      rw [ec]
      exact ⟨⟨I2.ok.mod, I2.ok.kind, I2.ok.glob, I2.ok.blt, I2.ok.above, I2.ok.inj, I2.ok.has, I2.ok.cab, I2.ok.hd, I2.ok.frames, I2.ok.stk, I2.ok.exf, I2.ok.bs, I2.ok.bsz, I2.ok.noex, I2.ok.exfs, I2.ok.funs, I2.ok.frf⟩, I2.os, I2.bare, I2.base, I2.loc, I2.cell, I2.free, I2.freeC, fun p hp => absurd (show p ∈ ([] : List (Addr × Obj)) ++ [] from hp) (by simp), I2.hok, I2.len⟩
    · have J2 := (h a ⟨P, w, K, mg, base, N, qual, scope, f, cdv, Aw, outer, s.heap.objs.size⟩ rfl rfl rfl rfl rfl rfl rfl rfl (hrw.deeper _)).run (.func body (envOfC qual scope s.heap.objs.size f cdv)) [] bodyEnd (bodyExc (envOfC qual scope s.heap.objs.size f cdv)) id id ⟨GenW.over_func, rfl, rfl, rfl⟩
      refine sgm_func (J2 (fun rem ω s2 fl hs => ?_) (items a) ω' (L2.start N vs) ω'.H ω'.s J ⟨rfl, wk.same, rfl, typed0 ((hSt a).le wk.le hA)⟩)
      cases fl with
      | next =>
        obtain ⟨σ2, H2, I2, hrem, pv, hf⟩ := hs
        subst hrem
        exact sgm_end (.ok (.ret .none)) (.inr ⟨rfl, σ2, H2, pv, I2, hf⟩)
      | brk =>
        obtain ⟨σ2, H2, I2, q⟩ := hs
        exact False.elim q
      | cont =>
        obtain ⟨σ2, H2, I2, q⟩ := hs
        exact False.elim q
      | ret u =>
        obtain ⟨v, σ2, H2, I2, rv, ev, hrem, pv, hf⟩ := hs
        subst hrem; subst ev
        obtain rfl : u = Value.none := rv
        exact sgm_end (.ok (.ret .none)) (.inr ⟨rfl, σ2, H2, pv, I2, hf⟩)
  exact main _ _ _ _ rfl rfl rfl fun h => Heap.get?_push_size _ rfl
end
section
variable {X : Cx} {Γ : Ctx} {e : Expr} {es : List Expr} {Ts : List Ty} {pos p : Pos} {x : Str} {ps : List Str} {k : Nat} {α : Type} {A : α → List Ty} {items : α → List Ty} {ends : α → Bool}
/-- x(e, ..) of a generator def -/
theorem gg_call (F : FnGen X.prog X.w X.K X.mg X.base k x ps A items ends) (hr : Room (k + 1) X.A) (i : α) (ha : GA X Γ (e :: es) Ts) (hT : ∀ vs H, All2 Ts vs H → All2 (A i) vs H := by exact fun _ _ h => h)
    (hg : Gl X x := by rfl) (hdb : (x == ("__debug__" : Str)) = false := by decide) (he : starEach (e :: es) X.env = (false, eval e X.env) :: starEach es X.env := by first | exact se_cons rfl | exact se_one rfl | exact se_two rfl rfl | rfl) (hpl : (backTo pos (starEach es X.env)).any (·.1) = false := by first | exact se_any rfl | rfl) :
    GGen X Γ (.Call (.Name x p) (e :: es) [] pos) (items i) (ends i) := fun pins s σ H I t => by
  obtain ⟨f, fd, hm, hk, hb, run⟩ := F.ex
  refine wpAny_Call_Name_kw (ld_glob I hg hm ?_ hdb)
  refine PySem.W.callWith_K (h₀ := X.base) I.ok.mod.kin hk (thn ((ha σ H t (fun vs H1 => Ex H H1 ∧ All2 Ts vs H1) fun vs H1 e1 h1 => ⟨e1, h1⟩).run pos pins s I) fun us s1 ⟨vs, H1, I1, r1, e1, h1⟩ => ⟨I1.kIn, ?_⟩) he hpl
  have hA : All2 (A i) vs H1 := hT vs H1 h1
  have hlen : (us ++ []).length = ps.length := by
    rw [List.append_nil, ← r1.length, ← hA.len]
    exact F.len i
  refine wpAny_call (codeAny_mono (run X.A X.stack s1 H1 ⟨us, []⟩ us vs i (hr.mono (Nat.le_succ k)) I1.env0 (by have z := hb s1 us I1.kIn hlen; rwa [List.append_nil] at z) r1 hA) fun r s' hq => ?_)
  cases r with
  | error e => exact False.elim hq
  | ok fl =>
    cases fl with
    | next => exact False.elim hq
    | brk => exact False.elim hq
    | cont => exact False.elim hq
    | ret u =>
      obtain ⟨ga, g, c, N, qual, scope, f', cd, σg, rfl, h1', h2', hgen, hgs, hos, hbare, hkp, hsl⟩ := hq
      obtain ⟨nc, S⟩ := hsl X.A.in1 (hr.in1) I1.ok.frames
      have I2 : Inv X pins σ H1 s' := I1.call' (ch := []) hos (Un.kept hkp) (I1.hok.kept hkp) hbare fun b z => absurd z (by simp)
      have fpo : ∀ b, s1.heap.objs.size ≤ b → FpOk X pins H1 b := fun b hb => I1.fpOk hb (I1.hok.fresh hb)
      refine ⟨H1, ga, g, N, qual, scope, f', cd, s1.heap.objs.size, rfl, e1, I2, nc, I1.sz, fpo, ⟨[], σg, H1, s', _, S, ⟨fun _ _ _ e => e, hgen, ?_, fun b hb => ?_, ⟨h1', by simp⟩⟩, ⟨fun b hb => ?_, fun y c hy => ?_, ?_, fun b hb1 hb2 => ?_, ?_⟩, hgs, fun z => by cases z⟩⟩
      · rw [off_nil]; exact Le.refl _
      · rcases hb with hb | hb | hb
        · subst hb; exact fpo _ (Nat.le_refl _)
        · subst hb; exact fpo _ (Nat.le_of_lt h1')
        · cases hb
      · obtain ⟨_, o, ho, _⟩ := I1.stack.mem hb
        exact Heap.lt_size ho
      · obtain ⟨v, hc⟩ := I1.cell y c hy
        exact hc.lt
      · exact Nat.le_trans I1.ok.bsz I1.sz
      · exact absurd (Nat.lt_of_lt_of_le hb2 (Nat.le_trans I1.sz hb1)) (Nat.lt_irrefl _)
      · exact Nat.lt_trans h1' h2'
end
end RL

set_option Elab.async false
set_option linter.all false
set_option maxRecDepth 100000
set_option maxHeartbeats 4000000
/-! RLglc: [.. for x in a generator if ..] -/
namespace RL
open PySem PySem.Spec PyProof.Rows L2
theorem dzF {α : Type} {M : Model} {A : Around} {t : Sem α} {Q : α → Shared → Prop} {s : Shared} (h : wpAny M A t Q (fun _ _ => False) (doze s)) : wpAny M A t (fun a s' => ∃ s2, Woke s s2 s' ∧ Q a s2) (fun _ _ => False) s :=
  wpAny_mono (sleepers h) (fun _ _ z => z) fun _ _ ⟨_, _, z⟩ => z
theorem cloFrom_sub {cells : List (Str × Addr)} {names : List (Str × NameKind)} (hf : ∀ y ∈ names, y.2 = .free → ∃ c, cells.lookup y.1 = some c) {x : Str} {c : Addr} (h : (cloFrom cells names []).lookup x = some c) : cells.lookup x = some c := by
  rcases cloFrom_mem (PySem.mem_of_lookup h) with hm | ⟨h1, h2⟩
  · cases hm
  · obtain ⟨c1, hc⟩ := hf _ h1 rfl
    have hc : cells.lookup x = some c1 := hc
    have e2 : c = c1 := by
      rw [h2, hc] <;> rfl
    rw [e2]
    exact hc
theorem cellsFrom_acc : ∀ (l : List (Str × NameKind)) (n : Nat) (acc : List (Str × Addr)), (∀ y ∈ l, y.2 ≠ .cell) → cellsFrom n l acc = acc := by
  intro l
  induction l with
  | nil => intro n acc _; rfl
  | cons y l ih =>
    intro n acc h
    obtain ⟨x, k⟩ := y
    have h1 := h (x, k) List.mem_cons_self
    have h2 := ih n acc fun z hz => h z (List.mem_cons_of_mem _ hz)
    cases k <;> first | exact h2 | exact absurd rfl h1
section
variable {X : Cx} {Γ : Ctx} {pos : Pos}
theorem g_lcGU {elt tg iter : Expr} {ifs : List Expr} {scope : Scope} {own : List (Str × Nat)} {g : TG} {items : List Ty} (rs : List (Option Ty)) (hi : GGen X Γ iter items true) (ok : BlkOk X.N X.env.scope scope own) (hcell : ∀ y ∈ scope.names, y.2 ≠ .cell)
    (hg : ∀ (s : Shared) (H : Hp) (C : Addr) (cl : List (Str × Addr)) (fp : List Addr), PG (X.blk s H scope (compEnvC scope cl C X.env) fp) tg g)
    (hl : rs.length = items.length) (hz : items.length ≤ sizeLine) (hSI : ∀ T ∈ items, Stb T)
    (hw : ∀ (i : Nat) (T : Ty), items[i]? = some T → ∃ Δ2, Tgt g T ((own.map (·.2)).foldr (fun v G => G.set v none) Γ) Δ2 ∧
      ((rs[i]? = some none ∧ GCTs X scope Δ2 ifs false) ∨ ∃ R, rs[i]? = some (some R) ∧ GCTs X scope Δ2 ifs true ∧ RL.GC X scope Δ2 elt R))
    (hS : ∀ R, some R ∈ rs → Stb R) (hwipe : OwnTgt g own) (hdp : X.A.depth < recursionLimit)
    (hc : X.calm = true := by rfl) (hN : X.N.Nodup := by first | assumption | decide) (hf : ∀ x, foldedSetIterable iter X.env x = pure x := by intro _; rfl) {σ : L2.St} {H : Hp} (t : Typed σ Γ H) {Q : VK}
    (q : ∀ D H' acc, Ex H H' → H D = none → H' D = some (.lst acc) → All2 (keptT rs) acc H' → Q (.ref D) H') : tE X (.ListComp elt [⟨tg, iter, ifs, 0⟩] scope pos) σ H Q := ⟨fun pins s I => by
  have hfree : ∀ y ∈ scope.names, y.2 = .free → ∃ c, X.env.cells.lookup y.1 = some c := fun y hy e => by
    rcases ok.free y hy e with k | k
    · exact I.ok.has _ (.inl k)
    · exact I.ok.has _ (.inr k)
  rw [eval_ListComp]
  refine wpAny_comprehension_free (use := none) rfl hf (closure_ok hfree) ok.kind (fun y hy e => by rw [ok.uniq y hy, e]) (thn (hi pins s σ H I t) fun v s2 h1 => ?_)
  obtain ⟨H2, ga, gi, N, qual, gsc, f, cd, L, rfl, e2, I2, nc, hL, hfp, R2⟩ := h1
  have hgen2 : s2.heap.IsGen ga gi := by
    obtain ⟨_, _, _, _, _, _, A, _⟩ := R2.ex
    exact A.gen
  refine wpAny_pyIter_gen hgen2 (wpAny_newObj_type (newEnv_comp ?_) (by show 0 ≤ sizeLine; decide))
  obtain ⟨pv, σg, Hy, sy, gs, S, A, n, hgs, _⟩ := R2.ex
  have hlt : L < s2.heap.objs.size := n.sz
  generalize hD : s2.heap.objs.size = D
  have hDn : H2 D = none := I2.hok.fresh (Nat.le_of_eq hD)
  have hHD : H D = none := e2.dom D hDn
  generalize hs3 : ({ s2 with heap := s2.heap.push { cls := .type "list", data := .seq ([] : List Value).toArray } } : Shared) = s3
  have I3 : Inv X pins σ (upd H2 D (.lst [])) s3 := by
    rw [← hs3]
    refine I2.laid (t' := s2.toks) (fun b o e => Heap.get?_push_of_some _ e) (Nat.le_of_eq hD) ⟨Nat.zero_le _, [], 0, .nil, ?_⟩
    rw [← hD]
    exact Heap.get?_push_size _ rfl
  have h3 : s3.heap = s2.heap.push { cls := .type "list", data := .seq ([] : List Value).toArray } := by rw [← hs3]
  have g3 : s3.gens = s2.gens := by rw [← hs3]
  have sz3 : s3.heap.objs.size = D + 1 := by rw [h3, Heap.size_push, hD]
  have k23 : ∀ b o, s2.heap.get? b = some o → s3.heap.get? b = some o := fun b o e => by rw [h3]; exact Heap.get?_push_of_some _ e
  -- all that is younger than the generator's frame
  generalize hfpl : (List.range D).filter (fun b => decide (L ≤ b)) = fp
  have memfp : ∀ {b : Addr}, b ∈ fp ↔ b < D ∧ L ≤ b := fun {b} => by
    rw [← hfpl, List.mem_filter, List.mem_range, decide_eq_true_eq]
  have f3 : ∀ b ∈ fp, FpOk X pins (upd H2 D (.lst [])) b ∧ b < s3.heap.objs.size := fun b hb => by
    obtain ⟨h1, h2⟩ := memfp.mp hb
    refine ⟨⟨?_, (hfp b h2).2⟩, by rw [sz3]; exact Nat.lt_succ_of_lt h1⟩
    rw [upd_ne (Nat.ne_of_lt h1)]
    exact (hfp b h2).1
  have I4 := block_start I3 ok hN f3
  have cc : cellsFrom (s3.heap.objs.size + 1) scope.names (cloFrom X.env.cells scope.names []) = cloFrom X.env.cells scope.names [] := cellsFrom_acc _ _ _ hcell
  have pg := hg s3 (upd H2 D (.lst [])) s3.heap.objs.size (cellsFrom (s3.heap.objs.size + 1) scope.names (cloFrom X.env.cells scope.names [])) fp
  show codeAny _ _ (.compStart (.ListComp elt [⟨tg, iter, ifs, 0⟩] scope pos) 0 (.ref ga) (.ref D) (compEnvC scope (cellsFrom (s3.heap.objs.size + 1) scope.names (cloFrom X.env.cells scope.names [])) s3.heap.objs.size X.env)) (compPost (model X.prog X.w) X.A X.xe none (EP X pins σ Q) (.ref D) s3.heap.objs.size) { s3 with heap := pushCells (s3.heap.push { cls := .type "dict", data := .dict #[] }) scope.names }
  have k34 : ∀ b o, s3.heap.get? b = some o → (pushCells (s3.heap.push { cls := .type "dict", data := .dict #[] }) scope.names).get? b = some o := fun b o e => pushCells_keeps _ _ _ _ (Heap.get?_push_of_some _ e)
  generalize hce : compEnvC scope (cellsFrom (s3.heap.objs.size + 1) scope.names (cloFrom X.env.cells scope.names [])) s3.heap.objs.size X.env = ce at I4 pg ⊢
  have cL : ce.locals = s3.heap.objs.size := by subst hce; rfl
  have cC : ce.cells = cloFrom X.env.cells scope.names [] := by subst hce; exact cc
  generalize hH3 : upd H2 D (.lst []) = H3 at I3 I4 pg f3
  have hH3D : H3 D = some (.lst []) := by rw [← hH3]; exact upd_same
  have e23 : Ex H2 H3 := by rw [← hH3]; exact Ex.new hDn
  have g4 : ({ s3 with heap := pushCells (s3.heap.push { cls := .type "dict", data := .dict #[] }) scope.names } : Shared).gens = s2.gens := g3
  have k24 : ∀ b o, s2.heap.get? b = some o → ({ s3 with heap := pushCells (s3.heap.push { cls := .type "dict", data := .dict #[] }) scope.names } : Shared).heap.get? b = some o := fun b o e => k34 b o (k23 b o e)
  generalize hs4 : ({ s3 with heap := pushCells (s3.heap.push { cls := .type "dict", data := .dict #[] }) scope.names } : Shared) = s4 at I4 g4 k24 ⊢
  -- it sleeps in the block
  have fpB : ∀ {σ' : L2.St} {H' : Hp} {s' : Shared}, Inv (X.blk s3 H3 scope ce fp) [] σ' H' s' → ∀ b ∈ fp, H' b = none → FpOk (X.blk s3 H3 scope ce fp) [] H' b := fun {σ' H' s'} I' b hb hn =>
    ⟨hn, (I'.ok.exf b hb).1, I'.ok.exfs b hb, .inl hb, fun x c e => (I'.ok.exf b hb).2 x c e, fun p hp => absurd (show p ∈ ([] : List (Addr × Obj)) ++ [] from hp) (by simp)⟩
  have inFp : ∀ b, b = L ∨ b = ga ∨ b ∈ pv → b ∈ fp := fun b hb => by
    refine memfp.mpr ⟨?_, ?_⟩
    · rw [← hD]
      rcases hb with hb | hb | hb
      · rw [hb]; exact hlt
      · obtain ⟨o, nm, qn, ho, _⟩ := A.gen
        rw [hb]; exact Heap.lt_size ho
      · obtain ⟨ω, J⟩ := S.inv
        obtain ⟨⟨vs, e⟩, _⟩ := S.lst b hb
        obtain ⟨_, its, k, _, eo⟩ := J.hok b _ e
        exact Heap.lt_size (A.obj b (.inr hb) _ eo)
    · rcases hb with hb | hb | hb
      · rw [hb]; exact Nat.le_refl _
      · rw [hb]; exact Nat.le_of_lt A.ga.1
      · exact (S.lst b hb).2
  have hn3 : ∀ b ∈ fp, H3 b = none := fun b hb => (f3 b hb).1.1
  have midB : ∀ {H' : Hp}, (∃ acc, H' D = some (.lst acc)) → ∀ b, L ≤ b → b < (X.blk s3 H3 scope ce fp).s_0.heap.objs.size → b ∈ (X.blk s3 H3 scope ce fp).ex ∨ H' b ≠ none := fun {H'} hA b h1 h2 => by
    have h2' : b < s3.heap.objs.size := h2
    rw [sz3] at h2'
    by_cases c : b = D
    · right
      obtain ⟨acc, h⟩ := hA
      rw [c, h]
      exact nofun
    · exact .inl (memfp.mpr ⟨Nat.lt_of_le_of_ne (Nat.le_of_lt_succ h2') c, h1⟩)
  have R4 : Rests (X.blk s3 H3 scope ce fp) [] (gdOf X N qual gsc f cd L) true ga gi items H3 s4 false := by
    refine ⟨pv, σg, Hy, sy, gs, S, ⟨fun b hb o e => k24 b o (A.obj b hb o e), ?_, A.le.trans e23.le, fun b hb => fpB I4 b (inFp b hb) (hn3 b (inFp b hb)), A.ga⟩, ⟨n.fr, fun x c e => ?_, n.old, midB ⟨[], hH3D⟩, ?_⟩, by rw [g4]; exact hgs, fun z => by cases z⟩
    · obtain ⟨o, nm, qn, ho, r⟩ := A.gen
      exact ⟨o, nm, qn, k24 ga o ho, r⟩
    · have e' : ce.cells.lookup x = some c := e
      rw [cC] at e'
      exact n.cel x c (cloFrom_sub hfree e')
    · obtain ⟨o, nm, qn, ho, _⟩ := A.gen
      exact Nat.lt_trans A.ga.1 (Heap.lt_size (k24 ga o ho))
  have tσ0 : Typed (L2.wipe σ (own.map (·.2))) ((own.map (·.2)).foldr (fun v G => G.set v none) Γ) H3 := Typed.wipe _ (t.up (e2.trans e23))
  have loop : codeAny (model X.prog X.w) X.A (.compLoop (.ListComp elt [⟨tg, iter, ifs, 0⟩] scope pos) 0 (.ref ga) (.ref D) ce) (compPost (model X.prog X.w) X.A X.xe none (EP X pins σ Q) (.ref D) s3.heap.objs.size) s4 := by
    refine compLoop_any (fun m s' => ∃ i H' su acc, i ≤ items.length ∧ m = items.length - i ∧ Inv (X.blk s3 H3 scope ce fp) [] (L2.wipe σ (own.map (·.2))) H' s' ∧ Rests (X.blk s3 H3 scope ce fp) [] (gdOf X N qual gsc f cd L) true ga gi (items.drop i) H' s' su ∧ Ex H2 H' ∧ H' D = some (.lst acc) ∧ All2 (keptT (rs.take i)) acc H') ?_ items.length ⟨0, H3, false, [], Nat.zero_le _, rfl, I4, R4, e23, hH3D, by simp [keptT, All2]⟩
    rintro m s5 ⟨i, H5, su, acc, hi5, rfl, I5, R5, e5, hacc, hA⟩
    refine thnF (gen_next (Q := fun r s6 => _) (X := X.blk s3 H3 scope ce fp) hc hdp I5 nc R5 (fun T hT => hSI T (List.mem_of_mem_drop hT)) (.inr rfl) (fun T rem' x u H6 s6 hrem ru hx e6 I6 R6 => ?_) fun hrem H6 s6 e6 I6 => ?_) fun r s6 h6 => h6
    · have hi2 : i < items.length := by
        by_cases c : i < items.length
        · exact c
        · rw [List.drop_eq_nil_iff.mpr (by omega)] at hrem
          cases hrem
      have hT : items[i]? = some T := by
        rw [List.drop_eq_getElem_cons hi2] at hrem
        injection hrem with h1 h2
        rw [List.getElem?_eq_getElem hi2, h1]
      have hrem' : rem' = items.drop (i + 1) := by
        rw [List.drop_eq_getElem_cons hi2] at hrem
        injection hrem with h1 h2
        exact h2.symm
      subst hrem'
      obtain ⟨fp2, hfp2, hob2, hga2, k, l, c, p, fs, cl, hgs6, re⟩ := rests_kept R6
      have hgo : s6.heap.IsGen ga gi := by
        obtain ⟨_, _, _, _, _, _, A6, _⟩ := R6.ex
        exact A6.gen
      obtain ⟨go, nm, qn, hgo1, hgo2, hgo3, _⟩ := hgo
      have hacc6 := e6 _ _ hacc
      have hA6 : All2 (keptT (rs.take i)) acc H6 := hA.up e6
      refine go_of hgo1 hgo2 hgo3 (by decide) ?_
      obtain ⟨Δ2, tgt, alt⟩ := hw i T hT
      have I6' := I6.pinned hfp2 hob2
      have tσ6 : Typed (L2.wipe σ (own.map (·.2))) ((own.map (·.2)).foldr (fun v G => G.set v none) Γ) H6 := Typed.wipe _ (t.up (e2.trans (e5.trans e6)))
      have hlen : acc.length < sizeLine := by
        rw [← hA.len]
        exact Nat.lt_of_le_of_lt (keptT_len rs i) (Nat.lt_of_lt_of_le hi2 hz)
      refine thnF (dzF (pg.run ([] ++ pinsAt fp2 s6.heap) (doze s6) _ H6 x u _ (inv_doze I6') ru (hwipe x σ H6 (fun σ7 H7 => H7 = H6 ∧ Typed σ7 Δ2 H6) (tgt x _ H6 _ hx tσ6 fun σ2 t2 => ⟨rfl, t2⟩)))) fun _ s7 ⟨s72, w7, σ7, H7, I7, hw7, eH, t7⟩ => ?_
      subst eH
      have I7' := inv_woke w7 I6.bare I7
      have g7 := w7.slept gi k l c p fs cl hgs6
      -- the turn's end
      have fin : ∀ {s' : Shared} {H' : Hp} {acc' : List V}, Inv (X.blk s3 H3 scope ce fp) ([] ++ pinsAt fp2 s6.heap) σ7 H' s' → s'.gens[gi]? = some (GenState.suspended k l c p fs cl) → Le H7 H' → Ex H2 H' → H' D = some (.lst acc') → All2 (keptT (rs.take (i + 1))) acc' H' → ∃ m, m < items.length - i ∧ ∃ i H' su acc, i ≤ items.length ∧ m = items.length - i ∧ Inv (X.blk s3 H3 scope ce fp) [] (L2.wipe σ (own.map (·.2))) H' s' ∧ Rests (X.blk s3 H3 scope ce fp) [] (gdOf X N qual gsc f cd L) true ga gi (items.drop i) H' s' su ∧ Ex H2 H' ∧ H' D = some (.lst acc) ∧ All2 (keptT (rs.take i)) acc H' := fun {s' H' acc'} I' g' le' ex' hacc' hA' => by
        have pin' : ∀ b ∈ fp2, ∀ o, s6.heap.get? b = some o → s'.heap.get? b = some o ∧ H' b = none := fun b hb o e =>
          let z := I'.pin (b, o) (List.mem_append_right _ (List.mem_append_right _ (mem_pinsAt hb e)))
          ⟨z.1, z.2.1⟩
        have hl' : (L2.wipe σ (own.map (·.2))).length = σ7.length := by rw [← hw7, wipe_length]
        refine ⟨items.length - (i + 1), by omega, i + 1, H', true, acc', by omega, rfl, (I'.unpinned (pins := [])).weak hl' (fun j v e => ?_), re H' s' le' (fun b hb => ?_) (fun b hb o e => (pin' b hb o e).1) g' (midB ⟨acc', hacc'⟩), ex', hacc', hA'⟩
        · rw [← hw7] at e
          exact (wipe_some e).1
        · obtain ⟨o, e, _⟩ := hob2 b hb
          exact (pin' b hb o e).2
      subst hce
      rcases alt with ⟨hr, hT0⟩ | ⟨R, hr, hT1, hE⟩
      · refine thnF (dzF ((hT0 s3 H3 _ _ fp σ7 H7 t7 (fun b H8 => b = false ∧ Ex H7 H8) fun H8 e8 => ⟨rfl, e8⟩).run ([] ++ pinsAt fp2 s6.heap) (doze s7) (inv_doze I7'))) fun b s8 ⟨s82, w8, H8, I8, hb, e8⟩ => ?_
        subst hb
        simp only [Bool.false_eq_true, if_false]
        refine fin (inv_woke w8 I7'.bare I8) (w8.slept gi k l c p fs cl g7) e8.le ((e5.trans e6).trans e8) (e8 _ _ hacc6) ?_
        rw [keptT_take hr]
        simpa using hA6.up e8
      · refine thnF (dzF ((hT1 s3 H3 _ _ fp σ7 H7 t7 (fun b H8 => b = true ∧ Ex H7 H8) fun H8 e8 => ⟨rfl, e8⟩).run ([] ++ pinsAt fp2 s6.heap) (doze s7) (inv_doze I7'))) fun b s8 ⟨s82, w8, H8, I8, hb, e8⟩ => ?_
        subst hb
        simp only [if_true]
        have I8' := inv_woke w8 I7'.bare I8
        have g8 := w8.slept gi k l c p fs cl g7
        refine thnF (dzF ((hE s3 H3 _ _ fp σ7 H8 (t7.up e8) (fun y H9 => Ex H8 H9 ∧ R y H9) fun y H9 e9 hy => ⟨e9, hy⟩).run ([] ++ pinsAt fp2 s6.heap) (doze s8) (inv_doze I8'))) fun z s9 ⟨s92, w9, yv, H9, I9, r9, e9, hy⟩ => ?_
        have I9' := inv_woke w9 I8'.bare I9
        have g9 := w9.slept gi k l c p fs cl g8
        have hD9 := e9 _ _ (e8 _ _ hacc6)
        refine thnF (dzF (app_ok (X := X.blk s3 H3 scope (compEnvC scope (cellsFrom (s3.heap.objs.size + 1) scope.names (cloFrom X.env.cells scope.names [])) s3.heap.objs.size X.env) fp) (Q := fun _ s' => Inv (X.blk s3 H3 scope (compEnvC scope (cellsFrom (s3.heap.objs.size + 1) scope.names (cloFrom X.env.cells scope.names [])) s3.heap.objs.size X.env) fp) ([] ++ pinsAt fp2 s6.heap) σ7 (upd H9 D (.lst (acc ++ [yv]))) s') (inv_doze I9') hD9 hlen r9 fun s11 I11 => I11)) fun _ s10 ⟨s102, w10, I10⟩ => ?_
        have hm : Le H9 (upd H9 D (.lst (acc ++ [yv]))) := Le.mut hD9 trivial
        refine fin (inv_woke w10 I9'.bare I10) (w10.slept gi k l c p fs cl g9) ((e8.trans e9).le.trans hm) (((e5.trans e6).trans (e8.trans e9)).mut hDn hD9) upd_same ?_
        rw [keptT_take hr]
        exact All2.append ((keptT_stb hS i).le ((e8.trans e9).le.trans hm) hA6) ⟨(hS R (List.mem_of_getElem? hr)).le hm hy, trivial⟩
    · have hll : items.length ≤ i := List.drop_eq_nil_iff.mp hrem
      have hi2 : i = items.length := by omega
      have I7 : Inv X pins σ H6 s6 := I3.call' (ch := fp) I6.os I6.base I6.hok I6.bare fun b hb => ⟨(f3 b hb).1.2.2.2.1, (f3 b hb).1.2.1, (f3 b hb).1.2.2.2.2.1, (f3 b hb).1.2.2.2.2.2⟩
      have nC : H6 s3.heap.objs.size = none := by
        have z : H6 ce.locals = none := I6.free
        rw [cL] at z
        exact z
      obtain ⟨mm, hn, _⟩ := I6.loc
      have hn : s6.heap.Ns ce.locals mm := hn
      rw [cL] at hn
      obtain ⟨f0, f1, f2, f3', f4, f5⟩ := I3.fpOk (Nat.le_refl _) nC
      refine ⟨mm, hn, fun h'' sb => ⟨.ref D, H6, I7.turned (t' := s6.toks) (fun b o hb e => (sb.2 b hb).trans e) f0 f1 f3' f4 f5, rfl, q D H6 acc (e2.trans (e5.trans e6)) hHD (e6 _ _ hacc) ?_⟩⟩
      rw [hi2, ← hl, List.take_length] at hA
      exact hA.up e6
  exact codeAny_compStart_list loop (wpAny_pyIter_gen (by
    obtain ⟨_, _, _, _, _, _, A4, _⟩ := R4.ex
    exact A4.gen) loop)⟩
/-- the same, the list frozen at once -/
theorem g_lcG {elt tg iter : Expr} {ifs : List Expr} {scope : Scope} {own : List (Str × Nat)} {g : TG} {items : List Ty} (rs : List (Option Ty)) (hi : GGen X Γ iter items true) (ok : BlkOk X.N X.env.scope scope own) (hcell : ∀ y ∈ scope.names, y.2 ≠ .cell)
    (hg : ∀ (s : Shared) (H : Hp) (C : Addr) (cl : List (Str × Addr)) (fp : List Addr), PG (X.blk s H scope (compEnvC scope cl C X.env) fp) tg g)
    (hl : rs.length = items.length) (hz : items.length ≤ sizeLine) (hSI : ∀ T ∈ items, Stb T)
    (hw : ∀ (i : Nat) (T : Ty), items[i]? = some T → ∃ Δ2, Tgt g T ((own.map (·.2)).foldr (fun v G => G.set v none) Γ) Δ2 ∧
      ((rs[i]? = some none ∧ GCTs X scope Δ2 ifs false) ∨ ∃ R, rs[i]? = some (some R) ∧ GCTs X scope Δ2 ifs true ∧ RL.GC X scope Δ2 elt R))
    (hS : ∀ R, some R ∈ rs → Stb R) (hwipe : OwnTgt g own) (hdp : X.A.depth < recursionLimit) {T' : Ty} (hR : lstT (keptT rs) = T')
    (hc : X.calm = true := by rfl) (hN : X.N.Nodup := by first | assumption | decide) (hf : ∀ x, foldedSetIterable iter X.env x = pure x := by intro _; rfl) : G X Γ (.ListComp elt [⟨tg, iter, ifs, 0⟩] scope pos) T' := hR ▸ fun σ H t Q q =>
  tE_frz (g_lcGU rs hi ok hcell hg hl hz hSI hw hS hwipe hdp hc hN hf t fun D H' acc e hD hacc hA => ⟨D, _, hacc, trivial, fun od => q _ _ (e.mut hD hacc) ⟨D, acc, rfl, ⟨od, upd_same⟩, by
    have z := keptT_stb hS rs.length
    rw [List.take_length] at z
    exact z.le (Le.mut hacc trivial) hA⟩⟩)
end
end RL

set_option Elab.async false
set_option linter.all false
set_option maxRecDepth 100000
set_option maxHeartbeats 4000000
/-! RLtset: sets of texts: set(l), add, sorted(s) -/
namespace RL
open PySem PySem.Spec PyProof.Rows L2
section
variable {P : Program} {w : World} {A : Around} {E : Value → Shared → Prop} {s : Shared} {a : Addr} {ys : List Str} {h h' : Heap}
theorem SetT.at (R : SetT w h a ys) (k : ∀ o, h.get? a = some o → h'.get? a = some o) : SetT w h' a ys := let ⟨o, es, ep, t, ho, r⟩ := R; ⟨o, es, ep, t, k o ho, r⟩
theorem SetT.congr {zs : List Str} (R : SetT w h a ys) (e : ∀ k, k ∈ zs ↔ k ∈ ys) (hl : ys.length ≤ zs.length) : SetT w h a zs := let ⟨o, es, ep, t, r1, r2, r3, r4, r5, r6, r7, r8⟩ := R; ⟨o, es, ep, t, r1, r2, r3, r4, r5, fun k => (e k).trans (r6 k), Nat.le_trans r7 hl, r8⟩
theorem sk_is (x : Str) (tk : Tok) : (PySem.strKind P w).is x (.str x tk) = true := by
  show Value.isStrOf x (.str x tk) = true
  simp [Value.isStrOf]
theorem goodS_elems {l : List (Int × Value)} (g : ∀ e ∈ l, GoodS w e) : ElemsOf (PySem.strKind P w) l := fun e he => by
  obtain ⟨x, tk, h1, h2⟩ := g e he
  refine ⟨⟨x, by rw [h1]; exact sk_is x tk, h2⟩, ?_⟩
  rw [h1]; rfl
theorem goodS_is {e : Int × Value} (g : GoodS w e) (k : Str) : (PySem.strKind P w).is k e.2 = true ↔ keyS e = k := by
  obtain ⟨x, tk, h1, _⟩ := g
  unfold keyS
  rw [h1]
  show Value.isStrOf k (.str x tk) = true ↔ x = k
  constructor
  · intro z
    obtain ⟨t, ht⟩ := Value.isStrOf_shape z
    injection ht
  · rintro rfl
    simp [Value.isStrOf]
theorem goodS_mem {l : List (Int × Value)} (g : ∀ e ∈ l, GoodS w e) (k : Str) : k ∈ l.map keyS ↔ ∃ e ∈ l, (PySem.strKind P w).is k e.2 = true := by
  rw [List.mem_map]
  exact ⟨fun ⟨e, he, q⟩ => ⟨e, he, (goodS_is (g e he) k).2 q⟩, fun ⟨e, he, q⟩ => ⟨e, he, (goodS_is (g e he) k).1 q⟩⟩
/-- the table is written, laid anew if it is too full -/
theorem tset_tail {g : Bool → Sem Unit} (hg : ∀ (b : Bool) (s₁ : Shared) (Q' : Unit → Shared → Prop), Q' () s₁ → wpAny (model P w) A (g b) Q' E s₁) {o : Obj} {es es1 : Array (Int × Value)} {ep : Nat} {t t2 : SetTable} {zs : List Str}
    (ho : s.heap.get? a = some o) (hex : o.ExactSet) (hd : o.data = .set es ep t) (g1 : ∀ e ∈ es1.toList, GoodS w e) (nd1 : (es1.toList.map keyS).Nodup) (m1 : ∀ k, k ∈ zs ↔ k ∈ es1.toList.map keyS) (hz1 : es1.size ≤ zs.length)
    (hb1 : es1.size < scanBound) (hf2 : t2.fits es1.size = true) (hr : Ris t2.place.toList) (hl : w.params.followText "set-order" = true ∨ t2.led = true) {wasDummy : Bool} {R : Option Bool → Shared → Prop}
    (hR : ∀ h', Heap.SameBut a s.heap h' → SetT w h' a zs → R (some true) { s with heap := h' }) :
    wpAny (model P w) A (do
        storeSet a es1 t2
        if (!wasDummy && t2.tooFull) = true then do
            g (relayAll t2 es1 (SetTable.grown es1.size)).2.2
            storeSet a (relayAll t2 es1 (SetTable.grown es1.size)).1 (relayAll t2 es1 (SetTable.grown es1.size)).2.1
            pure (some true)
          else pure (some true)) R E s := by
  have ho1 := store_at (es' := es1) (t' := t2) ho hd
  have sb1 := Heap.SameBut.update s.heap a (Obj.putSet es1 t2)
  refine wpAny_bind (wpAny_storeSet_of ho hd ?_ (fits_of_scanBound hb1))
  split
  · have z1 := relayAll_perm t2 es1 (SetTable.grown es1.size)
    have z2 := relayAll_fits t2 es1 (SetTable.grown es1.size)
    have z3 := relayAll_ris t2 es1 (SetTable.grown es1.size)
    have z4 := relayAll_led t2 es1 (SetTable.grown es1.size)
    generalize relayAll t2 es1 (SetTable.grown es1.size) = Z at z1 z2 z3 z4 ⊢
    obtain ⟨es2, t3, gave⟩ := Z
    have hsz : es2.size = es1.size := by
      have := z1.length_eq
      simpa using this
    have hb2 : es2.size < scanBound := hsz ▸ hb1
    refine wpAny_bind (hg gave _ _ (wpAny_bind (wpAny_storeSet_of ho1 rfl (wpAny_pure (hR _ (sb1.trans (Heap.SameBut.update _ a _)) ⟨_, es2, _, t3, store_at (es' := es2) (t' := t3) ho1 rfl, hex, rfl, fun e he => g1 e (z1.mem_iff.mp he), (z1.map keyS).nodup_iff.mpr nd1, fun k => (m1 k).trans (z1.map keyS).mem_iff.symm, by show es2.size ≤ _; rw [hsz]; exact hz1, hb2, ?_, z3, hl.imp id fun z => ?_⟩)) (fits_of_scanBound hb2))))
    · show t3.fits es2.size = true
      exact z2
    · show t3.led = true
      exact z4.trans z
  · exact wpAny_pure (hR _ sb1 ⟨_, es1, _, t2, ho1, hex, rfl, g1, nd1, m1, hz1, hb1, hf2, hr, hl⟩)
theorem tset_put {k : Str} {tk : Tok} {Q : Bool → Shared → Prop} (R : SetT w s.heap a ys) (room : ys.length + 1 < scanBound)
    (hQ : ∀ b h', Heap.SameBut a s.heap h' → SetT w h' a (ys ++ [k]) → Q b { s with heap := h' }) :
    wpAny (model P w) A (setAddHashed a (.str k tk) ((PySem.strKind P w).hash k)) Q E s := by
  obtain ⟨o, es, ep, t, ho, hex, hd, g, nd, hm, hz, hb, hf, hr, hl⟩ := R
  have hsc : (Value.str k tk).scannable = true := rfl
  have hel : ElemsOf (PySem.strKind P w) es.toList := goodS_elems g
  unfold setAddHashed setAddHashedIn
  refine wpAny_holding (wpAny_bind (wpAny_setState_of ho hd hf ?_))
  dsimp only
  rw [byScan_of hsc hb hel]
  simp only [↓reduceIte]
  unfold setAddByScan
  refine wpAny_bind (wpAny_bind (wpAny_rule (wpAny_bind (wpAny_setScan_of (sk_is k tk) ho hd hf hel ?_))))
  cases hfi : List.findIdx? (fun e => (PySem.strKind P w).is k e.2) es.toList with
  | some j =>
    dsimp only
    obtain ⟨hj, pj, _⟩ := List.findIdx?_eq_some_iff_getElem.mp hfi
    have hin : k ∈ ys := (hm k).2 ((goodS_mem (P := P) g k).2 ⟨es.toList[j], List.getElem_mem hj, pj⟩)
    refine wpAny_pure (wpAny_pure (hQ _ s.heap (Heap.SameBut.refl a s.heap) ⟨o, es, ep, t, ho, hex, hd, g, nd, fun i => ?_, by rw [List.length_append]; exact Nat.le_add_right_of_le hz, hb, hf, hr, hl⟩))
    rw [List.mem_append, List.mem_singleton, ← hm i]
    exact ⟨fun z => z.elim id fun e => e ▸ hin, .inl⟩
  | none =>
    dsimp only
    have hnk : k ∉ es.toList.map keyS := fun z => by
      obtain ⟨e, he, q⟩ := (goodS_mem (P := P) g k).1 z
      have c := List.findIdx?_eq_none_iff.mp hfi e he
      rw [q] at c
      cases c
    have hgw : ∀ (b : Bool) (s₁ : Shared) (Q' : Unit → Shared → Prop), Q' () s₁ → wpAny (model P w) A (match b with | true => rule "set.scan.the-table-gave-way" | false => pure ()) Q' E s₁ := fun b s₁ Q' q => by
      cases b
      · exact wpAny_pure q
      · exact wpAny_rule q
    have z1 := layNew_perm t es ((PySem.strKind P w).hash k) (.str k tk)
    have z2 := layNew_fits t es ((PySem.strKind P w).hash k) (.str k tk)
    have z3 := layNew_ris t es ((PySem.strKind P w).hash k) (.str k tk) hr
    have z4 := layNew_led t es ((PySem.strKind P w).hash k) (.str k tk)
    generalize layNew t es ((PySem.strKind P w).hash k) (.str k tk) = Z at z1 z2 z3 z4 ⊢
    obtain ⟨es1, t1, wasDummy, gave⟩ := Z
    dsimp only at z1 z2 z3 z4 ⊢
    rw [Array.toList_push] at z1
    have pc : es1.toList.Perm (((PySem.strKind P w).hash k, Value.str k tk) :: es.toList) := z1.trans (List.perm_append_singleton _ _)
    have pk : (es1.toList.map keyS).Perm (k :: es.toList.map keyS) := pc.map keyS
    have g1 : ∀ e ∈ es1.toList, GoodS w e := fun e he => (List.mem_cons.mp (pc.mem_iff.mp he)).elim (fun z => by rw [z]; exact ⟨k, tk, rfl, rfl⟩) (g e)
    have nd1 : (es1.toList.map keyS).Nodup := pk.nodup_iff.mpr (List.nodup_cons.mpr ⟨hnk, nd⟩)
    have m1 : ∀ i, i ∈ ys ++ [k] ↔ i ∈ es1.toList.map keyS := fun i => by
      rw [List.mem_append, List.mem_singleton, hm i, pk.mem_iff, List.mem_cons]
      exact Or.comm
    have hsz : es1.size = es.size + 1 := by
      have := pc.length_eq
      simpa using this
    have hz1 : es1.size ≤ (ys ++ [k]).length := by rw [List.length_append, hsz]; exact Nat.succ_le_succ hz
    have hb1 : es1.size < scanBound := by rw [hsz]; omega
    have hled : w.params.followText "set-order" = true ∨ t1.led = true := hl.imp id fun z => z4.trans z
    refine wpAny_bind (hgw _ _ _ ?_)
    split
    · refine wpAny_bind ?_
      rw [hashByValue_scannable 8 hsc]
      refine wpAny_pure (tset_tail hgw ho hex hd g1 nd1 m1 hz1 hb1 ?_ ?_ ?_ fun h' sb r => ?_)
      · first | (split <;> first | exact z2 | exact SetTable.fits_plain_off z2) | exact z2
      · first | (split <;> exact z3) | exact z3
      · first | (split <;> exact hled) | exact hled
      · dsimp only
        exact wpAny_pure (hQ _ h' sb r)
    · refine wpAny_bind (wpAny_pure ?_)
      simp only [↓reduceIte]
      refine tset_tail hgw ho hex hd g1 nd1 m1 hz1 hb1 z2 z3 hled fun h' sb r => ?_
      dsimp only
      exact wpAny_pure (hQ _ h' sb r)
theorem SetT.typed (R : SetT w s.heap a ys) : s.TypeIs (.ref a) "set" := let ⟨o, _, _, _, ho, hex, _⟩ := R; ⟨o, ho, hex.1⟩
/-- s.add(k) -/
theorem tset_add {k : Str} {tk : Tok} {Q : Value → Shared → Prop} (R : SetT w s.heap a ys) (room : ys.length + 1 < scanBound)
    (hQ : ∀ h', Heap.SameBut a s.heap h' → SetT w h' a (ys ++ [k]) → Q .none { s with heap := h', toks := s.toks + 1 }) : wpAny (model P w) A (call (.builtin "set.add") [.ref a, .str k tk]) Q E s := by
  refine wpAny_call_entry F.slot_set_add R.typed F.entry_set_add ?_ (F.args_set_add_2 _ _)
  unfold Builtin.«set.add» Builtin.Frozenset.oneOther
  simp only [List.isEmpty_nil, bind_assoc]
  unfold Builtin.Frozenset.addrOf setAdd
  refine wpAny_bind (wpAny_pure ?_)
  try dsimp only
  refine wpAny_bind (wpAny_pure ?_)
  try dsimp only
  refine wpAny_bind (wpAny_holding (wpAny_bind ((PySem.strKind P w).pyHash (sk_is k tk) ?_)))
  exact tset_put (s := { s with toks := s.toks + 1 }) R room fun b h' sb r => wpAny_pure ⟨_, rfl, hQ h' sb r⟩
theorem tset_new {w : World} {h : Heap} {a : Addr} (ho : h.get? a = some (set0 w)) : SetT w h a [] := ⟨_, #[], 0, _, ho, ⟨rfl, rfl, rfl⟩, rfl, (fun e he => by simp at he), (by simp), (fun k => by simp), Nat.zero_le _, (by decide), (by rfl), List.Pairwise.nil, by
    cases e : w.params.followText "set-order"
    · exact .inr rfl
    · exact .inl rfl⟩
/-- the loop that fills -/
theorem tset_fill {I : Addr} {fp wr : List Addr} {G : Array GenState → Array GenState → Prop} {n : Nat} {Pv : Nat → Value → Prop} {St : Nat → Shared → Prop} {R : Result → Shared → Prop} (W : WalksS P w A.in1 I fp wr G n Pv St) (S : Addr) (hSf : S ∉ fp) (ns : List Str) (hn : n = ns.length)
    (hb : ns.length + 1 < scanBound) (hval : ∀ i v, Pv i v → ∃ k t, ns[i]? = some k ∧ v = .str k t) : ∀ (k i : Nat) (s : Shared), n - i = k → i ≤ n → St i s → SetT w s.heap S (ns.take i) →
      (∀ s', Moved (S :: wr) G s s' → SetT w s'.heap S ns → R (.ok (.ret .none)) s') → codeAny (model P w) A (.builtin "set.update.loop" ⟨[.ref S, .ref I], []⟩) R s := by
  have hSw : S ∉ wr := fun h => hSf (W.sub _ h)
  have hsub : ∀ b ∈ wr, b ∈ S :: wr := fun b hb => List.mem_cons_of_mem _ hb
  intro k
  induction k with
  | zero =>
    intro i s hk' hi hst hS hR
    obtain rfl : i = n := by omega
    refine codeAny_builtin F.entry_set_update_loop ?_
    rw [Around.under_plainId F.plain_set_update_loop _]
    show wpAny _ A.in1 (pyNext (.ref I) >>= _) _ _ s
    refine wpAny_bind (W.done s _ _ hst fun s' hm => ?_)
    show wpAny _ A.in1 (ret Value.none) _ _ s'
    rw [List.take_of_length_le (Nat.le_of_eq hn.symm)] at hS
    exact wpAny_pure (hR s' (hm.mono hsub) (hS.at fun o e => hm.heap S o hSw e))
  | succ k ih =>
    intro i s hk' hi hst hS hR
    have hlt : i < n := by omega
    refine codeAny_builtin F.entry_set_update_loop ?_
    rw [Around.under_plainId F.plain_set_update_loop _]
    show wpAny _ A.in1 (pyNext (.ref I) >>= _) _ _ s
    refine wpAny_bind (W.item i s _ _ hlt hst fun v s' hP hst' hm => ?_)
    obtain ⟨z, t, hz, rfl⟩ := hval i v hP
    have hS' : SetT w s'.heap S (ns.take i) := hS.at fun o e => hm.heap S o hSw e
    show wpAny _ A.in1 (holding [Value.str z t] (setAdd S (.str z t)) >>= _) _ _ s'
    unfold setAdd
    refine wpAny_bind (wpAny_holding (wpAny_holding (wpAny_bind ((PySem.strKind P w).pyHash (sk_is z t) ?_))))
    have hlen : (ns.take i).length + 1 < scanBound := by rw [List.length_take]; omega
    refine tset_put (s := { s' with toks := s'.toks + 1 }) hS' hlen fun b h' hsb hS2 => ?_
    have e : ns.take i ++ [z] = ns.take (i + 1) := by rw [List.take_add_one, hz]; rfl
    rw [e] at hS2
    refine wpAny_pure ⟨plainId_quiet F.plain_set_update_loop _, ih (i + 1) _ (by omega) hlt (W.frame _ s' _ _ hst' (Nat.le_succ _) fun b hb o e => ?_) hS2 fun s'' hm'' hS'' => ?_⟩
    · rw [hsb.2 b (fun h : b = S => hSf (by rw [← h]; exact hb))]; exact e
    · refine hR s'' (Moved.trans W.gtrans ((hm.mono hsub).then_heap (Nat.le_succ _) fun b o hb e => ?_) hm'') hS''
      rw [hsb.2 b (fun h : b = S => hb (by rw [h]; exact List.mem_cons_self))]; exact e
end
end RL

set_option Elab.async false
set_option linter.all false
set_option maxRecDepth 100000
set_option maxHeartbeats 4000000
/-! RLrev: t[::-1], t a tuple -/
namespace RL
open PySem PySem.Spec PyProof.Rows L2
section
variable {prog : Program} {w : World} {A : Around} {E : Value → Shared → Prop} {s : Shared}
theorem places_rev (n : Nat) : Builtin.Slice.slicePlaces ((n : Int) - 1) (-1) (-1) = n := by
  unfold Builtin.Slice.slicePlaces
  rw [if_neg (by decide)]
  by_cases h : (n : Int) - 1 > -1
  · rw [if_pos h]
    have e : ((n : Int) - 1 - -1 - 1) / (- -1) + 1 = (n : Int) := by
      rw [show (- -1 : Int) = 1 by decide, Int.ediv_one]
      omega
    rw [e]
    exact Int.toNat_natCast n
  · rw [if_neg h]
    have : n = 0 := by omega
    rw [this]
    rfl
theorem sliceApplied_rev {sl : Addr} {vl vu vs : Value} {n : Nat} {Q : Int × Int × Nat → Shared → Prop} (hs : s.heap.IsSliceOf sl vl vu vs) (pl : IsPart vl none) (pu : IsPart vu none) (ps : IsPart vs (some (-1)))
    (h : Q ((n : Int) - 1, -1, n) s) : wpAny (model prog w) A (Builtin.Slice.sliceApplied (.ref sl) (pure (n : Int))) Q E s := by
  obtain ⟨os, hos, hcs, hds⟩ := id hs
  unfold Builtin.Slice.sliceApplied Builtin.Slice.sliceFields
  refine wpAny_bind (wpAny_bind (wpAny_field hos hds (x := vl) rfl (wpAny_bind (wpAny_field hos hds (x := vu) rfl (wpAny_bind (wpAny_field hos hds (x := vs) rfl (wpAny_pure ?_)))))))
  refine wpAny_bind (HT.slicePart_ ps ?_)
  show wpAny _ _ (if ((-1 : Int) == 0) = true then _ else _) _ _ s
  rw [if_neg (by decide)]
  refine wpAny_bind (HT.slicePart_ pl (wpAny_bind (HT.slicePart_ pu (wpAny_bind (wpAny_pure ?_)))))
  show wpAny _ _ (pure ((n : Int) - 1, (-1 : Int), Builtin.Slice.slicePlaces ((n : Int) - 1) (-1) (-1))) _ _ s
  rw [places_rev]
  exact wpAny_pure h
theorem pick_rev (xs : Array Value) : ((List.range xs.size).filterMap fun (k : Nat) => xs[((xs.size : Int) - 1 + (k : Int) * (-1)).toNat]?) = xs.toList.reverse := by
  have e : (fun (k : Nat) => xs[((xs.size : Int) - 1 + (k : Int) * (-1)).toNat]?) = (fun k => xs[k]?) ∘ fun k => xs.size - 1 - k := by
    funext k
    have : ((xs.size : Int) - 1 + (k : Int) * (-1)).toNat = xs.size - 1 - k := by omega
    rw [this] <;> rfl
  rw [e, ← List.filterMap_map, PySem.W.krv_range, List.filterMap_reverse, PySem.W.krv_all]
theorem getItem_tuple_rev {t sl : Addr} {items : Array Value} {vl vu vs : Value} {Q : Value → Shared → Prop} (ht : IsTup s.heap t items) (hs : s.heap.IsSliceOf sl vl vu vs) (pl : IsPart vl none) (pu : IsPart vu none) (ps : IsPart vs (some (-1)))
    (h : Q (.ref s.heap.objs.size) { s with heap := s.heap.push { cls := .type "tuple", data := .seq items.toList.reverse.toArray } })
    (hsz : items.size ≤ sizeLine) : wpAny (model prog w) A (getItem (.ref t) (.ref sl)) Q E s := by
  have htake : sizeOk (.seq items.toList.reverse.toArray) := by
    show items.toList.reverse.toArray.size ≤ sizeLine
    rw [List.size_toArray, List.length_reverse, Array.length_toList]
    omega
  obtain ⟨os, hos, hcs, hds⟩ := id hs
  have hTs : s.TypeIs (.ref sl) "slice" := ⟨os, hos, hcs⟩
  unfold getItem
  try with_reducible refine wpAny_holding ?_
  first | refine wpAny_bind (wpAny_pure ?_) | skip
  refine wpAny_bind (wpAny_sequenceKey ht.typeIs (by decide) ?_)
  refine wpAny_bind (wpAny_callSpecial?_slot (name := Str.ofString "__getitem__") ht.typeIs PyProof.Rows.slot_tuple_getitem
    (wpAny_call_entry PyProof.Rows.slot_tuple_getitem ht.typeIs entry_tuple_getitem ?_ (args_tuple_getitem _ _)))
  show wpAny _ _ (Builtin.Tuple.tupleItemsOf (.ref t) >>= _) _ _ s
  refine wpAny_bind (tupleItemsOf_ ht ?_)
  refine wpAny_bind (wpAny_typeOf hTs ?_)
  rw [if_pos (by decide)]
  refine wpAny_bind (sliceApplied_rev hs pl pu ps ?_)
  have hno : ¬ ((((items.size : Int) - 1) == 0 && (-1 : Int) == 1 && items.size == items.size) = true) := by
    intro q
    rw [Bool.and_eq_true, Bool.and_eq_true] at q
    exact absurd q.1.2 (by decide)
  show wpAny _ _ (if (((items.size : Int) - 1) == 0 && (-1 : Int) == 1 && items.size == items.size) = true then _ else _) _ _ s
  rw [if_neg hno, pick_rev]
  first
    | exact wpAny_bind (m := Builtin.Tuple.tupleExact _) (wpAny_newObj_type (wpAny_pure ⟨_, rfl, wpAny_pure h⟩) htake)
    | exact wpAny_bind (m := Builtin.Tuple.tupleExact _) (wpAny_newObj_type (wpAny_bind (wpAny_pure (wpAny_pure ⟨_, rfl, wpAny_pure h⟩))) htake)
    | exact wpAny_bind (wpAny_bind (m := Builtin.Tuple.tupleExact _) (wpAny_newObj_type (wpAny_pure (wpAny_pure ⟨_, rfl, wpAny_pure h⟩)) htake))
    | exact wpAny_bind (wpAny_bind (m := Builtin.Tuple.tupleExact _) (wpAny_newObj_type (wpAny_pure ⟨_, rfl, wpAny_pure h⟩) htake))
end
section
variable {X : Cx} {Γ : Ctx} {Ts : List Ty}
theorem pe_revT {e : Expr} {te : TE} {k : Nat} {p1 p2 p3 pos : Pos} (he : PE X e te) : PE X (.Subscript e (.Slice none none (some (.UnaryOp .USub (.Constant (.int 1) k p1) p2)) p3) pos) (fun σ H Q => te σ H fun x H1 => ∃ a xs, x = .ref a ∧ SqT X.K H1 a xs ∧ ∀ p, H1 p = none → Q (.ref p) (upd H1 p (.tup xs.reverse))) := by
  refine ⟨fun pins s σ H Q I h => ?_⟩
  refine Subscript_ (thn (he.run pins s σ H _ I h) fun v s1 ⟨x, H1, I1, r1, q1⟩ => ?_)
  obtain ⟨a, xs, ex, hx, q⟩ := q1
  subst ex
  cases r1
  have hst : PO X (some (.UnaryOp .USub (.Constant (.int 1) k p1) p2)) (tPart (tUn (rU fun i => .int (-i)) (tC (.int 1)))) := po_some (pe_un un_neg pe_int)
  refine wpAny_Slice (thn (po_none.run pins s1 σ H1 (fun o H2 => o = none ∧ H2 = H1) I1 ⟨rfl, rfl⟩) fun vl s2 ⟨l, H2, I2, pl, el, e2⟩ => ?_)
  subst el e2
  refine thn (po_none.run pins s2 σ H2 (fun o H3 => o = none ∧ H3 = H2) I2 ⟨rfl, rfl⟩) fun vu s3 ⟨u, H3, I3, pu, eu, e3⟩ => ?_
  subst eu e3
  refine thn (hst.run pins s3 σ H3 (fun o H4 => o = some (-1) ∧ H4 = H3) I3 ⟨1, rfl, -1, rfl, rfl, rfl⟩) fun vs s4 ⟨o, H4, I4, ps, eo, e4⟩ => ?_
  subst eo e4
  have I5 : Inv X pins σ H4 { s4 with heap := s4.heap.push { cls := .type "slice", data := .fields #[vl, vu, vs] } } := I4.kept (t' := s4.toks) fun b ob q => Heap.get?_push_of_some _ q
  obtain ⟨its, r, ht, hz⟩ := I5.tuple hx
  have hlen := r.length
  show wpAny (model X.prog X.w) X.A (subscriptTail e (.Slice none none (some (.UnaryOp .USub (.Constant (.int 1) k p1) p2)) p3) (.ref a) (.ref s4.heap.objs.size)) (EP X pins σ Q) X.xe { s4 with heap := s4.heap.push { cls := .type "slice", data := .fields #[vl, vu, vs] } }
  refine tail_any (ops := [.ref a, .ref s4.heap.objs.size]) ht.typeIs PyProof.Rows.slot_tuple_getitem.lookup ?_ (by with_unfolding_all rfl)
  refine getItem_tuple_rev ht (Heap.IsSliceOf.new _ vl vu vs) pl pu ps ?_ (by rw [List.size_toArray]; omega)
  refine ⟨.ref _, _, I5.laid (t' := s4.toks) (o := .tup xs.reverse) (fun b ob q => Heap.get?_push_of_some _ q) (Nat.le_refl _) ?_, rfl, q _ (I5.hok.fresh (Nat.le_refl _))⟩
  exact ⟨by rw [List.length_reverse]; exact hz, _, r.reverse, IsTup.new _ _⟩
theorem All2.reverse {H : Hp} : ∀ {Ts : List Ty} {vs : List V}, All2 Ts vs H → All2 Ts.reverse vs.reverse H
  | [], [], _ => trivial
  | T :: Ts, v :: vs, ⟨a, b⟩ => by
    rw [List.reverse_cons, List.reverse_cons]
    exact (All2.reverse b).append ⟨a, trivial⟩
  | [], _ :: _, h => h.elim
  | _ :: _, [], h => h.elim
theorem g_revT {e : Expr} {k : Nat} {p1 p2 p3 pos : Pos} (he : G X Γ e (tupT X.K Ts)) : G X Γ (.Subscript e (.Slice none none (some (.UnaryOp .USub (.Constant (.int 1) k p1) p2)) p3) pos) (tupT X.K Ts.reverse) := fun σ H t Q q =>
  toE (pe_revT (pe e)) (he σ H t _ fun v H1 e1 ⟨a, vs, ev, hp, h2⟩ => ⟨a, vs, ev, hp.sq, fun p hp => q _ _ (e1.trans (Ex.new hp)) ⟨p, _, rfl, .inl upd_same, (h2.up (Ex.new hp)).reverse⟩⟩)
end
end RL

set_option Elab.async false
set_option linter.all false
set_option maxRecDepth 100000
set_option maxHeartbeats 4000000
/-! RLmx: private lists (new, pop, extend), new lists that a def gives -/
namespace RL
open PySem PySem.Spec PyProof.Rows L2
section
variable {X : Cx} {Γ : Ctx} {e o a b c : Expr} {es : List Expr} {T U : Ty} {Ts Us : List Ty} {pos p p2 pos2 apos cpos : Pos} {x y : Str} {H0 : Bs} {D : Ends} {rest : List Stmt} {t : TA}
/-! ### a list's place is younger than the frame -/
theorem pe_lstN (h : PA X es t) : PE X (.List es pos) (fun σ H Q => t σ H fun xs H1 => xs.length ≤ sizeLine ∧ ∀ p, H1 p = none → X.env.locals ≤ p → Q (.ref p) (upd H1 p (.lst xs))) := by
  refine ⟨fun pins s σ H Q I hq => ?_⟩
  refine wpAny_List_spliced (thn (h.run pos pins s σ H _ I hq) fun us s1 ⟨xs, H1, I1, r, z, q⟩ => ⟨by rw [← r.length]; exact z, ?_⟩)
  have hf : H1 s1.heap.objs.size = none := I1.hok.fresh (Nat.le_refl _)
  refine ⟨.ref s1.heap.objs.size, upd H1 s1.heap.objs.size (.lst xs), I1.laid (t' := s1.toks) (fun b u e => Heap.get?_push_of_some _ e) (Nat.le_refl _) ?_, rfl, q _ hf (Nat.le_of_lt I1.lt)⟩
  exact ⟨z, us, 0, r, Heap.get?_push_size _ rfl⟩
/-- x = [e, ..] -/
theorem s_newL (i : Nat) (ha : GA X Γ es Ts) (hz : Ts.length ≤ sizeLine) (h : ∀ a σ' H', H0.e a = none → X.env.locals ≤ a → H0.ok H' → Typed σ' (Γ.set i (some (mlT a Ts))) H' → D.nx σ' H') {p' : Pos} (hN : X.N.Nodup := by first | assumption | decide) (hi : X.N[i]? = some x := by rfl) (hx : Loc X.env.scope x := by first | exact Or.inl rfl | exact Or.inr rfl)
    (hs : swapsWith (.List es p2) (some (.Name x p')) pos.line X.env = pure false := by rfl) (hf : X.fn x = true ∨ X.env.scope.names.lookup x = some .local := by first | exact .inl rfl | exact .inr rfl) : Sd X Γ (.Assign [.Name x p'] (.List es p2) pos) H0 D := fun σ H e0 t =>
  toS (ps_set (i := i) hN hi hx (pe_lstN (RL.pa es)) hs hf) (ha σ H t _ fun vs H1 e1 h1 => ⟨by rw [← h1.len]; exact hz, fun q hq hl => h q _ _ ((e0.trans e1).1.free hq) hl ((e0.trans e1).trans (Ex.new hq)) (((t.up e1).up (Ex.new hq)).set i ⟨rfl, _, upd_same, h1.up (Ex.new hq)⟩)⟩)
/-- y = x.pop(), x a list of one's own -/
theorem All2.last {H : Hp} : ∀ {Ts : List Ty} {T : Ty} {vs : List V}, All2 (Ts ++ [T]) vs H → ∃ ws w, vs = ws ++ [w] ∧ All2 Ts ws H ∧ T w H
  | [], T, [], h => h.elim
  | [], T, [v], ⟨a, _⟩ => ⟨[], v, rfl, trivial, a⟩
  | [], T, v :: w :: vs, ⟨_, h⟩ => h.elim
  | U :: Ts, T, [], h => h.elim
  | U :: Ts, T, v :: vs, ⟨a, h⟩ => by
    obtain ⟨ws, w, rfl, h1, h2⟩ := All2.last (Ts := Ts) h
    exact ⟨v :: ws, w, rfl, ⟨a, h1⟩, h2⟩
theorem s_pop [hTs : Stbs Ts] [hSt : Stb T] (i j : Nat) {aa : Addr} (hT : Γ[i]? = some (some (mlT aa (Ts ++ [T])))) (ha : H0.e aa = none) (hS : StbC aa (Γ.set i none))
    (h : ∀ σ' H', H0.ok H' → Typed σ' ((Γ.set i (some (mlT aa Ts))).set j (some T)) H' → D.nx σ' H') {p' : Pos} (hN : X.N.Nodup := by first | assumption | decide) (hi : X.N[i]? = some x := by rfl) (hj : X.N[j]? = some y := by rfl) (hy : Loc X.env.scope y := by first | exact Or.inl rfl | exact Or.inr rfl)
    (hv : Vis X.env.scope x := by first | exact Or.inl rfl | exact Or.inr (Or.inl rfl) | exact Or.inr (Or.inr rfl)) (hd : (x == ("__debug__" : Str)) = false := by decide) (hcd : (x == ("__classdict__" : Str)) = false := by decide)
    (hbase : attributeBase (.Name x p) "pop" X.env (eval (.Name x p) X.env) = eval (.Name x p) X.env := by rfl) (hline : (apos.endLine == cpos.line) = true := by rfl)
    (hs : swapsWith (.Call (.Attribute (.Name x p) "pop" apos) [] [] cpos) (some (.Name y p')) pos.line X.env = pure false := by rfl) (hf : X.fn y = true ∨ X.env.scope.names.lookup y = some .local := by first | exact .inl rfl | exact .inr rfl) :
    Sd X Γ (.Assign [.Name y p'] (.Call (.Attribute (.Name x p) "pop" apos) [] [] cpos) pos) H0 D := fun σ H e0 t =>
  toS (ps_set (i := j) hN hj hy (pe_bm0 PySem.F.plainAttrs_list PySem.F.slot_list_pop PySem.F.type_list_pop mt_pop (pe_var (i := i) hi hv hd hcd) hbase hline) hs hf) (by
    obtain ⟨w, hw, ew, vs, hH, h3⟩ := t.get i hT
    subst ew
    obtain ⟨ws, y, rfl, h4, h5⟩ := All2.last h3
    refine ⟨_, hw, .inl ⟨rfl, _, .inl (.inl hH)⟩, aa, _, y, rfl, rfl, hH, ?_, ?_⟩
    · simp
    · rw [List.dropLast_concat]
      have hm := Le.mut (o := .lst ws) hH trivial
      refine h _ _ (e0.mut ha hH trivial) ((Typed.put (T := mlT aa Ts) ((t.drop i).mut hS hH trivial) (List.getElem?_eq_some_iff.mp hT).1 hw ⟨rfl, _, upd_same, hTs.le hm h4⟩).set j (hSt.le hm h5)))
/-- x.extend(t), t a tuple -/
theorem mt_extendT : MtM X "list.extend" (fun x vs H Q => ∃ l b xs zs, x = .ref l ∧ vs = [.ref b] ∧ H l = some (.lst xs) ∧ SqT X.K H b zs ∧ xs.length + zs.length ≤ sizeLine ∧ Q .non (upd H l (.lst (xs ++ zs)))) := by
  intro pins s σ H x vs v us Q I rx rv h
  obtain ⟨l, b, xs, zs, rfl, rfl, hH, hB, hz, q⟩ := h
  cases rx
  obtain ⟨u, rfl, ru⟩ := rv.one
  cases ru
  obtain ⟨z, its, n, r, hl, e⟩ := I.lstM hH
  obtain ⟨its2, r2, e2, z2⟩ := I.tuple hB
  have hl2 := r2.length
  obtain ⟨o2, ho, hc, n2, hd⟩ := id e2
  have hsz : its.toArray.size + its2.toArray.size ≤ sizeLine := by rw [List.size_toArray, List.size_toArray]; omega
  have hlong : ¬ (!its.toArray.isEmpty && Builtin.List.listTooLong (its.toArray.size + its2.toArray.size)) = true := by
    rw [notLongL hsz, Bool.and_false]
    exact Bool.false_ne_true
  refine wpAny_call_entry PySem.F.slot_list_extend ⟨_, e, rfl⟩ PySem.F.entry_list_extend ?_ (PySem.F.args_list_extend_2 _ _)
  show wpAny _ _ (Builtin.List.listExtendWith (.ref l) (.ref b) .none) _ _ s
  unfold Builtin.List.listExtendWith
  refine wpAny_bind (wpAny_typeOf ⟨o2, ho, hc⟩ ?_)
  have h1 : (Builtin.List.listSameRef (.ref l) (.ref b) || Value.type "tuple" == Value.type "list" || Value.type "tuple" == Value.type "tuple") = true := by simp
  simp only [h1, if_true]
  refine wpAny_bind ?_
  unfold Builtin.List.listItems
  refine wpAny_bind (wpAny_seqItems ho hd (wpAny_pure ?_))
  refine wpAny_bind ?_
  refine wpAny_bind (wpAny_seqItems e rfl (wpAny_pure ?_))
  rw [if_neg hlong]
  show wpAny _ _ (updateSeq l (· ++ its2.toArray) >>= fun _ => ret Value.none) _ _ s
  have hz1 : its.toArray.size ≤ sizeLine := by omega
  have hz2 : (its.toArray ++ its2.toArray).size ≤ sizeLine + 1 := by rw [Array.size_append]; omega
  refine wpAny_bind (wpAny_updateSeq e rfl (hz := hz1) (_hz' := hz2) ?_)
  refine wpAny_pure ⟨_, rfl, .non, _, I.lset (its' := its ++ its2) (t' := s.toks) hH e (by simp) (r.append r2) ?_, rfl, q⟩
  rw [List.length_append]
  omega
theorem s_extendT [hTs : Stbs Ts] [hUs : Stbs Us] (i : Nat) {aa : Addr} (hT : Γ[i]? = some (some (mlT aa Ts))) (he : G X Γ e (tupT X.K Us)) (hl : Ts.length + Us.length ≤ sizeLine) (ha : H0.e aa = none) (hS : StbC aa (Γ.set i none))
    (h : ∀ σ' H', H0.ok H' → Typed σ' (Γ.set i (some (mlT aa (Ts ++ Us)))) H' → D.nx σ' H') (hN : X.N[i]? = some x := by rfl) (hv : Vis X.env.scope x := by first | exact Or.inl rfl | exact Or.inr (Or.inl rfl) | exact Or.inr (Or.inr rfl)) (hd : (x == ("__debug__" : Str)) = false := by decide) (hcd : (x == ("__classdict__" : Str)) = false := by decide)
    (hbase : attributeBase (.Name x p) "extend" X.env (eval (.Name x p) X.env) = eval (.Name x p) X.env := by rfl)
    (hfew : ((backTo pos (starEach [e] X.env)).all (fun x => !x.1) && (backToKw pos (keywordEach [] X.env)).all (fun x => x.1.isSome)
      && decide ([e].length + ([] : List Keyword).length + (if ([] : List Keyword).isEmpty then 0 else 1) < 30)) = true := by first | rfl | (rw [se_one rfl]; rfl))
    (hline : (apos.endLine == pos.line) = true := by rfl) (hs : starEach [e] X.env = (false, eval e X.env) :: starEach [] X.env := by exact se_cons rfl) {pos3 : Pos}
    (hsw : swapsWith (.Call (.Attribute (.Name x p) "extend" apos) [e] [] pos) none pos3.line X.env = pure false := by rfl) : Sd X Γ (.Expr (.Call (.Attribute (.Name x p) "extend" apos) [e] [] pos) pos3) H0 D :=
  fun σ H e0 t => toS (ps_expr (pe_bm PySem.F.plainAttrs_list PySem.F.slot_list_extend PySem.F.type_list_extend mt_extendT (pe_var (i := i) hN hv hd hcd) (RL.pa [e]) hbase hfew hline hs (se_any rfl)) hsw) (by
    obtain ⟨w, hw, ew, vs, hH, h3⟩ := t.get i hT
    subst ew
    refine ⟨_, hw, .inl ⟨rfl, vs, .inl (.inl hH)⟩, ga_cons he ga_nil hs σ H t _ fun us H1 e1 h1 => ?_⟩
    obtain ⟨u, rfl, b, zs, eu, hB, h5⟩ := one2 h1
    subst eu
    have hH1 := e1 _ _ hH
    have hm := Le.mut (o := .lst (vs ++ zs)) hH1 trivial
    refine ⟨aa, b, vs, zs, rfl, rfl, hH1, hB.sq, by rw [← h3.len, ← h5.len]; exact hl, h _ _ ((e0.trans e1).mut ha hH1 trivial) (Typed.put (T := mlT aa (Ts ++ Us)) (((t.up e1).drop i).mut hS hH1 trivial) (List.getElem?_eq_some_iff.mp hT).1 hw ⟨rfl, _, upd_same, (hTs.le hm (h3.up e1)).append (hUs.le hm h5)⟩)⟩)
end
end RL

set_option Elab.async false
set_option linter.all false
set_option maxRecDepth 100000
set_option maxHeartbeats 8000000
/-! RLtset2: set(l) of texts, sorted(s) -/
namespace RL
open PySem PySem.Spec PyProof.Rows L2
section
variable {P : Program} {w : World} {A : Around} {E : Value → Shared → Prop} {s : Shared}
/-- the loop that fills a fresh set, over a list that stands -/
theorem fill_listT {l : Addr} {items : Array Value} (ns : List Str) {R : Result → Shared → Prop} (hh : A.handled = none) (hl : s.heap.IsList l items) (hn : items.size = ns.length) (hval : ∀ (i : Nat) (v : Value), items[i]? = some v → ∃ k t, ns[i]? = some k ∧ v = .str k t) (hb : ns.length + 1 < scanBound)
    (h : ∀ (h' : Heap) (tk : Nat), SetT w h' s.heap.objs.size ns → (∀ b o, s.heap.get? b = some o → h'.get? b = some o) → R (.ok (.ret .none)) { s with heap := h', toks := tk }) :
    codeAny (model P w) A (.builtin "set.update.loop" ⟨[.ref s.heap.objs.size, .ref (s.heap.objs.size + 1)], []⟩) R
      { s with heap := (s.heap.push (set0 w)).push { cls := .type "list_iterator", data := .fields #[.ref l, .int 0 0] } } := by
  obtain ⟨ol, hol, hcl, nl, hdl⟩ := id hl
  have hlS : l < s.heap.objs.size := Heap.lt_size hol
  have z1 : (s.heap.push (set0 w)).objs.size = s.heap.objs.size + 1 := Heap.size_push ..
  have hS : ((s.heap.push (set0 w)).push { cls := .type "list_iterator", data := .fields #[.ref l, .int 0 0] }).get? s.heap.objs.size = some (set0 w) := Heap.get?_push_of_some _ (Heap.get?_push_size _ rfl)
  have hL : ((s.heap.push (set0 w)).push { cls := .type "list_iterator", data := .fields #[.ref l, .int 0 0] }).IsList l items := ⟨ol, Heap.get?_push_of_some _ (Heap.get?_push_of_some _ hol), hcl, nl, hdl⟩
  have hI : ((s.heap.push (set0 w)).push { cls := .type "list_iterator", data := .fields #[.ref l, .int 0 0] }).get? (s.heap.objs.size + 1) = some { cls := .type "list_iterator", data := .fields #[.ref l, .int 0 0] } := by
    rw [← z1]; exact Heap.get?_push_size _ rfl
  have W := (Walks.list (prog := P) (w := w) (A := A.in1) hh (s.heap.objs.size + 1) l (Nat.ne_of_lt (Nat.lt_succ_of_lt hlS)) items).toS
  refine tset_fill W s.heap.objs.size (by simp only [List.mem_cons, List.not_mem_nil, or_false, not_or]; exact ⟨Nat.ne_of_lt (Nat.lt_succ_self _), Nat.ne_of_gt hlS⟩) ns hn hb hval (items.size - 0) 0 _ rfl (Nat.zero_le _) ⟨⟨_, hI, rfl, rfl⟩, hL⟩ (tset_new hS) fun s' hm hR => ?_
  obtain ⟨h', g', d', tk', os'⟩ := s'
  obtain rfl : g' = s.gens := hm.gens
  obtain rfl : d' = s.drawn := hm.drawn
  obtain rfl : os' = s.os := hm.os
  refine h h' tk' hR fun b o e => ?_
  have hb : b < s.heap.objs.size := Heap.lt_size e
  exact hm.heap b o (by simp only [List.mem_cons, List.not_mem_nil, or_false, not_or]; exact ⟨Nat.ne_of_lt hb, Nat.ne_of_lt (Nat.lt_succ_of_lt hb)⟩) (Heap.get?_push_of_some _ (Heap.get?_push_of_some _ e))
/-- set(l), l a list of texts -/
theorem set_of_texts {l : Addr} {items : Array Value} (ns : List Str) {Q : Value → Shared → Prop} (hh : A.handled = none) (hl : s.heap.IsList l items) (hn : items.size = ns.length) (hval : ∀ (i : Nat) (v : Value), items[i]? = some v → ∃ k t, ns[i]? = some k ∧ v = .str k t) (hb : ns.length + 1 < scanBound)
    (h : ∀ (h' : Heap) (tk : Nat), SetT w h' s.heap.objs.size ns → (∀ b o, s.heap.get? b = some o → h'.get? b = some o) → Q (.ref s.heap.objs.size) { s with heap := h', toks := tk }) :
    wpAny (model P w) A (call (.type "set") [.ref l]) Q E s := by
  obtain ⟨_, _, hmro⟩ := F.called_set.mro
  have c1 := F.called_set.made
  have c2 := F.called_set.sub
  have c3 := F.called_set.notType
  have c4 := F.called_set.canCreate
  have c5 := F.typeCall_set_1 (.ref l)
  refine wpAny_call (codeAny_of_tree ?_)
  show wpAny _ _ (callAny (.type "set") _) _ _ _
  refine wpAny_pure ⟨Code.quiet_builtin _ (by decide +kernel), codeAny_builtin F.entry_type_call ?_⟩
  rw [Around.under_plain (weight_type_call_type "set" [.ref l] []) rfl]
  repeat (any_goals (first | assumption | wp_step))
  refine codeAny_mono (code_set_led1 (.ref l) (E := E) (Q₁ := fun obj s₁ => obj = .ref s.heap.objs.size ∧ s₁ = { s with heap := s.heap.push (set0 w) }) ⟨rfl, rfl⟩) fun r s₁ hr => ?_
  match r, hr with
  | .error e, hr => exact hr
  | .ok (.ret obj), ⟨h1, h2⟩ =>
    subst h1; subst h2
    have hT : Shared.TypeIs { s with heap := s.heap.push (set0 w) } (.ref s.heap.objs.size) "set" := ⟨_, Heap.get?_push_size _ rfl, rfl⟩
    have i1 := F.called_set.init.lookup
    have i2 := F.called_set.init.bind (.ref s.heap.objs.size)
    repeat (any_goals (first | assumption | wp_step))
    refine codeAny_mono (codeAny_call_builtin (R := wants (fun r s₂ => r = .none ∧ Q (.ref s.heap.objs.size) s₂) E) F.called_set.init.plain F.entry_set_init (check_set_init_1 hT ?_)) fun r₂ s₂ hr₂ => ?_
    · obtain ⟨⟨ocls, odict, odata, oslots⟩, hol, hcl, nl, hdl⟩ := id hl
      simp only at hcl hdl
      subst hcl; subst hdl
      have hol' : (s.heap.push (set0 w)).get? l = some { cls := .type "list", dict := odict, data := .seq items nl, slots := oslots } := Heap.get?_push_of_some _ hol
      have t1 := F.sub_list_set
      have t2 := F.sub_list_frozenset
      have t3 : (Value.type "list" == Value.type "dict") = false := by decide
      unfold Builtin.«set.__init__» noKeywords Builtin.Frozenset.updateFrom
      generalize hPI : pyIter = PI
      wp_walk
      subst hPI
      refine wpAny_pyIter_list ⟨_, hol', rfl, nl, rfl⟩ (wpAny_bind (wpAny_runValue ?_))
      have z1 : (s.heap.push (set0 w)).objs.size = s.heap.objs.size + 1 := Heap.size_push ..
      rw [z1]
      exact fill_listT ns (by simp [hh]) hl hn hval hb fun h' tk hR k => wpAny_pure (wpAny_pure ⟨rfl, h h' tk hR k⟩)
    · match r₂, hr₂ with
      | .error e, hr₂ => exact hr₂
      | .ok (.ret r), ⟨h1, hq⟩ =>
        subst h1
        repeat (any_goals (first | assumption | wp_step))
/-- sorted(s), s a set of fewer than 64 texts -/
theorem goodS_strs : ∀ (vs : List Value), (∀ v ∈ vs, ∃ x tk, v = Value.str x tk) → StrsAre vs (vs.map fun v => keyS (0, v))
  | [], _ => .nil
  | v :: vs, h => by
    obtain ⟨x, tk, rfl⟩ := h v List.mem_cons_self
    exact .cons x tk (goodS_strs vs fun u hu => h u (List.mem_cons_of_mem _ hu))
theorem sorted_texts {a : Addr} {ys : List Str} {Q : Value → Shared → Prop} (R : SetT w s.heap a ys) (hh : A.handled = none) (h64 : ys.length < 64)
    (hQ : ∀ s' p (out : Array Value) (c : Nat) (zs : List Str), (∀ b o, s.heap.get? b = some o → s'.heap.get? b = some o) → s'.gens = s.gens → s'.os = s.os → s.heap.objs.size ≤ p →
      s'.heap.get? p = some (seqObj "list" out c) → StrsAre out.toList zs → sortedS zs = true → zs.Nodup → zs.length ≤ ys.length → (∀ k, k ∈ zs ↔ k ∈ ys) → Q (.ref p) s') :
    wpAny (model P w) A (call (.builtin "sorted") [.ref a]) Q E s := by
  obtain ⟨o, es, ep, t, ho, hex, hd, g, nd, hm, hz, hb, hf, hr, hl⟩ := R
  refine Calls.call_function_entry kind_sorted plain_sorted entry_sorted (args_sorted1 _) ?_
  unfold Builtin.«sorted»
  refine wpAny_bind (m := checkCount "sorted" 1 1 _) (wpAny_pure ?_)
  refine wpAny_bind (collect_set (A := A.in1) hh ⟨o, ho, hex.1, hd⟩ hf hb hr hl fun s1 vs k1 hz1 g1 o1 pm => ?_)
  have hvl : vs.length < 64 := by
    rw [pm.length_eq, List.length_map, Array.length_toList]
    omega
  have hS : StrsAre vs (vs.map fun v => keyS (0, v)) := goodS_strs vs fun v hv => by
    obtain ⟨e, he, q⟩ := List.mem_map.mp (pm.mem_iff.mp hv)
    obtain ⟨x, tk, h1, _⟩ := g e he
    exact ⟨x, tk, by rw [← q]; exact h1⟩
  have pk : (vs.map fun v => keyS (0, v)).Perm (es.toList.map keyS) := by
    have q := pm.map fun v => keyS (0, v)
    rw [List.map_map] at q
    exact q
  refine wpAny_bind (wpAny_newList ?_ (by rw [sizeLine_eq]; omega))
  have hoL : (s1.heap.push (seqObj "list" vs.toArray 0)).get? s1.heap.objs.size = some (seqObj "list" vs.toArray 0) := Heap.get?_push_size _ rfl
  refine wpAny_bind (wpAny_holding (wpAny_call_entry slot_list_sort ⟨_, hoL, rfl⟩ entry_list_sort (list_sort_treeK strKind_oneLt hoL hS.keysOf (fun v₁ v₂ rest e => keyKind_strs (by rw [← e]; exact hS)) hvl fun st' hp hs => ⟨_, rfl, ?_⟩) (args_list_sort _)))
  obtain ⟨zs, a1, a2, a3⟩ := sorted_out_str hS hp hs
  obtain ⟨c, hc⟩ := sortedHeap_at (vs := vs) (out := (arrOf st').map (·.2)) hoL
  have pn : zs.Perm (es.toList.map keyS) := a2.trans pk
  refine wpAny_pure ⟨_, rfl, hQ _ s1.heap.objs.size _ c zs (fun b u e => ?_) g1 o1 hz1 hc a1 a3 (pn.nodup_iff.mpr nd) (by rw [pn.length_eq, List.length_map, Array.length_toList]; exact hz) fun k => by rw [pn.mem_iff, ← hm k]⟩
  have q := k1 b u e
  have hlt := Heap.lt_size q
  show (sortedHeap (s1.heap.push (seqObj "list" vs.toArray 0)) s1.heap.objs.size vs _).get? b = some u
  rw [sortedHeap_old (Nat.ne_of_lt hlt) (by rw [size_push']; exact Nat.lt_succ_of_lt hlt)]
  exact Heap.get?_push_of_some _ q
end
end RL

set_option Elab.async false
set_option linter.all false
set_option maxRecDepth 100000
set_option maxHeartbeats 4000000
/-! RLmx2: sets of texts as slots; lists that a def gives as new -/
namespace RL
open PySem PySem.Spec PyProof.Rows L2
section
variable {X : Cx} {Γ : Ctx} {e o a b c : Expr} {es : List Expr} {T U : Ty} {Ts Us : List Ty} {pos p p2 pos2 apos cpos : Pos} {x y : Str} {H0 : Bs} {D : Ends} {rest : List Stmt} {t : TA}
/-! ### sets of texts -/
theorem tset_ok {P : Program} {w : World} {H : Hp} {h : Heap} {a : Addr} {ys : List Str} (R : SetT w h a ys) : ObjOk P w H h a (tsetH w a ys) := by
  have ⟨o, _, _, _, ho, _⟩ := R
  exact ⟨R, ⟨o, ho⟩, fun h1 h2 p k => p.at k⟩
theorem tset_get {pins : List (Addr × Obj)} {σ : L2.St} {H : Hp} {s : Shared} {a : Addr} {ys : List Str} (I : Inv X pins σ H s) (ha : H a = some (tsetH X.w a ys)) : SetT X.w s.heap a ys := (I.hok a _ ha).1
theorem vals_texts {zs : List Str} {us : List Value} (r : Vals (zs.map V.str) us) : us.toArray.size = zs.length ∧ ∀ (i : Nat) (v : Value), us.toArray[i]? = some v → ∃ k t, zs[i]? = some k ∧ v = .str k t := by
  have hl := r.length
  rw [List.length_map] at hl
  refine ⟨by rw [List.size_toArray]; exact hl.symm, fun i v hv => ?_⟩
  rw [List.getElem?_toArray] at hv
  have hi : i < zs.length := by rw [hl]; exact (List.getElem?_eq_some_iff.mp hv).1
  obtain ⟨u, hu, ru⟩ := r.get (i := i) (x := V.str zs[i]) (by rw [List.getElem?_map, List.getElem?_eq_getElem hi]; rfl)
  rw [hu] at hv
  cases hv
  obtain ⟨t, rfl⟩ := ru
  exact ⟨_, t, List.getElem?_eq_getElem hi, rfl⟩
/-- set(l) of a frozen list of texts -/
theorem cr_setTx (hc : X.calm = true) : CallR X (.type "set") (fun vs H Q => ∃ (l : Addr) (ns : List Str), vs = [V.ref l] ∧ FrzL H l (ns.map V.str) ∧ ns.length ≤ 1000 ∧ ∀ (q : Addr), H q = none → Q (.ref q) (upd H q (tsetH X.w q ns))) := by
  intro pins s σ H vs us Q I r h
  obtain ⟨l, ns, ev, ⟨o, hf⟩, hn, q⟩ := h
  subst ev
  match us, r with
  | [u], .cons ru .nil =>
    obtain rfl : u = Value.ref l := ru
    obtain ⟨_, z, its, c, hv, hl⟩ := I.hok l _ hf
    obtain ⟨v1, v2⟩ := vals_texts hv
    refine set_of_texts (items := its.toArray) ns (I.ok.hd hc) ⟨_, hl, rfl, c, rfl⟩ v1 v2 (by unfold scanBound; omega) fun h' tk hR k => ?_
    exact ⟨.ref s.heap.objs.size, _, I.laid k (Nat.le_refl _) (tset_ok hR), rfl, q _ (I.hok.fresh (Nat.le_refl _))⟩
theorem cr_sortedTx (hc : X.calm = true) : CallR X (.builtin "sorted") (fun vs H Q => ∃ (a : Addr) (ys : List Str), vs = [V.ref a] ∧ H a = some (tsetH X.w a ys) ∧ ys.length < 64 ∧
    ∀ (zs : List Str) (p : Addr), sortedS zs = true → zs.Nodup → (∀ k, k ∈ zs ↔ k ∈ ys) → H p = none → Q (.ref p) (upd H p (.lst (zs.map V.str)))) := by
  intro pins s σ H vs us Q I r h
  obtain ⟨a, ys, rfl, ha, h64, q⟩ := h
  have R := tset_get I ha
  rw [Vals.ref1 r]
  refine sorted_texts R (I.ok.hd hc) h64 fun s' p out c zs k g o hp hg hi hs hnd hz hm => ?_
  have hlen : (zs.map V.str).length ≤ sizeLine := by rw [List.length_map, sizeLine_eq]; omega
  have hn : H p = none := I.hok.fresh hp
  have J : Inv X pins σ (upd H p (.lst (zs.map V.str))) { s with heap := s'.heap, gens := s'.gens, drawn := s'.drawn, toks := s'.toks } :=
    I.call (ch := []) (Un.laid k hp hn) (I.hok.laid k hp ⟨hlen, out.toList, c, vals_of_strs hi, hg⟩) (by rw [g]; exact I.bare) (fun _ z => nomatch z)
  have e : s' = { s with heap := s'.heap, gens := s'.gens, drawn := s'.drawn, toks := s'.toks } := by
    cases s'
    cases s
    cases o
    rfl
  rw [e]
  exact ⟨.ref p, _, J, rfl, q zs p hs hnd hm hn⟩
/-- a.add(k) -/
theorem pe_saddT {to : TE} (ho : PE X o to) (ha : PA X (e :: es) t)
    (hbase : attributeBase o "add" X.env (eval o X.env) = eval o X.env := by rfl)
    (hfew : ((backTo cpos (starEach (e :: es) X.env)).all (fun x => !x.1) && (backToKw cpos (keywordEach [] X.env)).all (fun x => x.1.isSome)
      && decide ((e :: es).length + ([] : List Keyword).length + (if ([] : List Keyword).isEmpty then 0 else 1) < 30)) = true := by rfl)
    (hline : (apos.endLine == cpos.line) = true := by rfl) (hs : starEach (e :: es) X.env = (false, eval e X.env) :: starEach es X.env := by rfl) (hplain : (backTo cpos (starEach es X.env)).any (·.1) = false := by rfl) :
    PE X (.Call (.Attribute o "add" apos) (e :: es) [] cpos) (fun σ H Q => to σ H fun x H1 => ∃ a ys0, x = V.ref a ∧ H1 a = some (tsetH X.w a ys0) ∧ t σ H1 fun xs H2 => ∃ k ys, xs = [V.str k] ∧ H2 a = some (tsetH X.w a ys) ∧ ys.length + 1 < scanBound ∧ Q .non (upd H2 a (tsetH X.w a (ys ++ [k])))) := by
  refine ⟨fun pins s σ H Q I h => ?_⟩
  refine wpAny_Call_method_late hbase hfew hline rfl (thn (ho.run pins s σ H _ I h) fun v s1 ⟨x, H1, I1, r1, a, ys0, ex, hka, q1⟩ => ?_)
  subst ex
  have hS := tset_get I1 hka
  cases r1
  refine ⟨"set", "set.add", PySem.F.plainAttrs_set, PySem.F.slot_set_add, PySem.F.type_set_add, hS.typed, fun a' e' => ?_, ?_⟩
  · cases e'
    obtain ⟨o, _, _, _, ho, hex, _⟩ := hS
    exact ⟨o, ho, hex.2.1⟩
  have hA := ha.run cpos pins s1 σ H1 _ I1 q1
  rw [hs] at hA ⊢
  refine Calls.callWith_builtin (by show (false || (backTo cpos (starEach es X.env)).any (·.1)) = false; rw [hplain] <;> rfl) (Calls.evalArgs_plain ?_)
  refine thn hA fun us s2 ⟨vs, H2, I2, r2, k, ys, ev, hk2, room, q2⟩ => ?_
  subst ev
  obtain ⟨u, rfl, ru⟩ := r2.one
  obtain ⟨tk, rfl⟩ := ru
  refine tset_add (tset_get I2 hk2) room fun h' sb new => ?_
  have he : ∃ u, h'.get? a = some u := by
    have ⟨o, _, _, _, ho, _⟩ := new
    exact ⟨o, ho⟩
  exact ⟨.non, _, I2.write (e := a) (t' := s2.toks + 1) (by rw [hk2]; trivial) (.inl rfl) (fun b u hb hu => (sb.2 b hb).trans hu) he (tset_ok new), rfl, q2⟩
/-- a set of texts that is one's own -/
def tsT (w : World) (a : Addr) (ys : List Str) : Ty := ⟨fun v H => v = .ref a ∧ H a = some (tsetH w a ys), fun e ⟨h1, h2⟩ => ⟨h1, e _ _ h2⟩⟩
/-- x = set(e) -/
theorem b_newSet {ns : List Str} (i : Nat) (he : G X Γ e (lstT (ns.map fun z => strT z))) (hz : ns.length ≤ 1000) (hm : X.mg "set" = none) (h : ∀ a, H0.e a = none → Bd X (Γ.set i (some (tsT X.w a ns))) rest H0 D) {p' : Pos} (hN : X.N.Nodup := by first | assumption | decide) (hi : X.N[i]? = some x := by rfl) (hx : Loc X.env.scope x := by first | exact Or.inl rfl | exact Or.inr rfl)
    (hs : swapsWith (.Call (.Name "set" p) [e] [] pos2) (some (.Name x p')) pos.line X.env = pure false := by rfl) (hf : X.fn x = true ∨ X.env.scope.names.lookup x = some .local := by first | exact .inl rfl | exact .inr rfl)
    (hc : X.calm = true := by rfl) (hg : Gl X "set" := by rfl) (hst : starEach [e] X.env = (false, eval e X.env) :: starEach [] X.env := by first | exact se_cons rfl | rfl) : Bd X Γ (.Assign [.Name x p'] (.Call (.Name "set" p) [e] [] pos2) pos :: rest) H0 D :=
  b_cons fun σ H e0 t => toS (ps_set (i := i) hN hi hx (pe_callTy (cr_setTx hc) hg hm (by decide +kernel) (pa_cons (pe e) pa_nil hst) (he := hst)) hs hf) (he σ H t _ fun v H1 e1 ⟨l, vs, ev, hf, h2⟩ => by
    subst ev
    have hv : vs = ns.map V.str := All2.vals (H := H1) (by rw [List.map_map]; exact h2)
    subst hv
    exact ⟨l, ns, rfl, hf, hz, fun q hq => h q ((e0.trans e1).1.free hq) _ _ ((e0.trans e1).trans (Ex.new hq)) (((t.up e1).up (Ex.new hq)).set i ⟨rfl, upd_same⟩)⟩)
/-- x.add(e) -/
theorem b_setAdd {k : Str} {ys : List Str} (i : Nat) {aa : Addr} (hT : Γ[i]? = some (some (tsT X.w aa ys))) (he : G X Γ e (strT k)) (hl : ys.length ≤ 1000) (ha : H0.e aa = none) (hS : StbC aa (Γ.set i none))
    (h : Bd X (Γ.set i (some (tsT X.w aa (ys ++ [k])))) rest H0 D) (hN : X.N[i]? = some x := by rfl) (hv : Vis X.env.scope x := by first | exact Or.inl rfl | exact Or.inr (Or.inl rfl) | exact Or.inr (Or.inr rfl)) (hd : (x == ("__debug__" : Str)) = false := by decide) (hcd : (x == ("__classdict__" : Str)) = false := by decide)
    (hbase : attributeBase (.Name x p) "add" X.env (eval (.Name x p) X.env) = eval (.Name x p) X.env := by rfl)
    (hfew : ((backTo pos (starEach [e] X.env)).all (fun x => !x.1) && (backToKw pos (keywordEach [] X.env)).all (fun x => x.1.isSome)
      && decide ([e].length + ([] : List Keyword).length + (if ([] : List Keyword).isEmpty then 0 else 1) < 30)) = true := by first | rfl | (rw [se_one rfl]; rfl))
    (hline : (apos.endLine == pos.line) = true := by rfl) (hs : starEach [e] X.env = (false, eval e X.env) :: starEach [] X.env := by exact se_cons rfl) {pos3 : Pos}
    (hsw : swapsWith (.Call (.Attribute (.Name x p) "add" apos) [e] [] pos) none pos3.line X.env = pure false := by rfl) : Bd X Γ (.Expr (.Call (.Attribute (.Name x p) "add" apos) [e] [] pos) pos3 :: rest) H0 D :=
  b_cons fun σ H e0 t => toS (ps_expr (pe_saddT (pe_var (i := i) hN hv hd hcd) (RL.pa [e]) hbase hfew hline hs (se_any rfl)) hsw) (by
    obtain ⟨w, hw, ew, hH⟩ := t.get i hT
    subst ew
    refine ⟨_, hw, aa, ys, rfl, hH, ga_cons he ga_nil hs σ H t _ fun us H1 e1 h1 => ?_⟩
    obtain ⟨u, rfl, hu⟩ := one2 h1
    have hu' : u = V.str k := hu
    subst hu'
    have hH1 := e1 _ _ hH
    exact ⟨k, ys, rfl, hH1, by unfold scanBound; omega, h _ _ ((e0.trans e1).mut ha hH1 unf_set) (Typed.put (T := tsT X.w aa (ys ++ [k])) (((t.up e1).drop i).mut hS hH1 unf_set) (List.getElem?_eq_some_iff.mp hT).1 hw ⟨rfl, upd_same⟩)⟩)
/-! ### an expression that gives a new list -/
def GM (X : Cx) (Γ : Ctx) (e : Expr) (Ts : List Ty) : Prop := ∀ σ H, Typed σ Γ H → ∀ Q : VK, (∀ d ws H', Ex H H' → H d = none → H' d = some (.lst ws) → All2 Ts ws H' → Q (.ref d) H') → tE X e σ H Q
theorem GM.frz [hTs : Stbs Ts] (h : GM X Γ e Ts) : G X Γ e (lstT Ts) := fun σ H t Q q =>
  tE_frz (h σ H t _ fun d ws H' e hd hw ha => ⟨d, _, hw, trivial, fun od => q _ _ (e.mut hd hw) ⟨d, ws, rfl, ⟨od, upd_same⟩, hTs.le (Le.mut hw trivial) ha⟩⟩)
def spM {α : Type} (A : α → List Ty) (R : α → List Ty) : Sp := fun vs H Q _ => ∃ a, All2 (A a) vs H ∧ ∀ d ws H', Ex H H' → H d = none → H' d = some (.lst ws) → All2 (R a) ws H' → Q (.ref d) H'
theorem gm_call {α : Type} {A : α → List Ty} {R : α → List Ty} {k : Nat} {ps : List Str} (F : FnG X.prog X.w X.K X.mg X.base k x ps (spM A R)) (hr : Room k X.A) (i : α) (ha : GA X Γ (e :: es) Ts) (hT : ∀ vs H, All2 Ts vs H → All2 (A i) vs H := by exact fun _ _ h => h)
    (hg : Gl X x := by rfl) (hdb : (x == ("__debug__" : Str)) = false := by decide) (he : starEach (e :: es) X.env = (false, eval e X.env) :: starEach es X.env := by first | exact se_cons rfl | exact se_one rfl | exact se_two rfl rfl | rfl) (hpl : (backTo pos (starEach es X.env)).any (·.1) = false := by first | exact se_any rfl | rfl) {T' : List Ty} (hR : R i = T' := by rfl) :
    GM X Γ (.Call (.Name x p) (e :: es) [] pos) T' := fun σ H t Q q => by
  subst hR
  obtain ⟨f, fd, F, hm, hk, hb⟩ := F.ex
  refine toE (pe_call F hr hg hm hk hb .nil pass0 (pa _) hdb he hpl) (ha σ H t _ fun vs H1 e1 h1 => ?_)
  rw [List.append_nil]
  exact ⟨i, hT _ _ h1, fun d ws H2 e2 hd hw h2 => q d ws H2 (e1.trans e2) (e1.free hd) hw h2⟩
theorem b_retGM (he : GM X Γ e Ts) (h : ∀ d ws H', H0.ok H' → H0.e d = none → H' d = some (.lst ws) → All2 Ts ws H' → D.rt (.ref d) H') : Bd X Γ (.Return (some e) pos :: rest) H0 D :=
  b_cons fun σ H e0 t => toS (ps_ret (pe e)) (he σ H t _ fun d ws H1 e1 hd hw h1 => h d ws H1 (e0.trans e1) (e0.1.free hd) hw h1)
theorem gm_sortedTS {ys zs : List Str} {aa : Addr} (he : G X Γ e (tsT X.w aa ys)) (hm : X.mg "sorted" = none) (h64 : ys.length < 64) (hz : ∀ us : List Str, sortedS us = true → us.Nodup → (∀ k, k ∈ us ↔ k ∈ ys) → us = zs) (hc : X.calm = true := by rfl) (hg : Gl X "sorted" := by rfl)
    (hst : starEach [e] X.env = (false, eval e X.env) :: starEach [] X.env := by exact se_cons rfl) : GM X Γ (.Call (.Name "sorted" p) [e] [] pos) (zs.map fun z => strT z) := fun σ H t Q q =>
  toE (pe_callB (cr_sortedTx hc) hg hm (by decide +kernel) (pa_cons (pe e) pa_nil hst) (he := hst)) (he σ H t _ fun v H1 e1 ⟨ev, ha⟩ => by
    subst ev
    refine ⟨aa, ys, rfl, ha, h64, fun us d hs hnd hmem hd => ?_⟩
    rw [hz us hs hnd hmem]
    refine q d _ _ (e1.trans (Ex.new hd)) (e1.free hd) upd_same ?_
    have z := All2.of_vals (H := upd H1 d (.lst (zs.map V.str))) (ws := zs.map V.str)
    rwa [List.map_map] at z)
end
section
variable {P : Program} {w : World} {K : PySem.W.Frag} {mg : Str → Option Value} {base : Heap} {x qual : Str} {params : Arguments} {body : List Stmt} {scope : Scope} {dvs : List V} {kws : List (Str × V)} {f : Addr} {fd : FuncData} {N ps : List Str} {k : Nat}
theorem fn_M {α : Type} {A : α → List Ty} {R : α → List Ty} (F : FunD K x qual params body scope dvs kws f fd) (S : FnScope N ps scope) (hl : ∀ a, (A a).length = ps.length)
    (h : ∀ a cdv Ar outer s H E, Room k (Ar.deeper (envOfC qual scope s.heap.objs.size f cdv)) → (BX P w K mg base N qual scope f cdv Ar outer s H E).N.Nodup → ∀ D : Ends, (∀ d ws H', (Bs.of H).ok H' → H d = none → H' d = some (.lst ws) → All2 (R a) ws H' → D.rt (.ref d) H') → Bd (BX P w K mg base N qual scope f cdv Ar outer s H E) (ctx0 N (A a)) body (Bs.of H) { D with nx := fun _ _ => False }) :
    FnOk P w K mg base CX0 (k + 1) f fd ps (spM A R) :=
  fn_sp F S (fun vs H Q E ⟨a, h2, _⟩ => by rw [← h2.len]; exact hl a) fun cdv Ar outer s H vs Q E hr ⟨a, h2, q⟩ => by
    have z := h a cdv Ar outer s H E hr S.nd { nx := fun _ _ => False, rt := Q } (fun d ws H' e hd hw hv => q d ws H' e.1 hd hw hv) _ H (Bs.refl H) (typed0 h2)
    exact ⟨fun pins s1 I => thn (z.run pins s1 I) fun f s2 hf => by
      cases f with
      | next => obtain ⟨σ', H', I', c⟩ := hf; exact c.elim
      | brk => exact hf
      | cont => exact hf
      | ret v => exact hf⟩
end
end RL

set_option Elab.async false
set_option linter.all false
set_option maxRecDepth 100000
set_option maxHeartbeats 2000000
/-! RLexc: own exceptions made by an `__init__` that calls the base's -/
namespace RL
open PySem PySem.Spec PyProof.Rows L2
/-- the base class, whose `__init__` is ValueError's -/
structure BaseI (K : PySem.W.Frag) (TE : Addr) (mc : Value) : Prop where
  rd : PySem.W.readsIn K TE mc = true
  ga : PySem.W.specialIn K (.ref TE) "__getattribute__" = some (some (.builtin "type.__getattribute__"))
  at_ : PySem.W.findCls K (.ref TE) mc "__init__" = some (.val (.builtin "ValueError.__init__"))
section
variable {X : Cx} {Γ : Ctx} {e o a b c : Expr} {es : List Expr} {T U : Ty} {Ts Us : List Ty} {pos p p1 p2 pos2 apos cpos : Pos} {x y : Str} {H0 : Bs} {D : Ends} {rest : List Stmt} {ta : TA}
/-- TE.__init__(self, ..) -/
theorem pe_tinit {pl : Sem Bool} {TE : Addr} {mc : Value} (B : BaseI X.K TE mc) (hg : Gl X x) (hm : X.mg x = some (.ref TE)) (ha : PA X (e :: es) ta)
    (hc : eval (.Call (.Attribute (.Name x p1) "__init__" p2) (e :: es) [] pos) X.env = (do
      let ov ← eval (.Name x p1) X.env
      standAt p2.atName
      let (f, first) ← holding [ov] (getMethod ov "__init__" pl)
      callWith pos f first (backTo pos (starEach (e :: es) X.env)) (backToKw pos (keywordEach [] X.env))) := by rfl)
    (he : starEach (e :: es) X.env = (false, eval e X.env) :: starEach es X.env := by first | exact se_cons rfl | rfl) (hpl : (backTo pos (starEach es X.env)).any (·.1) = false := by first | exact se_any rfl | rfl) (hdb : (x == ("__debug__" : Str)) = false := by decide) :
    PE X (.Call (.Attribute (.Name x p1) "__init__" p2) (e :: es) [] pos) (tVeI X.K ta) := by
  refine ⟨fun pins s σ H Q I h => ?_⟩
  refine PySem.W.methodCall_KW (ld_glob I hg hm ?_ hdb) hc
  refine PySem.W.method_cls I.kIn B.ga (PySem.W.cls_value I.kIn B.rd B.at_ (by decide +kernel) ?_)
  show wpAny _ _ (callWith pos (Value.builtin "ValueError.__init__") [] (backTo pos (starEach (e :: es) X.env)) []) _ _ _
  refine PyProof.Rows.callWith_method1 (thn (ha.run pos pins _ σ H _ (I.tok _) h) fun us s1 ⟨vs, H1, I1, r1, a, C, ws, ev, hl, T, ea, q⟩ => ?_) he hpl
  subst ev
  cases r1 with
  | @cons _ u0 _ ur ra rw' =>
    obtain rfl : u0 = Value.ref a := ra
    have hlen : ur.length ≤ sizeLine := by
      rw [← Paired.length rw', sizeLine_eq]
      omega
    exact oinit_ok T I1 ea hlen fun s' J => ⟨.non, H1, J, rfl, q⟩
/-- what `__init__(self, x)` promises: two fields are told -/
def spInit (C : Addr) (fld tag : Str) : Sp := fun vs H Q _ => ∃ a x, vs = [.ref a, x] ∧ H a = some (exo a C none) ∧ ∀ d, H d = none → d ≠ a → Q .non (upd (upd (upd H d (exd d [(fld, x)])) a (exo a C (some d))) d (exd d [("tag", .str tag), (fld, x)]))
end
/-! ### what the classes must have, decided -/
def oexB (K : PySem.W.Frag) (C : Addr) : Bool :=
  (match K.lookup C with
  | some ⟨.type "type", _, .cls cd, sl⟩ => (match cd.mro, sl.toList with
    | .ref C' :: bm, [_, _, _, _, some (.builtin n), _] => C' == C && (n == "ValueError.__new__" && (!cd.hasDel && (cd.hasDict && PySem.HandSPX.refsVE bm)))
    | _, _ => false)
  | _ => false) && (decide (PySem.W.findIn K (.ref C) "__setattr__" = some (some (.builtin "object.__setattr__"))) && (decide (PySem.W.subIn K (.ref C) (.type "BaseException") = some true) && (decide (PySem.W.typeIn K (.ref C) = some (.type "type")) && PySem.W.keepIn K (.ref C))))
theorem oexB_ok {K : PySem.W.Frag} {C : Addr} (h : oexB K C = true) : OexC K C := by
  unfold oexB at h
  obtain ⟨h1, h⟩ := Bool.and_eq_true_iff.mp h
  obtain ⟨h2, h⟩ := Bool.and_eq_true_iff.mp h
  obtain ⟨h3, h⟩ := Bool.and_eq_true_iff.mp h
  obtain ⟨h4, h5⟩ := Bool.and_eq_true_iff.mp h
  refine ⟨?_, of_decide_eq_true h2, of_decide_eq_true h3, of_decide_eq_true h4, h5⟩
  split at h1
  · rename_i dd cd sl ho
    split at h1
    · rename_i C' bm k0 k1 k2 k3 n k5 hm hs
      simp only [Bool.and_eq_true, beq_iff_eq, Bool.not_eq_true'] at h1
      obtain ⟨rfl, rfl, hdel, hdct, hbm⟩ := h1
      obtain ⟨nm, bs, mro, ns, qn, hd, sn, sub, ab, col, del⟩ := cd
      dsimp only at hm hdel hdct
      subst hm hdel hdct
      have hsl : sl = #[k0, k1, k2, k3, some (.builtin "ValueError.__new__"), k5] := by
        obtain ⟨l⟩ := sl
        simp only at hs
        rw [hs]
      subst hsl
      exact ⟨nm, qn, ns, bs, bm, sn, sub, ab, col, dd, k0, k1, k2, k3, k5, ho, hbm⟩
    · cases h1
  · cases h1
def baseB (K : PySem.W.Frag) (TE : Addr) : Bool := PySem.W.readsIn K TE (.type "type") && (decide (PySem.W.specialIn K (.ref TE) "__getattribute__" = some (some (.builtin "type.__getattribute__"))) && (match PySem.W.findCls K (.ref TE) (.type "type") "__init__" with
  | some (.val (.builtin n)) => n == "ValueError.__init__"
  | _ => false))
theorem baseB_ok {K : PySem.W.Frag} {TE : Addr} (h : baseB K TE = true) : BaseI K TE (.type "type") := by
  obtain ⟨h1, h⟩ := Bool.and_eq_true_iff.mp h
  obtain ⟨h2, h3⟩ := Bool.and_eq_true_iff.mp h
  refine ⟨h1, of_decide_eq_true h2, ?_⟩
  split at h3
  · rename_i n hn
    rw [hn, beq_iff_eq.mp h3]
  · cases h3
/-- an own exception class with the fields fld and tag -/
structure ExC (K : PySem.W.Frag) (C : Addr) (fld : Str) : Prop where
  oex : OexC K C
  xf : XfC K C
  n1 : PySem.W.findIn K (.ref C) fld = some none
  n2 : PySem.W.findIn K (.ref C) "tag" = some none
def exnB (K : PySem.W.Frag) (C : Addr) (fld : Str) : Bool := oexB K C && (xfB K C && (decide (PySem.W.findIn K (.ref C) fld = some none) && decide (PySem.W.findIn K (.ref C) "tag" = some none)))
theorem exnB_ok {K : PySem.W.Frag} {C : Addr} {fld : Str} (h : exnB K C fld = true) : ExC K C fld := by
  obtain ⟨h1, h⟩ := Bool.and_eq_true_iff.mp h
  obtain ⟨h2, h⟩ := Bool.and_eq_true_iff.mp h
  obtain ⟨h3, h4⟩ := Bool.and_eq_true_iff.mp h
  exact ⟨oexB_ok h1, xfB_ok h2, of_decide_eq_true h3, of_decide_eq_true h4⟩
/-! ### raise -/
section
variable {X : Cx} {Γ : Ctx} {e : Expr} {T : Ty} {pos pos2 p : Pos} {x fld tag : Str} {B : Bs} {D : Ends} {rest : List Stmt} {C fI : Addr} {k : Nat} {fd : FuncData} {W : WX}
/-- what an exception of such a class holds -/
def fldL (fld : Str) (v : V) : List (Str × V) := if fld = "" then [] else [(fld, v)]
/-- its tag, and its field (no field: the name is empty, the value None) -/
def Held (H : Hp) (d : Addr) (fld tag : Str) (v : V) : Prop := H d = some (.xd (("tag", .str tag) :: fldL fld v)) ∧ (fld = "" → v = .non)
theorem Held.up {H H' : Hp} {d : Addr} {v : V} (e : Ex H H') (h : Held H d fld tag v) : Held H' d fld tag v := ⟨e _ _ h.1, h.2⟩
theorem held_fld {H : Hp} {d : Addr} {v : V} (hf : fld ≠ "") (h : H d = some (.xd [("tag", .str tag), (fld, v)])) : Held H d fld tag v := ⟨by unfold fldL; rw [if_neg hf]; exact h, fun z => absurd z hf⟩
theorem held_none {H : Hp} {d : Addr} (h : H d = some (.xd [("tag", .str tag)])) : Held H d "" tag .non := ⟨by unfold fldL; rw [if_pos rfl]; exact h, fun _ => rfl⟩
theorem b_raise1 (O : ExC X.K C fld) (iC : PySem.W.findIn X.K (.ref C) "__init__" = some (some (.ref fI))) (tI : PySem.W.typeIn X.K (.ref fI) = some (.type "function")) (F1 : FnOk X.prog X.w X.K X.mg X.base CX0 k fI fd ["self", fld] (spInit C fld tag)) (hr : Room (k + 1) X.A) (hb : Binds X.K fd ["self", fld] [])
    (tk : Takes X W) (hm : X.mg x = some (.ref C)) (he : G X Γ e T) (h : ∀ σ v d H', B.ok H' → B.e d = none → Held H' d fld tag v → T v H' → W (.ref C) (some d) σ H') (hc : X.calm = true := by rfl) (hg : Gl X x := by rfl) (hdb : (x == ("__debug__" : Str)) = false := by decide) (hs : starEach [e] X.env = (false, eval e X.env) :: starEach [] X.env := by exact se_cons rfl) (hf : fld ≠ "" := by decide) :
    Bd X Γ (.Raise (some (.Call (.Name x p) [e] [] pos)) none pos2 :: rest) B D :=
  b_cons fun σ H e0 t => toS (ps_raise hc tk (pmk_oex O.oex iC tI F1 hr hb .nil pass0 hg hm (RL.pa [e]) hdb hs (se_any rfl))) (ga_cons he ga_nil hs σ H t _ fun vs H1 e1 h1 => by
    obtain ⟨v, rfl, hv⟩ := one2 h1
    refine ⟨by show 1 ≤ 1000; decide, fun a ha => ⟨a, v, rfl, upd_same, fun d hd hda => ⟨rfl, d, _, ?_, upd_same, ?_, ?_⟩⟩⟩
    · rw [upd_ne (Ne.symm hda), upd_same]
    · rw [upd_ne hda] at hd
      exact hd
    · rw [upd_ne hda] at hd
      have e2 : Ex H1 (upd (del (upd (upd (upd (upd H1 a (exo a C none)) d (exd d [(fld, v)])) a (exo a C (some d))) d (exd d [("tag", .str tag), (fld, v)])) a) d (.xd [("tag", .str tag), (fld, v)])) := .of fun b o hb => by
        have n1 : b ≠ d := ne_of_none hb hd
        have n2 : b ≠ a := ne_of_none hb ha
        rw [upd_ne n1, del_ne n2, upd_ne n1, upd_ne n2, upd_ne n1, upd_ne n2]
        exact hb
      exact h σ v d _ (e0.trans (e1.trans e2)) ((e0.trans e1).1.free hd) (held_fld hf upd_same) (T.up e2 hv))
end
end RL

set_option Elab.async false
set_option linter.all false
set_option maxRecDepth 100000
set_option maxHeartbeats 2000000
/-! RLlam0: a lambda is made: all that was tracked is as it was, the table may have grown -/
namespace RL
open PySem PySem.Spec PyProof.Rows L2 LamX
/-- the table's growth, as an order of heaps -/
theorem ex_table {H : Hp} {P c : Addr} {q : Str} {ps more : Array Value} {pos : Pos} (hP : H P = some (.tbl ps)) (ht : TriplesOk ps.toList) (nC : H c = none) (hm : more = #[rawInt pos.line, rawInt pos.col, .ref c])
    (hq : q = lamNm) : Ex H (upd (upd H P (.tbl (ps ++ more))) c (CodeO c q)) := by
  have nPc : P ≠ c := ne_of_none hP nC
  have keep : ∀ b o, H b = some o → NT o → upd (upd H P (.tbl (ps ++ more))) c (CodeO c q) b = some o := fun b o hb hn => by
    rw [upd_ne (ne_of_none hb nC), upd_ne (fun z => by rw [z, hP] at hb; cases hb; exact hn)]
    exact hb
  refine ⟨fun b o hb hn => keep b o hb hn, fun b hb => ?_, fun p q' zq t => ?_⟩
  · by_cases h1 : b = c
    · rw [h1]; exact nC
    · rw [upd_ne h1] at hb
      by_cases h2 : b = P
      · rw [h2, upd_same] at hb; cases hb
      · rw [upd_ne h2] at hb; exact hb
  · obtain ⟨ps', a1, a2, a3⟩ := id t
    by_cases h1 : p = P
    · subst h1
      have e := zq.trans hq.symm
      subst e
      rw [hP] at a1
      cases a1
      have eL : (ps ++ more).toList = ps.toList ++ [rawInt pos.line, rawInt pos.col, .ref c] := by rw [hm]; simp
      refine ⟨ps ++ more, by rw [upd_ne nPc, upd_same], by rw [eL]; exact PySem.TriplesOk_snoc _ _ _ _ ht, fun p' cv hcv => ?_⟩
      rw [eL] at hcv
      rcases among_app _ ht hcv with z | z
      · obtain ⟨c0, e1, e2⟩ := a3 p' cv z
        exact ⟨c0, e1, keep _ _ e2 (by unfold CodeO; trivial)⟩
      · exact ⟨c, z, upd_same⟩
    · refine ⟨ps', by rw [upd_ne (ne_of_none a1 nC), upd_ne h1]; exact a1, a2, fun p' cv hcv => ?_⟩
      obtain ⟨c0, e1, e2⟩ := a3 p' cv hcv
      exact ⟨c0, e1, keep _ _ e2 (by unfold CodeO; trivial)⟩
section
variable {X : Cx} {pins : List (Addr × Obj)} {σ : L2.St} {H : Hp} {s : Shared}
/-- the lambda is made -/
theorem lam_made {c P : Addr} {q : Str} {params : Arguments} {body : Expr} {scope : Scope} {pos : Pos} {E : Value → Shared → Prop} {Q : Value → Shared → Prop} (I : Inv X pins σ H s) (TB : TabB X.base X.mg c P) (hcode : X.env.code = .ref c) (hq : q = X.env.qual ++ "<lambda>")
    (hT : TabS H P q) (hu : q = lamNm) (hdef : defaultsOf params X.env = ([], [])) (hfree : ∀ y ∈ scope.names, y.2 = .free → ∃ c, X.env.cells.lookup y.1 = some c)
    (h : ∀ (f c' : Addr) (pm ctv : Value) (H1 : Hp) (s' : Shared), Inv X pins σ H1 s' → Ex H H1 → s'.heap.get? f = some (PySem.W.kla_obj "<lambda>" q params body scope (cloFrom X.env.cells scope.names []) pm c' ctv) → H1 f = none → f ∉ frs X.stack → H1 c' = some (CodeO c' q) → Q (.ref f) s') :
    wpAny (model X.prog X.w) X.A (eval (.Lambda params body scope pos) X.env) Q E s := by
  have hT0 := hT
  obtain ⟨ps, hP, ht, ha⟩ := hT
  refine PySem.W.kla_eval hdef ?_
  have bP : s.heap.BuiltinsAt X.mg P := TB.bm.keeps I.bk
  have oP : s.heap.get? P = some { cls := .none, data := .fields ps } := I.hok P _ hP
  have young : ∀ f, s.heap.objs.size ≤ f → f ∉ frs X.stack := fun f hf z => (List.mem_cons.mp (I.stkSub _ z)).elim (fun e => by
    have l := I.lt
    rw [← e] at l
    exact absurd (Nat.lt_of_lt_of_le l hf) (Nat.lt_irrefl _)) (I.nofs hf)
  have gl := I.mod.glob.keeps I.bk
  have cd := TB.code.keeps I.bk
  rw [← hq]
  cases hc : codeAmong pos ps.toList with
  | some cv =>
    obtain ⟨c', e, hco⟩ := ha pos cv hc
    subst e
    exact PySem.W.kla_makeFunctionHit (closure_ok hfree) I.ok.glob gl hcode cd oP ht hc bP fun ctv h' tk hx hsz => h _ c' _ ctv H _ (I.kept fun b o e => Heap.get?_push_of_some _ (hx b o e)) (Ex.refl H) (Heap.get?_push_size _ rfl) (I.hok.fresh hsz) (young _ hsz) hco
  | none =>
    refine PySem.W.kla_makeFunction (closure_ok hfree) I.ok.glob gl hcode cd oP ht hc TB.gP bP fun c' ctv h' tk hx hge hlt hrec htb => ?_
    obtain ⟨c2, oc, vs, t, e2, hoc, hd, hv⟩ := hrec
    cases e2
    have big : s.heap.objs.size ≤ h'.objs.size := Nat.le_trans hge (Nat.le_of_lt hlt)
    have nC : H c' = none := I.hok.fresh hge
    have J := inv_table (t' := tk) (more := #[rawInt pos.line, rawInt pos.col, .ref c']) (h' := h'.push (PySem.W.kla_obj "<lambda>" q params body scope (cloFrom X.env.cells scope.names []) ((X.mg "__name__").getD .none) c' ctv)) I hP (fun b o hb e => Heap.get?_push_of_some _ (hx b o hb e)) (Heap.get?_push_of_some _ htb) hge ⟨oc, vs, t, Heap.get?_push_of_some _ hoc, hd, hv⟩
    have eH := ex_table (pos := pos) (more := #[rawInt pos.line, rawInt pos.col, .ref c']) hP ht nC rfl hu
    refine h _ c' _ ctv _ _ J eH (Heap.get?_push_size _ rfl) ?_ (young _ big) upd_same
    rw [upd_ne (Nat.ne_of_gt hlt), upd_ne (Nat.ne_of_gt (Nat.lt_of_lt_of_le (Heap.lt_size oP) big))]
    exact I.hok.fresh big
end
end RL

set_option Elab.async false
set_option linter.all false
set_option maxRecDepth 100000
set_option maxHeartbeats 2000000
/-! RLtry: try .. except (A, B, C) as n, where one of the classes is the exception's -/
namespace RL
open PySem PySem.Spec PyProof.Rows L2
theorem up_keeps {h h' : Heap} (k : ∀ b o, h.get? b = some o → h'.get? b = some o) : h.UpToSlots h' := fun b o hb _ => ⟨o.slots, k b o hb⟩
theorem flying_keeps {B h h' : Heap} {l : List Env} {e : Addr} {Z : Obj → Prop} (fl : HandSPX.FlyingZ B l e Z h) (k : ∀ b o, h.get? b = some o → h'.get? b = some o) : HandSPX.FlyingZ B l e Z h' := by
  obtain ⟨h1, h2, h3, oe, vs, T, oT, ts, a1, a2, a3, a4, a5, a6, a7, a8, a9⟩ := fl
  exact ⟨fun b o hb => k b o (h1 b o hb), h2, h3.of_keeps fun b o hb _ => ⟨o, k b o hb, rfl⟩, oe, vs, T, oT, ts, k _ _ a1, a2, a3, a4, a5, a6, k _ _ a7, a8, a9⟩
/-- an exception, at a, that has come down to X's frame; sI is the state it was raised in -/
structure Down (X : Cx) (pins : List (Addr × Obj)) (σ : L2.St) (H : Hp) (B : Heap) (a : Addr) (cls : Value) (d : Option Addr) (sI s : Shared) : Prop where
  before : Inv X pins σ H sI
  ground : ∀ b o, sI.heap.get? b = some o → b ∉ frs X.stack → B.get? b = some o
  up : sI.heap.UpToSlots s.heap
  out : s.os = sI.os
  gens : AllBare s.gens
  fly : HandSPX.FlyingZ B (X.env :: X.outer) a (Zc cls d) s.heap
  new : H a = none
section
variable {X : Cx} {pins : List (Addr × Obj)} {σ : L2.St} {H : Hp} {B : Heap} {a : Addr} {cls : Value} {d : Option Addr} {sI s : Shared}
theorem Down.inv (k : Down X pins σ H B a cls d sI s) : Inv X pins σ H s := k.before.landed k.ground k.fly.1 k.up k.out k.gens
theorem Down.moved {h : Heap} (k : Down X pins σ H B a cls d sI s) (f : HandSPX.FlyingZ B (X.env :: X.outer) a (Zc cls d) h) (u : s.heap.UpToSlots h) : Down X pins σ H B a cls d sI { s with heap := h } :=
  { before := k.before, ground := k.ground, up := k.up.trans u, out := k.out, gens := k.gens, fly := f, new := k.new }
theorem Down.grown {h : Heap} (k : Down X pins σ H B a cls d sI s) (g : ∀ b o, s.heap.get? b = some o → h.get? b = some o) : Down X pins σ H B a cls d sI { s with heap := h } := k.moved (flying_keeps k.fly g) (up_keeps g)
/-- it is no frame's namespace -/
theorem Down.frames (k : Down X pins σ H B a cls d sI s) : a ∉ frs (X.env :: X.outer) := fun m => by
  obtain ⟨oe, vs, e1, _, e2⟩ := k.fly.there
  obtain ⟨_, o, e3, nf⟩ := k.fly.2.2.1.mem m
  have e4 : o = oe := Option.some.inj (e3.symm.trans e1)
  subst e4
  exact nf vs e2
/-- the suite's state, the exception held -/
theorem Down.held (k : Down X pins σ H B a cls d sI s) (hf : X.env.frame = some X.env.locals) : ∃ oe, s.heap.get? a = some oe ∧ Zc cls d oe ∧ (∃ vs, oe.data = .fields vs) ∧ Inv (X.suite a ((a, oe) :: (X.pn ++ pins))) [] σ H s := by
  obtain ⟨oe, vs, e1, z, e2⟩ := k.fly.there
  refine ⟨oe, e1, z, ⟨vs, e2⟩, k.inv.suite e1 e2 k.new (fun c => k.frames ?_) fun m => k.frames ?_⟩
  · rw [c]
    exact List.mem_filterMap.mpr ⟨X.env, by simp, hf⟩
  · obtain ⟨e, m1, m2⟩ := List.mem_filterMap.mp m
    exact List.mem_filterMap.mpr ⟨e, by simp [m1], m2⟩
/-- a class's name, looked up while the clauses are tried -/
theorem Down.class_ (k : Down X pins σ H B a cls d sI s) (hf : X.env.frame = some X.env.locals) {x : Str} {c : Value} {p : Pos} {Q E : Value → Shared → Prop} (hx : Names X x c) (q : Q c s) : wpAny (model X.prog X.w) (X.A.mark (some (.ref a))) (eval (.Name x p) X.env) Q E s := by
  obtain ⟨oe, _, _, _, I⟩ := k.held hf
  obtain ⟨g, nd, m | ⟨m, hb, nn⟩⟩ := hx
  · exact ld_glob (X := X.suite a ((a, oe) :: (X.pn ++ pins))) I g m q nd
  · exact ld_blt (X := X.suite a ((a, oe) :: (X.pn ++ pins))) I g m hb q nn nd
end
/-- behind the suite nothing stands in the clause's name -/
def emptied (i : Nat) (D : Ends) : Ends where
  nx σ H := D.nx (σ.set i none) H
  rt := D.rt
  bk σ H := D.bk (σ.set i none) H
  ct σ H := D.ct (σ.set i none) H
/-- what the clause wishes of an exception of the body -/
def wHit (K : PySem.W.Frag) (cs : List Value) (i : Nat) (ts : Addr → Value → Option Addr → TS) (D : Ends) : WX := fun cls d σ H => PySem.W.exmAny K cls cs = some true ∧ ∀ a, H a = none → ts a cls d (emptied i D) (σ.set i (some (.ref a))) H
section
variable {X : Cx} {x1 x2 x3 n : Str} {c1 c2 c3 : Value} {kk i : Nat} {body suite : List Stmt} {b₀ : Stmt} {np np1 np2 np3 pos pos' : Pos} {tb : WX → TS} {ts : Addr → Value → Option Addr → TS} {D : Ends} {f : Flow} {s : Shared} {pins : List (Addr × Obj)}
theorem sp_of {Y : Cx} {pn' : List (Addr × Obj)} {D' : Ends} (h : SP Y pn' D' f s) (k : ∀ σ H, Inv Y pn' σ H s → ∃ σ' : L2.St, Inv X pins σ' H s ∧ (D'.nx σ H → D.nx σ' H) ∧ (D'.bk σ H → D.bk σ' H) ∧ (D'.ct σ H → D.ct σ' H)) (hr : D'.rt = D.rt) : SP X pins D f s := by
  cases f with
  | ret u =>
    obtain ⟨v, σ, H, I, r, q⟩ := h
    obtain ⟨σ', I', _⟩ := k σ H I
    exact ⟨v, σ', H, I', r, hr ▸ q⟩
  | next =>
    obtain ⟨σ, H, I, q⟩ := h
    obtain ⟨σ', I', m, _⟩ := k σ H I
    exact ⟨σ', H, I', m q⟩
  | brk =>
    obtain ⟨σ, H, I, q⟩ := h
    obtain ⟨σ', I', _, m, _⟩ := k σ H I
    exact ⟨σ', H, I', m q⟩
  | cont =>
    obtain ⟨σ, H, I, q⟩ := h
    obtain ⟨σ', I', _, _, m⟩ := k σ H I
    exact ⟨σ', H, I', m q⟩
theorem ps_try_hit (hs : X.stack = X.env :: X.outer) (hf : X.env.frame = some X.env.locals) (hN : X.N.Nodup) (hi : X.N[i]? = some n) (hln : X.env.kindOf n = some .local) (n1 : Names X x1 c1) (n2 : Names X x2 c2) (n3 : Names X x3 c3)
    (hb : ∀ (W : WX) (pn : List (Addr × Obj)) (xe : Value → Shared → Prop), Takes (X.tr pn xe) W → PSs (X.tr pn xe) body (tb W))
    (hsu : ∀ (a : Addr) (oe : Obj) (cls : Value) (d : Option Addr) (pn : List (Addr × Obj)), Zc cls d oe → (∃ vs, oe.data = .fields vs) → PSs (X.suite a ((a, oe) :: pn)) (b₀ :: suite) (ts a cls d)) :
    PS X (.Try body [.ExceptHandler (some (.Tuple [.Name x1 np1, .Name x2 np2, .Name x3 np3] kk np)) (some n) (b₀ :: suite) pos'] [] [] pos) (fun D σ H => tb (wHit X.K [c1, c2, c3] i ts D) D σ H) := ⟨fun pins s σ H D I h => by
  have hfr : X.A.frames = some (X.env :: X.outer) := by rw [I.ok.frames, hs]
  refine wpAny_Try_except (wpAny_mono ((hb (wHit X.K [c1, c2, c3] i ts D) (X.pn ++ pins) _ ?_).run [] s σ H D (I.toTry _) h) (fun f s1 hsp => ?_) fun _ _ z => z)
  · rintro u s1 ⟨a, B, sI, pins', σ1, H1, cls, d, rfl, I1, nb, up, sky, na, os, ag, hm, hq⟩
    have sky' : Sky B (X.env :: X.outer) a (Zc cls d) X.env.locals s1.heap := hs ▸ sky
    refine Sky.land Zc.steady hfr hf sky' fun h2 fl2 up2 => ?_
    have k2 : Down X pins σ1 H1 B a cls d sI { s1 with heap := h2 } := ⟨I1.ofTry I.ok, nb, up.trans up2, os, ag, fl2, na⟩
    refine wpAny_handleBy_cons (codeAny_handlers_test ?_) (fun z => by cases z)
    refine wpAny_Tuple (wpAny_items_cons (k2.class_ hf n1 (wpAny_items_cons (k2.class_ hf n2 (wpAny_items_cons (k2.class_ hf n3 (wpAny_items_nil ⟨by size_fits, ?_⟩)))))))
    -- the tuple of the classes is there
    have g3 : ∀ b o, h2.get? b = some o → (h2.push { cls := .type "tuple", data := .seq [c1, c2, c3].toArray }).get? b = some o := fun _ _ z => Heap.get?_push_of_some _ z
    have k3 := k2.grown g3
    obtain ⟨oe, e1, z1, _, _⟩ := k3.held hf
    have LT : PySem.W.Looks (model X.prog X.w) (h2.push { cls := .type "tuple", data := .seq [c1, c2, c3].toArray }) (typeOf (.ref a)) cls := fun _ _ _ _ hk q => wpAny_typeOf_ref (hk _ _ e1) (by rw [z1.1]; exact q)
    refine (PySem.W.exm_tup3 (M := model X.prog X.w) k3.inv.kIn LT (Heap.get?_push_size h2 rfl) hm).here ?_
    refine codeAny_handlers_suite_as (HandSPX.lands_againZ k3.fly fun h4 fl4 up4 => ?_)
    have k4 := k3.moved fl4 up4
    obtain ⟨oe4, e4, z4, hv4, I4⟩ := k4.held hf
    refine store_ok (X := X.suite a ((a, oe4) :: (X.pn ++ pins))) (v := .ref a) I4 hN hi (.inl hln) rfl (fun s5 I5 => ?_) (.inr hln)
    refine wpAny_mono ((hsu a oe4 cls d (X.pn ++ pins) z4 hv4).run [] s5 _ H1 _ I5 (hq a na)) (fun f s6 hsp => ?_) fun _ _ z => z.elim
    have bye : ∀ {σ6 : L2.St} {H6 : Hp} {R : Shared → Prop}, Inv (X.suite a ((a, oe4) :: (X.pn ++ pins))) [] σ6 H6 s6 → (∀ s7, Inv X pins (σ6.set i none) H6 s7 → R s7) → wpAny (model X.prog X.w) X.A (do bindName X.env n .none; unbindBehindTheSuite X.env n pos') (fun _ s7 => R s7) X.xe s6 :=
      fun I6 r => gone_ok (I6.unsuite I.ok) hN hi hln r
    cases f with
    | ret u => exact let ⟨v, _, _, I6, r, q⟩ := hsp; bye I6 fun _ I7 => ⟨v, _, _, I7, r, q⟩
    | next => exact let ⟨_, _, I6, q⟩ := hsp; bye I6 fun _ I7 => ⟨_, _, I7, q⟩
    | brk => exact let ⟨_, _, I6, q⟩ := hsp; bye I6 fun _ I7 => ⟨_, _, I7, q⟩
    | cont => exact let ⟨_, _, I6, q⟩ := hsp; bye I6 fun _ I7 => ⟨_, _, I7, q⟩
  · have z : SP X pins D f s1 := sp_of hsp (fun σ' H' I' => ⟨σ', I'.ofTry I.ok, id, id, id⟩) rfl
    cases f with
    | next => exact wpAny_execs_nil z
    | _ => exact z⟩
end
end RL

set_option Elab.async false
set_option linter.all false
set_option maxRecDepth 100000
set_option maxHeartbeats 2000000
/-! RLwhy: what is read of a caught exception; a def that is called with it inside the suite -/
namespace RL
open PySem PySem.Spec PyProof.Rows L2
section
variable {X : Cx} {Γ : Ctx} {e o : Expr} {T Tf : Ty} {pos p p1 p2 : Pos} {x fld tag : Str} {a C dd : Addr} {oe : Obj} {k : Nat}
/-- e.n, e the exception at a, its object held by the context -/
theorem pe_xfP {te : TE} {n : Str} (hp : (a, oe) ∈ X.pn) (F : XfC X.K C) (hno : PySem.W.findIn X.K (.ref C) n = some none) (hz : Zc (.ref C) (some dd) oe) (hf : ∃ vs, oe.data = .fields vs) (he : PE X e te) (hb : attributeBase e n X.env (eval e X.env) = eval e X.env := by rfl) :
    PE X (.Attribute e n pos) (fun σ H Q => te σ H fun v H1 => v = .ref a ∧ ∃ (fs : List (Str × V)) (y : V), H1 dd = some (.xd fs) ∧ fs.lookup n = some y ∧ Q y H1) := by
  refine ⟨fun pins s σ H Q I h => attr_of hb (thn (he.run pins s σ H _ I h) fun u s1 hh => ?_)⟩
  obtain ⟨v, H1, I1, rx, ev, fs, y, ed, l, q⟩ := hh
  subst ev
  obtain rfl : u = Value.ref a := rx
  have ha := (I1.pin (a, oe) (List.mem_append_left _ hp)).1
  obtain ⟨vs, hd⟩ := hf
  obtain ⟨mA, hns, hr⟩ := (show ObjOk X.prog X.w H1 s1.heap dd (.xd fs) from I1.hok dd _ ed)
  obtain ⟨od, ho, hl⟩ := lookIn_ns hns
  obtain ⟨u, hu, ru⟩ := RelO.some_of (v := y) (o := mA n) (by rw [← l]; exact hr n)
  have J : PySem.W.InstAt s1.heap a oe C (some od) := ⟨ha, hz.1, by unfold PySem.W.notCls; rw [hd] <;> rfl, by rw [hz.2]; exact ho⟩
  exact HandSPX.exc_get I1.kIn J F.ga F.gg F.exC (PySem.W.findObj_own F.hdC hno rfl (by rw [hl, hu])) (handed_of ru) ⟨y, H1, I1.tok _, ru, q⟩
/-- the exception at a: its dict at dd holds tag and fld -/
def xcT (a dd : Addr) (fld tag : Str) (Tf : Ty) : Ty := ⟨fun v H => v = .ref a ∧ ∃ y, Held H dd fld tag y ∧ Tf y H, fun e ⟨h1, y, h2, h3⟩ => ⟨h1, y, h2.up e, Tf.up e h3⟩⟩
theorem g_xtag (hp : (a, oe) ∈ X.pn) (O : ExC X.K C fld) (hz : Zc (.ref C) (some dd) oe) (hf : ∃ vs, oe.data = .fields vs) (he : G X Γ e (xcT a dd fld tag Tf)) (hb : attributeBase e "tag" X.env (eval e X.env) = eval e X.env := by rfl) : G X Γ (.Attribute e "tag" pos) (strT tag) := fun σ H t Q q =>
  toE (pe_xfP hp O.xf O.n2 hz hf (pe e) hb) (he σ H t _ fun v H1 e1 ⟨ev, y, h1, h2⟩ => ⟨ev, _, _, h1.1, rfl, q _ H1 e1 rfl⟩)
theorem g_xfld (hp : (a, oe) ∈ X.pn) (O : ExC X.K C fld) (hz : Zc (.ref C) (some dd) oe) (hf : ∃ vs, oe.data = .fields vs) (hn : (fld == ("tag" : Str)) = false) (hnf : fld ≠ "") (he : G X Γ e (xcT a dd fld tag Tf)) (hb : attributeBase e fld X.env (eval e X.env) = eval e X.env := by rfl) : G X Γ (.Attribute e fld pos) Tf := fun σ H t Q q =>
  toE (pe_xfP hp O.xf O.n1 hz hf (pe e) hb) (he σ H t _ fun v H1 e1 ⟨ev, y, h1, h2⟩ => ⟨ev, _, y, h1.1, by simp [fldL, hnf, List.lookup, hn], q _ H1 e1 h2⟩)
end
/-- a def that gives the field of a caught exception of such a class -/
structure FldP (P : Program) (w : World) (K : PySem.W.Frag) (mg : Str → Option Value) (base : Heap) (k : Nat) (x : Str) (C : Addr) (fld tag : Str) : Prop where
  ex : ∃ (f : Addr) (fd : FuncData) (ps : List Str), mg x = some (.ref f) ∧ PySem.W.keepIn K (.ref f) = true ∧ Binds K fd ps [] ∧ ps.length = 1 ∧ ∀ (A : Around) (outer : List Env) (s : Shared) (H : Hp) (args : Args) (a dd : Addr) (oe : Obj) (y : V) (Q : VK), L2H.RoomH k A → L2H.PinOk outer H s (a, oe) → Zc (.ref C) (some dd) oe → (∃ vs, oe.data = .fields vs) →
    Env0 P w K mg base A outer s H → BindsTo s fd args (ps.zip [.ref a]) → Held H dd fld tag y → (∀ H', Ex H H' → Q y H') → codeAny (model P w) A (.call (.ref f) args) (CR CX0 outer P w H s Q E0) s
section
variable {P : Program} {w : World} {K : PySem.W.Frag} {mg : Str → Option Value} {base : Heap} {x qual : Str} {params : Arguments} {body : List Stmt} {scope : Scope} {kws : List (Str × V)} {f : Addr} {fd : FuncData} {N ps : List Str} {k : Nat} {C : Addr} {fld tag : Str}
theorem fld_run (F : FunD K x qual params body scope [] kws f fd) (S : FnScope N ps scope) (hl : ps.length = 1)
    (h : ∀ (cdv : Value) (A : Around) (outer : List Env) (s : Shared) (H : Hp) (E : XK) (a dd : Addr) (oe : Obj) (y : V), Zc (.ref C) (some dd) oe → (∃ vs, oe.data = .fields vs) → (L2H.cxH CX0 P w K mg base N qual scope f cdv A outer s H E (a, oe)).N.Nodup → ∀ D : Ends, (∀ H', (Bs.of H).ok H' → D.rt y H') → Bd (L2H.cxH CX0 P w K mg base N qual scope f cdv A outer s H E (a, oe)) (ctx0 N [xcT a dd fld tag (valT y)]) body (Bs.of H) { D with nx := fun _ _ => False })
    {A : Around} {outer : List Env} {s : Shared} {H : Hp} {args : Args} {a dd : Addr} {oe : Obj} {y : V} {Q : VK} (hr : L2H.RoomH (k + 1) A) (hpin : L2H.PinOk outer H s (a, oe)) (hz : Zc (.ref C) (some dd) oe) (hf : ∃ vs, oe.data = .fields vs) (e0 : Env0 P w K mg base A outer s H) (hb : BindsTo s fd args (ps.zip [.ref a])) (hh : Held H dd fld tag y) (q : ∀ H', Ex H H' → Q y H') :
    codeAny (model P w) A (.call (.ref f) args) (CR CX0 outer P w H s Q E0) s := by
  obtain ⟨oc, od, dV, kV, doc, pm, an, cdv, ct, osl, rfl, lk, hcd, _, _⟩ := F.ex
  have KX : K.In s.heap := e0.mod.kin.keeps fun b o e => (e0.bs b o e).1
  have lim : s.heap.NoLimit := e0.mod.nolimit.keeps fun b o e => (e0.bs b o e).1
  refine codeAny_call_function hr.depth (KX _ _ lk) rfl S.co S.gen rfl (PySem.W.codeRec_of KX hcd) (hb _ _ _ _ ?_)
  refine wpAny_newFunctionEnv_cells S.kind (fun ⟨n, v⟩ hy => ?_) fun env he s1 x1 => ?_
  · rcases S.par n (List.of_mem_zip hy).1 with q | q
    · exact .inl q
    · exact .inr ⟨q, PySem.W.cellsFrom_some _ _ _ (.inl q)⟩
  subst he
  refine ⟨lim.keeps x1.toInCall.keep, codeAny_func ?_⟩
  have I := L2H.inv_startH (CX := CX0) (E := E0) S hpin e0 (vs := [.ref a]) (us := [.ref a]) (by rw [hl]; rfl) (.cons rfl .nil) x1
  have z := (h cdv A outer s H E0 a dd oe y hz hf S.nd { nx := fun _ _ => False, rt := Q } (fun H' ok => q H' ok.1) (L2.start N [.ref a]) H (Bs.refl H) (typed0 ⟨⟨rfl, y, hh, rfl⟩, trivial⟩)).run [] s1 I
  refine wpAny_mono z (fun fl s' hs => ?_) fun e s' hs => hs
  cases fl with
  | ret u =>
    obtain ⟨v, σ', H', J, rv, q⟩ := hs
    exact ⟨v, H', J.os, J.bare, J.base, J.hok, rv, q⟩
  | next =>
    obtain ⟨_, _, _, q⟩ := hs
    exact False.elim q
  | brk =>
    obtain ⟨_, _, _, q⟩ := hs
    exact False.elim q
  | cont =>
    obtain ⟨_, _, _, q⟩ := hs
    exact False.elim q
end
section
variable {X : Cx} {Γ : Ctx} {e o : Expr} {T Tf : Ty} {pos p p1 p2 : Pos} {x fld tag : Str} {a C dd : Addr} {oe : Obj} {k : Nat}
/-- x(e), in the suite -/
theorem g_field (hp : (a, oe) ∈ X.pn) (F : FldP X.prog X.w X.K X.mg X.base k x C fld tag) (hr : L2H.RoomH k X.A) (hz : Zc (.ref C) (some dd) oe) (hf : ∃ vs, oe.data = .fields vs) (he : G X Γ e (xcT a dd fld tag Tf)) (hg : Gl X x := by rfl) (hdb : (x == ("__debug__" : Str)) = false := by decide)
    (hs : starEach [e] X.env = (false, eval e X.env) :: starEach [] X.env := by exact se_cons rfl) : G X Γ (.Call (.Name x p) [e] [] pos) Tf := fun σ H t Q q => ⟨fun pins s I => by
  obtain ⟨f, fd, ps, hm, hk, hb, hl, run⟩ := F.ex
  refine wpAny_Call_Name_kw (ld_glob I hg hm ?_ hdb)
  refine PySem.W.callWith_K (h₀ := X.base) I.ok.mod.kin hk (thn ((ga_cons he ga_nil hs σ H t (fun vs H1 => Ex H H1 ∧ All2 [xcT a dd fld tag Tf] vs H1) fun vs H1 e1 h1 => ⟨e1, h1⟩).run pos pins s I) fun us s1 ⟨vs, H1, I1, r1, e1, h1⟩ => ⟨I1.kIn, ?_⟩) hs (se_any rfl)
  obtain ⟨v, rfl, ev, y, h2, h3⟩ := one2 h1
  subst ev
  obtain ⟨u, rfl, ru⟩ := r1.one
  obtain rfl : u = Value.ref a := ru
  have P1 := I1.pin (a, oe) (List.mem_append_left _ hp)
  have hpin : L2H.PinOk X.stack H1 s1 (a, oe) := ⟨P1.1, P1.2.1, fun hm => (List.mem_cons.mp (I1.stkSub _ hm)).elim P1.2.2.1 P1.2.2.2.1, P1.2.2.2.2⟩
  have b := hb s1 [.ref a] I1.kIn (by rw [List.append_nil, hl]; rfl)
  rw [List.append_nil] at b
  refine wpAny_call (codeAny_mono (run X.A X.stack s1 H1 ⟨[.ref a], []⟩ a dd oe y Q hr hpin hz hf I1.env0 b h2 fun H' e' => q y H' (e1.trans e') (Tf.up e' h3)) fun r s' hq => ?_)
  cases r with
  | error e => exact (show False from hq).elim
  | ok fl =>
    cases fl with
    | ret u => exact I1.after hq
    | next => exact False.elim hq
    | brk => exact False.elim hq
    | cont => exact False.elim hq⟩
end
end RL

set_option Elab.async false
set_option linter.all false
set_option maxRecDepth 100000
set_option maxHeartbeats 2000000
/-! RLwhy2: `_law_why(lambda: ..)` -/
namespace RL
open PySem PySem.Spec PyProof.Rows L2 LamX
/-- what the clause wishes of the lambda's exception -/
def whyE (C : Addr) (fld tag : Str) (Q : VK) : XK := fun cls d H' => cls = .ref C ∧ ∃ dd y, d = some dd ∧ Held H' dd fld tag y ∧ ∀ H'' p, Ex H' H'' → H'' p = none → Q (.ref p) (upd H'' p (.tup [.str tag, y]))
def TTwhy (C : Addr) (fld tag : Str) : (XK → Hp → VK → Prop) → Hp → VK → Prop := fun tl H Q => tl (whyE C fld tag Q) H fun v H' => [V.str "", v].length ≤ sizeLine ∧ ∀ p, H' p = none → Q (.ref p) (upd H' p (.tup [.str "", v]))
abbrev NWhy : List Str := ["_law_ask", "_law_e"]
section
variable {X : Cx} {x q fld tag : Str} {sg : Scope} {g C : Addr} {cdg c1 c2 c3 : Value} {kf j kk k3 k4 : Nat} {p1 p2 p3 p4 p5 p6 p7 p8 p9 p10 p11 p12 p13 p14 np np1 np2 np3 : Pos}
theorem why_gives (O : ExC X.K C fld) (hn : (fld == ("tag" : Str)) = false) (FP : FldP X.prog X.w X.K X.mg X.base kf "_law_field" C fld tag) (hr : Room (kf + 1) X.A)
    (n1 : sg.names.lookup ("TimesError" : Str) = some .globalImplicit) (n2 : sg.names.lookup ("Missing" : Str) = some .globalImplicit) (n3 : sg.names.lookup ("NothingLeft" : Str) = some .globalImplicit) (m1 : X.mg "TimesError" = some c1) (m2 : X.mg "Missing" = some c2) (m3 : X.mg "NothingLeft" = some c3) (hx : PySem.W.exmAny X.K (.ref C) [c1, c2, c3] = some true)
    (l0 : sg.names.lookup ("_law_ask" : Str) = some .local) (l1 : sg.names.lookup ("_law_e" : Str) = some .local) (lf : sg.names.lookup ("_law_field" : Str) = some .globalImplicit) :
    GivesTo X NWhy x sg g cdg [.Try [.Return (some (.Tuple [.Constant (.str "") j p1, .Call (.Name "_law_ask" p2) [] [] p3] kk p4)) p5] [.ExceptHandler (some (.Tuple [.Name "TimesError" np1, .Name "Missing" np2, .Name "NothingLeft" np3] k3 np)) (some "_law_e") [.Return (some (.Tuple [.Attribute (.Name "_law_e" p6) "tag" p7, .Call (.Name "_law_field" p8) [.Name "_law_e" p9] [] p10] k4 p11)) p12] p13] [] [] p14] "_law_ask" q (TTwhy C fld tag) := by
  intro f c' s H Q tl act hc h
  let Y : Cx := (cxOf C8.CX0 X.prog X.w X.K X.mg X.base NWhy x sg g cdg X.A X.stack s H C8.E0).nox
  have hY : Y = (cxOf C8.CX0 X.prog X.w X.K X.mg X.base NWhy x sg g cdg X.A X.stack s H C8.E0).nox := rfl
  refine ⟨_, pss_one (ps_try_hit (X := Y) (c1 := c1) (c2 := c2) (c3 := c3) (i := 1)
      (tb := fun W D σ H => ∃ Ech : XK, (∀ cls d σ' H', Ech cls d H' → W cls d σ' H') ∧ σ[0]? = some (some (.ref f)) ∧ H c' = some (CodeO c' q) ∧ tl Ech H fun v H' => [V.str "", v].length ≤ sizeLine ∧ ∀ p, H' p = none → D.rt (.ref p) (upd H' p (.tup [.str "", v])))
      (ts := fun a cls d D σ H => cls = .ref C ∧ ∃ dd y, d = some dd ∧ Held H dd fld tag y ∧ (1 < σ.length → σ[1]? = some (some (.ref a))) ∧ ∀ H'' p, Ex H H'' → H'' p = none → D.rt (.ref p) (upd H'' p (.tup [.str tag, y])))
      rfl rfl (by show NWhy.Nodup; decide +kernel) rfl l1 ⟨n1, by decide, .inl m1⟩ ⟨n2, by decide, .inl m2⟩ ⟨n3, by decide, .inl m3⟩ (fun W pn xe tk => ?_) (fun a oe cls d pn hz hf => ?_)), ?_⟩
  · refine ⟨fun pins s' σ H' D I h' => ?_⟩
    obtain ⟨Ech, hW, h1, h2, h3⟩ := h'
    have hp := act W pn xe Ech p2 p3 tk hW
    exact (pss_one (ps_ret (pos := p5) (pe_tup (x1 := kk) (pos := p4) (pa_cons (pe_str (j := j) (pos := p1)) (pa_cons hp pa_nil (se_cons rfl)) (se_cons rfl))))).run pins s' σ H' D I ⟨h1, h2, h3⟩
  · refine ⟨fun pins s' σ H' D I h' => ?_⟩
    obtain ⟨ec, dd, y, ed, hh, hσ, hq⟩ := h'
    subst ec; subst ed
    have hlen : σ.length = 2 := I.len
    have t : Typed σ [none, some (xcT a dd fld tag (valT y))] H' := ⟨hlen, fun i T g => by
      match i, g with
      | 1, g => cases g; exact ⟨_, hσ (by omega), rfl, y, hh, rfl⟩
      | n + 2, g => simp at g⟩
    have hin : (a, oe) ∈ (Y.suite a ((a, oe) :: pn)).pn := List.mem_cons_self
    have hR : L2H.RoomH kf (Y.suite a ((a, oe) :: pn)).A := by
      have z := L2H.roomH_of (hr.deeper (envOfC x sg s.heap.objs.size g cdg))
      exact ⟨z.dp, z.un⟩
    have b : Bd (Y.suite a ((a, oe) :: pn)) [none, some (xcT a dd fld tag (valT y))] [.Return (some (.Tuple [.Attribute (.Name "_law_e" p6) "tag" p7, .Call (.Name "_law_field" p8) [.Name "_law_e" p9] [] p10] k4 p11)) p12] ⟨H', H'⟩ D := by
      have lk : (Y.suite a ((a, oe) :: pn)).env.scope.names.lookup ("_law_e" : Str) = some .local := l1
      have gf : Gl (Y.suite a ((a, oe) :: pn)) "_law_field" := lf
      have ge : ∀ {p : Pos}, G (Y.suite a ((a, oe) :: pn)) [none, some (xcT a dd fld tag (valT y))] (.Name "_law_e" p) (xcT a dd fld tag (valT y)) := fun {p} => g_var 1 rfl rfl (.inl lk)
      exact b_cons fun σ1 H1 e0 t1 => toS (ps_ret (pe_tup (RL.pa [.Attribute (.Name "_law_e" p6) "tag" p7, .Call (.Name "_law_field" p8) [.Name "_law_e" p9] [] p10]))) (ga_cons (g_xtag hin O hz hf ge) (ga_cons (g_field hin FP hR hz hf ge gf) ga_nil (se_cons rfl)) (se_cons rfl) σ1 H1 t1 _ fun vs H2 e2 h2 => by
        have ev := vals2 h2
        subst ev
        exact ⟨by show 2 ≤ sizeLine; decide, fun p hp => hq H2 p (e0.1.trans e2) hp⟩)
    exact (b σ H' ⟨Ex.refl _, Le.refl _⟩ t).run pins s' I
  · exact ⟨whyE C fld tag Q, fun cls d σ' H' ⟨ec, dd, y, ed, hh, hq⟩ => ⟨by rw [ec]; exact hx, fun a ha => ⟨ec, dd, y, ed, hh, fun hl => by rw [List.getElem?_set_self (by simpa using hl)], hq⟩⟩, rfl, hc, h⟩
end
end RL

set_option Elab.async false
set_option linter.all false
set_option maxRecDepth 100000
set_option maxHeartbeats 2000000
/-! RLwhy3: f(lambda: e), f as `_law_why` -/
namespace RL
open PySem PySem.Spec PyProof.Rows L2 LamX
/-- never a value -/
def falseT : Ty := ⟨fun _ _ => False, fun _ h => h⟩
instance : Stb falseT := ⟨fun _ h => h⟩
/-- the heap has grown from H0 -/
def sinceT (H0 : Hp) : Ty := ⟨fun _ H => Ex H0 H, fun e h => h.trans e⟩
/-- the table at P tells lambdas of laws alone -/
def tabT (P : Addr) : Ty := ⟨fun _ H => TabS H P lamNm, fun e h => e.tab P _ rfl h⟩
instance (P : Addr) : Stb (tabT P) := ⟨fun e h => e.tab P _ rfl h⟩
def bothT (T U : Ty) : Ty := ⟨fun v H => T v H ∧ U v H, fun e h => ⟨T.up e h.1, U.up e h.2⟩⟩
instance (T U : Ty) [a : Stb T] [b : Stb U] : Stb (bothT T U) := ⟨fun e h => ⟨a.le e h.1, b.le e h.2⟩⟩
/-- the lambda's body at H1, wherever it is run: it gives T, or raises C with Tf in the field -/
def LamB (X : Cx) (scope : Scope) (k : Nat) (Γ : Ctx) (body : Expr) (C : Addr) (fld tag : Str) (T Tf : Ty) : Prop :=
  ∀ (A : Around) (outer : List Env) (s : Shared) (H0 : Hp) (E : XK) (f c' : Addr) (H1 : Hp) (W : WX), Room k (A.deeper (lamEnv X scope s.heap.objs.size f c')) → Takes (lamCx X A outer s H0 E scope f c') W →
    (∀ σ dd y H', Ex H1 H' → Held H' dd fld tag y → Tf y H' → W (.ref C) (some dd) σ H') → ∀ σ, Typed σ Γ H1 → ∀ Q : VK, (∀ v H', Ex H1 H' → T v H' → Q v H') → tE (lamCx X A outer s H0 E scope f c') body σ H1 Q
section
variable {X : Cx} {Γ : Ctx} {T Tf R : Ty} {x fld tag : Str} {C c P g : Addr} {kl : Nat} {fd : FuncData} {pg params : Arguments} {bg : List Stmt} {sg scope : Scope} {kws : List (Str × V)} {body : Expr} {p pos lpos : Pos}
theorem g_lamwhy (hm : X.mg x = some (.ref g)) (F : FunD X.K x x pg bg sg [] kws g fd) (hb : Binds X.K fd ["_law_ask"] []) (Sg : FnScope NWhy ["_law_ask"] sg) (hva : Vis sg "_law_ask")
    (hG : ∀ cdg, GivesTo X NWhy x sg g cdg bg "_law_ask" lamNm (TTwhy C fld tag)) (TB : TabB X.base X.mg c P) (hcode : X.env.code = .ref c) (hq : X.env.qual ++ "<lambda>" = lamNm) (hT : ∀ σ H, Typed σ Γ H → TabS H P lamNm)
    (hr : Room (kl + 2) X.A) (L : LamS X.env.scope scope) (hdef : defaultsOf params X.env = ([], [])) (hbind : ∀ (q : Str) (cl : List (Str × Addr)) (pm cv ctv : Value), bindArgs (PySem.W.kla_fn "<lambda>" q params body scope cl pm cv ctv) ⟨[], []⟩ = pure [])
    (hB : LamB X scope kl Γ body C fld tag T Tf) (hR1 : ∀ v H, tupT X.K [strT "", T] v H → R v H) (hR2 : ∀ v H, tupT X.K [strT tag, Tf] v H → R v H) (hg : Gl X x := by rfl) (hdb : (x == ("__debug__" : Str)) = false := by decide) :
    G X Γ (.Call (.Name x p) [.Lambda params body scope lpos] [] pos) R := fun σ H t Q q => ⟨fun pins s I => by
  obtain ⟨oc, od, dV, kV, doc, pm, an, cdv, ct, osl, rfl, lk, hcg, _, _⟩ := F.ex
  refine wpAny_Call_Name_kw (ld_glob I hg hm ?_ hdb)
  refine PySem.W.callWith_K (h₀ := X.base) I.ok.mod.kin F.kp ?_ (by rfl) (by rfl)
  show wpAny _ _ (spliced ((false, eval (.Lambda params body scope lpos) X.env) :: backTo pos (starEach [] X.env))) _ _ s
  refine Calls.spliced_cons (lam_made I TB hcode hq.symm (hT σ H t) rfl hdef (L.has I.ok) fun f c' pm' ctv H1 s' I1 e1 hf hfn hfr hco => ?_)
  refine Calls.spliced_nil ⟨I1.kIn, ?_⟩
  have t1 := t.up e1
  have rc : codeAny (model X.prog X.w) X.A (.call (.ref g) ⟨[.ref f], []⟩) (CR C8.CX0 X.stack X.prog X.w H1 s' Q C8.E0) s' := by
    refine run_ofS (N := NWhy) (ps := ["_law_ask"]) (us := [.ref f]) (vs := [.ref f]) lk hcg Sg hr I1.env0 (hb s' [.ref f] I1.kIn rfl) (.cons rfl .nil) rfl fun hr' => ?_
    rw [← hq] at hf hco
    have hz : TTwhy C fld tag (fun E H' Q' => ∀ (A : Around) (outer : List Env) (s : Shared) (H0 : Hp) (f' c'' : Addr), Room kl (A.deeper (lamEnv X scope s.heap.objs.size f' c'')) → tE (lamCx X A outer s H0 E scope f' c'') body σ H' Q') H1 Q := by
      intro A outer s2 H0 f' c'' hr2
      refine hB A outer s2 H0 _ f' c'' H1 (fun cls d _ H => whyE C fld tag Q cls d H) hr2 (takes_of rfl rfl rfl rfl) (fun σ' dd y H' e2 hh hy => ⟨rfl, dd, y, rfl, hh, fun H'' p e3 hp => ?_⟩) σ t1 _ fun v H' e2 hv => ⟨by show 2 ≤ sizeLine; decide, fun p hp => ?_⟩
      · exact q _ _ ((e1.trans (e2.trans e3)).trans (Ex.new hp)) (hR2 _ _ ⟨p, _, rfl, .inl upd_same, rfl, Tf.up (e3.trans (Ex.new hp)) hy, trivial⟩)
      · exact q _ _ ((e1.trans e2).trans (Ex.new hp)) (hR1 _ _ ⟨p, _, rfl, .inl upd_same, rfl, T.up (Ex.new hp) hv, trivial⟩)
    obtain ⟨t', ht', hq'⟩ := hG cdv f c' s' H1 Q (fun E H' Q' => ∀ (A : Around) (outer : List Env) (s : Shared) (H0 : Hp) (f' c'' : Addr), Room kl (A.deeper (lamEnv X scope s.heap.objs.size f' c'')) → tE (lamCx X A outer s H0 E scope f' c'') body σ H' Q')
      (fun W pn xe E p1 p2 tk hW => by
        rw [← hq]
        exact pe_act (tb := fun σ2 H2 Q2 => ∀ (A : Around) (outer : List Env) (s : Shared) (H0 : Hp) (f' c'' : Addr), Room kl (A.deeper (lamEnv X scope s.heap.objs.size f' c'')) → tE (lamCx X A outer s H0 E scope f' c'') body σ2 H2 Q2) (i := 0) I1 L hf hfn hfr (hbind _ _ _ _ _) tk hW hr' (fun A outer s H0 hr2 => ⟨fun pins s2 σ2 H2 Q2 I2 h2 => (h2 A outer s H0 f c' hr2).run pins s2 I2⟩) rfl hva)
      (hq ▸ hco) hz
    exact ⟨t', ht'.nox, hq'⟩
  refine wpAny_call (codeAny_mono rc fun r s2 hq => ?_)
  cases r with
  | error e => exact (show False from hq).elim
  | ok fl =>
    cases fl with
    | ret u => exact I1.after hq
    | next => exact False.elim hq
    | brk => exact False.elim hq
    | cont => exact False.elim hq⟩
/-- from readings in the lambda's context, a slot telling what the heap has grown from -/
theorem lamB_of (j : Nat) (U : Ty) (hj : Γ[j]? = some (some U)) (h : ∀ (A : Around) (outer : List Env) (s : Shared) (H0 : Hp) (E : XK) (f c' : Addr) (H1 : Hp) (W : WX), Room kl (A.deeper (lamEnv X scope s.heap.objs.size f c')) → Takes (lamCx X A outer s H0 E scope f c') W →
    (∀ σ dd y H', Ex H1 H' → Held H' dd fld tag y → Tf y H' → W (.ref C) (some dd) σ H') → G (lamCx X A outer s H0 E scope f c') (Γ.set j (some (bothT U (sinceT H1)))) body T) : LamB X scope kl Γ body C fld tag T Tf :=
  fun A outer s H0 E f c' H1 W hr tk hw σ t Q q => by
    obtain ⟨v, hv, hu⟩ := t.get j hj
    have e : Typed σ (Γ.set j (some (bothT U (sinceT H1)))) H1 := ⟨by simpa using t.1, fun i V g => by
      by_cases c : i = j
      · subst c
        rw [List.getElem?_set_self (List.getElem?_eq_some_iff.mp hj).1] at g
        cases g
        exact ⟨v, hv, hu, Ex.refl _⟩
      · rw [List.getElem?_set_ne (Ne.symm c)] at g
        exact t.2 i V g⟩
    exact h A outer s H0 E f c' H1 W hr tk hw σ H1 e Q q
end
end RL

set_option Elab.async false
set_option linter.all false
set_option maxRecDepth 100000
set_option maxHeartbeats 2000000
/-! RLstat: defs that give a value or raise; static methods -/
namespace RL
open PySem PySem.Spec PyProof.Rows L2
/-- how a def ends: by a value, or by an own exception with one field -/
inductive Out where
  | ret (T : Ty)
  | exc (C : Addr) (fld tag : Str) (Tf : Ty)
def Out.is (o : Out) (H : Hp) (Q : VK) (E : XK) : Prop := match o with
  | .ret T => ∀ v H', Ex H H' → T v H' → Q v H'
  | .exc C fld tag Tf => ∀ dd y H', Ex H H' → Held H' dd fld tag y → Tf y H' → E (.ref C) (some dd) H'
def spO {α : Type} (A : α → List Ty) (R : α → Out) : Sp := fun vs H Q E => ∃ a, All2 (A a) vs H ∧ (R a).is H Q E
/-- what the class must have for C.m, m a static method, the def at f -/
structure StM (K : PySem.W.Frag) (C : Addr) (m : Str) (f : Addr) : Prop where
  rd : PySem.W.readsIn K C (.type "type") = true
  ga : PySem.W.specialIn K (.ref C) "__getattribute__" = some (some (.builtin "type.__getattribute__"))
  at_ : ∃ p rest, PySem.W.findCls K (.ref C) (.type "type") m = some (.get (.builtin "staticmethod.__get__") (.ref p) .none (.ref C)) ∧ PySem.W.recIn K p "staticmethod" = some (.ref f :: rest)
  kp : PySem.W.keepIn K (.ref f) = true
structure StG (P : Program) (w : World) (K : PySem.W.Frag) (mg : Str → Option Value) (base : Heap) (k : Nat) (C : Addr) (m : Str) (ps : List Str) (sp : Sp) : Prop where
  ex : ∃ f fd, FnOk P w K mg base (L2.CX P w) k f fd ps sp ∧ StM K C m f ∧ Binds K fd ps []
section
variable {X : Cx} {Γ : Ctx} {e o a b c : Expr} {es : List Expr} {T U Tf : Ty} {Ts : List Ty} {pos p p1 apos : Pos} {x m fld tag : Str} {C C' : Addr} {k : Nat} {ps : List Str} {W : WX}
theorem e_stat {pl : Sem Bool} {sp : Sp} {σ : L2.St} {H : Hp} {Q : VK} {E : XK} (F : StG X.prog X.w X.K X.mg X.base k C m ps sp) (hr : Room k X.A) (hx : Passes (L2.CX X.prog X.w) X E) (hg : Gl X x) (hm : X.mg x = some (.ref C))
    (ht : eval (.Call (.Attribute (.Name x p1) m apos) (e :: es) [] pos) X.env = (do
      let ov ← eval (.Name x p1) X.env
      standAt apos.atName
      let (f, first) ← holding [ov] (getMethod ov m pl)
      callWith pos f first (backTo pos (starEach (e :: es) X.env)) (backToKw pos (keywordEach [] X.env))))
    (hst : starEach (e :: es) X.env = (false, eval e X.env) :: starEach es X.env) (hpl : (backTo pos (starEach es X.env)).any (·.1) = false) (hdb : (x == ("__debug__" : Str)) = false)
    (h : tA X (e :: es) σ H fun vs H2 => sp vs H2 Q E) : tE X (.Call (.Attribute (.Name x p1) m apos) (e :: es) [] pos) σ H Q := by
  obtain ⟨f, fd, F, S, hb⟩ := F.ex
  obtain ⟨q, rest, h1, h2⟩ := S.at_
  refine ⟨fun pins s I => ?_⟩
  refine PySem.W.methodCall_KW (pl := pl) (ld_glob I hg hm ?_ hdb) ht
  refine PySem.W.method_cls I.kIn S.ga (PySem.W.cls_bind I.kIn S.rd h1 (wpAny_call (PySem.W.sm_get (I.tok _).kIn h2 (PySem.W.handed_on rfl ?_))))
  refine PySem.W.callWith_K (first := []) (h₀ := X.base) I.ok.mod.kin S.kp (thn (h.run pos pins _ (I.tok _)) fun us s1 ⟨vs, H1, I1, r1, q1⟩ => ⟨I1.kIn, ?_⟩) hst hpl
  refine run_fn F hr hb .nil hx I1 r1 ?_
  rw [List.append_nil]
  exact q1
theorem passX {X : Cx} : Passes (L2.CX X.prog X.w) X (fun _ _ _ => False) := fun _ _ _ _ _ _ _ h => by
  obtain ⟨_, _, _, _, _, _, _, _, _, _, _, _, z⟩ := h
  exact z.elim
theorem g_statR {pl : Sem Bool} {α : Type} {A : α → List Ty} {R : α → Out} (F : StG X.prog X.w X.K X.mg X.base k C m ps (spO A R)) (hr : Room k X.A) (i : α) (hR : R i = .ret T) (hm : X.mg x = some (.ref C)) (ha : GA X Γ (e :: es) Ts) (hT : ∀ vs H, All2 Ts vs H → All2 (A i) vs H := by exact fun _ _ h => h) (hg : Gl X x := by rfl)
    (ht : eval (.Call (.Attribute (.Name x p1) m apos) (e :: es) [] pos) X.env = (do
      let ov ← eval (.Name x p1) X.env
      standAt apos.atName
      let (f, first) ← holding [ov] (getMethod ov m pl)
      callWith pos f first (backTo pos (starEach (e :: es) X.env)) (backToKw pos (keywordEach [] X.env))) := by rfl)
    (hst : starEach (e :: es) X.env = (false, eval e X.env) :: starEach es X.env := by first | exact se_cons rfl | rfl) (hpl : (backTo pos (starEach es X.env)).any (·.1) = false := by first | exact se_any rfl | rfl) (hdb : (x == ("__debug__" : Str)) = false := by decide) : G X Γ (.Call (.Attribute (.Name x p1) m apos) (e :: es) [] pos) T := fun σ H t Q q =>
  e_stat F hr passX hg hm ht hst hpl hdb (ha σ H t _ fun vs H1 e1 h1 => ⟨i, hT _ _ h1, by
    rw [hR]
    exact fun v H' e2 hv => q v H' (e1.trans e2) hv⟩)
theorem g_statX {pl : Sem Bool} {α : Type} {A : α → List Ty} {R : α → Out} (F : StG X.prog X.w X.K X.mg X.base k C m ps (spO A R)) (hr : Room k X.A) (i : α) (hR : R i = .exc C' fld tag Tf) (tk : Takes X W) (hw : ∀ σ H, Typed σ Γ H → ∀ σ' dd y H', Ex H H' → Held H' dd fld tag y → Tf y H' → W (.ref C') (some dd) σ' H') (hm : X.mg x = some (.ref C)) (ha : GA X Γ (e :: es) Ts) (hT : ∀ vs H, All2 Ts vs H → All2 (A i) vs H := by exact fun _ _ h => h) (hg : Gl X x := by rfl)
    (ht : eval (.Call (.Attribute (.Name x p1) m apos) (e :: es) [] pos) X.env = (do
      let ov ← eval (.Name x p1) X.env
      standAt apos.atName
      let (f, first) ← holding [ov] (getMethod ov m pl)
      callWith pos f first (backTo pos (starEach (e :: es) X.env)) (backToKw pos (keywordEach [] X.env))) := by rfl)
    (hst : starEach (e :: es) X.env = (false, eval e X.env) :: starEach es X.env := by first | exact se_cons rfl | rfl) (hpl : (backTo pos (starEach es X.env)).any (·.1) = false := by first | exact se_any rfl | rfl) (hdb : (x == ("__debug__" : Str)) = false := by decide) : G X Γ (.Call (.Attribute (.Name x p1) m apos) (e :: es) [] pos) falseT := fun σ H t Q q =>
  e_stat (E := fun cls d H' => ∀ σ', W cls d σ' H') F hr (passes_call tk fun cls d σ' H' h => h σ') hg hm ht hst hpl hdb (ha σ H t _ fun vs H1 e1 h1 => ⟨i, hT _ _ h1, by
    rw [hR]
    exact fun dd y H' e2 hh hy σ' => hw σ H t σ' dd y H' (e1.trans e2) hh hy⟩)
end
end RL

set_option Elab.async false
set_option linter.all false
set_option maxRecDepth 100000
set_option maxHeartbeats 4000000
/-! RLhook: a head that tells also static methods, empty tables of code objects, dicts of texts -/
namespace RL
open PySem PySem.Spec PyProof.Rows L2
/-- a static method's def: its class, its name there, what stands in it -/
structure StD where
  cls : Str
  m : Str
  name : Str
  qual : Str
  params : Arguments
  body : List Stmt
  scope : Scope
  prop : Bool
def StD.adr (K : PySem.W.Frag) (d : StD) : Addr := He5.wf K (He.ga K d.cls) (if d.prop = true then "property" else "staticmethod") d.m
/-- the class has m as a property -/
def propB (K : PySem.W.Frag) (C : Addr) (m : Str) : Bool := decide (PySem.W.findIn K (.ref C) m = some (some (.ref (He.ma K C m)))) && (decide (PySem.W.specialIn K (.ref (He.ma K C m)) "__get__" = some (some (.builtin "property.__get__"))) && (decide (PySem.W.takesIn K (.ref (He.ma K C m)) = some true) && (match PySem.W.recIn K (He.ma K C m) "property" with
  | some (.ref _ :: _) => true
  | _ => false)))
theorem propB_ok {K : PySem.W.Frag} {C : Addr} {m : Str} (h : propB K C m = true) : PropOf K C m (He.ma K C m) (He5.wf K C "property" m) := by
  obtain ⟨h1, h⟩ := Bool.and_eq_true_iff.mp h
  obtain ⟨h2, h⟩ := Bool.and_eq_true_iff.mp h
  obtain ⟨h3, h4⟩ := Bool.and_eq_true_iff.mp h
  refine ⟨of_decide_eq_true h1, of_decide_eq_true h2, of_decide_eq_true h3, ?_⟩
  unfold He5.wf
  cases q : PySem.W.recIn K (He.ma K C m) "property" with
  | none =>
    rw [q] at h4
    cases h4
  | some l =>
    rw [q] at h4
    cases l with
    | nil => cases h4
    | cons v r =>
      cases v with
      | ref g => exact ⟨r, rfl⟩
      | _ => cases h4
def StD.kind (K : PySem.W.Frag) (d : StD) : Bool := if d.prop = true then propB K (He.ga K d.cls) d.m else He5.wrapB K (He.ga K d.cls) "staticmethod" "staticmethod.__get__" d.m && (PySem.W.readsIn K (He.ga K d.cls) (.type "type") && decide (PySem.W.specialIn K (.ref (He.ga K d.cls)) "__getattribute__" = some (some (.builtin "type.__getattribute__"))))
def fnA (K : PySem.W.Frag) (a : Addr) : He.FnW := match K.lookup a with
  | some ⟨_, _, .func fd, _⟩ => some (fd.name, fd.qualname, fd.params, fd.body, fd.scope, fd.globals, fd.closure, fd.builtins)
  | _ => none
def StD.val (d : StD) : He.FnW := some (d.name, d.qual, d.params, .stmts d.body, d.scope, mainGlobals, [], builtinsNs)
def StD.ok (K : PySem.W.Frag) (d : StD) : Bool := PySem.W.keepIn K (.ref (d.adr K)) && ((match K.lookup (d.adr K) with
  | some ⟨_, _, .func fd, _⟩ => PySem.W.codeIn K fd.code d.qual && (He.dflB K fd.defaults [] && He.kwdB K fd.kwdefaults [])
  | _ => false) && StD.kind K d)
theorem StD.fun_ {K : PySem.W.Frag} {d : StD} (e : fnA K (d.adr K) = d.val) (c : d.ok K = true) : ∃ fd, FunD K d.name d.qual d.params d.body d.scope [] [] (d.adr K) fd ∧ StD.kind K d = true := by
  obtain ⟨kp, c⟩ := Bool.and_eq_true_iff.mp c
  obtain ⟨c2, c⟩ := Bool.and_eq_true_iff.mp c
  generalize d.adr K = a at kp c2 e
  unfold fnA at e
  cases q : K.lookup a with
  | none =>
    rw [q] at c2
    cases c2
  | some o =>
    obtain ⟨oc, od, dt, osl⟩ := o
    rw [q] at c2 e
    cases dt with
    | func fd =>
      obtain ⟨n1, n2, n3, n4, n5, n6, n7, n8, n9, n10, n11, n12, n13, n14, n15⟩ := fd
      have e2 : (some (n1, n2, n3, n4, n5, n6, n7, n15) : He.FnW) = some (d.name, d.qual, d.params, .stmts d.body, d.scope, mainGlobals, [], builtinsNs) := e
      simp only [Option.some.injEq, Prod.mk.injEq] at e2
      obtain ⟨h1, h2, h3, h4, h5, h6, h7, h8⟩ := e2
      subst h1 h2 h3 h4 h5 h6 h7 h8
      obtain ⟨k1, k2⟩ := Bool.and_eq_true_iff.mp (show (PySem.W.codeIn K n13 d.qual && (He.dflB K n8 [] && He.kwdB K n9 [])) = true from c2)
      obtain ⟨k3, k4⟩ := Bool.and_eq_true_iff.mp k2
      exact ⟨_, ⟨⟨oc, od, n8, n9, n10, n11, n12, n13, n14, osl, rfl, q, k1, He.dflB_ok k3, He.kwdB_ok k4⟩, kp⟩, c⟩
    | _ => cases c2
/-- a static method -/
theorem StD.get {K : PySem.W.Frag} {d : StD} (e : fnA K (d.adr K) = d.val) (c : d.ok K = true) (hp : d.prop = false := by rfl) : ∃ fd, FunD K d.name d.qual d.params d.body d.scope [] [] (d.adr K) fd ∧ StM K (He.ga K d.cls) d.m (d.adr K) := by
  obtain ⟨fd, F, k⟩ := StD.fun_ e c
  refine ⟨fd, F, ?_⟩
  have ea : d.adr K = He5.wf K (He.ga K d.cls) "staticmethod" d.m := by
    unfold StD.adr
    rw [hp]
    rfl
  unfold StD.kind at k
  rw [hp, if_neg Bool.false_ne_true] at k
  obtain ⟨c3, k⟩ := Bool.and_eq_true_iff.mp k
  obtain ⟨c4, c5⟩ := Bool.and_eq_true_iff.mp k
  obtain ⟨w1, rest, w2⟩ := He5.wrapB_ok c3
  have kp := F.kp
  rw [ea] at kp ⊢
  exact ⟨c4, of_decide_eq_true c5, ⟨_, rest, w1, w2⟩, kp⟩
/-- a property's getter -/
theorem StD.getP {K : PySem.W.Frag} {d : StD} (e : fnA K (d.adr K) = d.val) (c : d.ok K = true) (hp : d.prop = true := by rfl) : ∃ fd, FunD K d.name d.qual d.params d.body d.scope [] [] (d.adr K) fd ∧ PropOf K (He.ga K d.cls) d.m (He.ma K (He.ga K d.cls) d.m) (d.adr K) := by
  obtain ⟨fd, F, k⟩ := StD.fun_ e c
  refine ⟨fd, F, ?_⟩
  have ea : d.adr K = He5.wf K (He.ga K d.cls) "property" d.m := by
    unfold StD.adr
    rw [hp]
    rfl
  unfold StD.kind at k
  rw [hp, if_pos rfl] at k
  rw [ea]
  exact propB_ok k
/-- the fragment: without the empty tables, with the statics -/
def frY (n : Nat) (g : Addr → Option Obj) : PySem.W.Frag := He.frT g (cStatics :: He.asD g n)
abbrev AlY : Type := He.AlX × List He.FnW
def obsY (n : Nat) (fa : List He.Fa) (fn : List He.DefD) (ts : List He.Tab) (tf : List He.Defn) (ex : PySem.W.Frag → Bool) (sd : List StD) (g : Addr → Option Obj) : AlY :=
  ((He.obsT fa fn ts (frY n g), (ex (frY n g) && sd.all fun d => d.ok (frY n g)) && He.tabsB g tf (frY n g)), sd.map fun d => fnA (frY n g) (d.adr (frY n g)))
def valY (fn : List He.DefD) (ts : List He.Tab) (sd : List StD) (w : World) : AlY := (He.valX fn ts w, sd.map StD.val)
structure SaysY (fa : List He.Fa) (fn : List He.DefD) (ts : List He.Tab) (tf : List He.Defn) (ex : PySem.W.Frag → Bool) (sd : List StD) (w : World) (h : Heap) (K : PySem.W.Frag) : Prop where
  t : He.SaysT fa fn ts w K
  more : ex K = true
  st : ∀ d ∈ sd, d.ok K = true ∧ fnA K (d.adr K) = d.val
  hd : ∀ p ∈ tf, PySem.W.codeHdIn K (He.cT K p).1 (He.cT K p).2 = true
  out : ∀ p ∈ tf, K.lookup (He.cT K p).2 = none
  empty : ∀ p ∈ tf, h.get? (He.cT K p).2 = some { cls := .none, data := .fields #[] }
theorem map_same {α β : Type} {f g : α → β} : ∀ {l : List α}, l.map f = l.map g → ∀ a ∈ l, f a = g a
  | [], _, a, h => by simp at h
  | x :: l, e, a, h => by
    rw [List.map_cons, List.map_cons] at e
    injection e with e1 e2
    rcases List.mem_cons.mp h with rfl | h
    · exact e1
    · exact map_same e2 a h
theorem saysY_of {n : Nat} {fa : List He.Fa} {fn : List He.DefD} {ts : List He.Tab} {tf : List He.Defn} {ex : PySem.W.Frag → Bool} {sd : List StD} {w : World} {h : Heap} (e : obsY n fa fn ts tf ex sd h.get? = valY fn ts sd w) : SaysY fa fn ts tf ex sd w h (frY n h.get?) := by
  have e1 : He.obsT fa fn ts (frY n h.get?) = He.valT fn ts w := congrArg (fun z : AlY => z.1.1) e
  have e2 : ((ex (frY n h.get?) && sd.all fun d => d.ok (frY n h.get?)) && He.tabsB h.get? tf (frY n h.get?)) = true := congrArg (fun z : AlY => z.1.2) e
  have e3 : (sd.map fun d => fnA (frY n h.get?) (d.adr (frY n h.get?))) = sd.map StD.val := congrArg (fun z : AlY => z.2) e
  obtain ⟨h0, h2⟩ := Bool.and_eq_true_iff.mp e2
  obtain ⟨h1, h3⟩ := Bool.and_eq_true_iff.mp h0
  have key : ∀ p ∈ tf, PySem.W.codeHdIn (frY n h.get?) (He.cT (frY n h.get?) p).1 (He.cT (frY n h.get?) p).2 = true ∧ ∃ o, h.get? (He.cT (frY n h.get?) p).2 = some o ∧ He.emptyTab o = true := fun p hp => by
    obtain ⟨a1, a2⟩ := Bool.and_eq_true_iff.mp (List.all_eq_true.mp h2 p hp)
    refine ⟨a1, ?_⟩
    split at a2
    · rename_i o q
      exact ⟨o, q, a2⟩
    · cases a2
  refine ⟨e1, h1, fun d hd => ⟨List.all_eq_true.mp h3 d hd, map_same e3 d hd⟩, fun p hp => (key p hp).1, fun p hp => ?_, fun p hp => ?_⟩
  · obtain ⟨_, o, q, z⟩ := key p hp
    exact He.frT_none q z
  · obtain ⟨_, o, q, z⟩ := key p hp
    rw [q, He.emptyTab_eq z]
def hookY (n : Nat) (fa : List He.Fa) (fn : List He.DefD) (ts : List He.Tab) (tf : List He.Defn) (ex : PySem.W.Frag → Bool) (sd : List StD) : PySem.W.Hook where
  α := AlY
  obs := fun s => obsY n fa fn ts tf ex sd s.heap.get?
  val := fun w => valY fn ts sd w
  says := fun w h => ∃ K : PySem.W.Frag, K.In h ∧ SaysY fa fn ts tf ex sd w h K
  of := fun _ _ e => ⟨_, He.frT_in, saysY_of e⟩
  keeps := fun _ _ _ ⟨K, hK, c⟩ k => ⟨K, PySem.W.Frag.In.keeps hK k, ⟨c.t, c.more, c.st, c.hd, c.out, fun p hp => k _ _ (c.empty p hp)⟩⟩
theorem obsY_eq {n : Nat} {fa : List He.Fa} {fn : List He.DefD} {ts : List He.Tab} {tf : List He.Defn} {ex : PySem.W.Frag → Bool} {sd : List StD} {g : Addr → Option Obj} {s : Shared} (h : ∀ a, g a = s.heap.get? a) : obsY n fa fn ts tf ex sd g = (hookY n fa fn ts tf ex sd).obs s := by
  have e : g = s.heap.get? := funext h
  rw [e] <;> rfl
/-- what Tx needs -/
theorem SaysY.tx {fa : List He.Fa} {fn : List He.DefD} {ts : List He.Tab} {tf : List He.Defn} {ex : PySem.W.Frag → Bool} {sd : List StD} {w : World} {h hp : Heap} {K : PySem.W.Frag} {mg : Str → Option Value} (c : SaysY fa fn ts tf ex sd w h K) (X : K.In hp) (G : hp.Ns mainGlobals mg) : Tx fa fn ex K mg :=
  ⟨⟨congrArg (fun z : He.AlT => z.1) c.t, c.more⟩, hp, X, G⟩
end RL

set_option Elab.async false
set_option linter.all false
set_option maxRecDepth 100000
set_option maxHeartbeats 2000000
/-! RLcval: C.f, f an int that stands in the class -/
namespace RL
open PySem PySem.Spec PyProof.Rows L2
def cvB (K : PySem.W.Frag) (C : Addr) (f : Str) (i : Int) : Bool := PySem.W.readsIn K C (.type "type") && (decide (PySem.W.specialIn K (.ref C) "__getattribute__" = some (some (.builtin "type.__getattribute__"))) && (match PySem.W.findCls K (.ref C) (.type "type") f with
  | some (.val (.int j _)) => decide (j = i)
  | _ => false))
theorem cvB_ok {K : PySem.W.Frag} {C : Addr} {f : Str} {i : Int} (h : cvB K C f i = true) : ClX.CRead K C (.type "type") ∧ ∃ u, ClX.CVal K C (.type "type") f (.int i) u := by
  obtain ⟨h1, h⟩ := Bool.and_eq_true_iff.mp h
  obtain ⟨h2, h3⟩ := Bool.and_eq_true_iff.mp h
  refine ⟨⟨h1, of_decide_eq_true h2⟩, ?_⟩
  split at h3
  · rename_i j t hn
    have e : j = i := of_decide_eq_true h3
    subst e
    exact ⟨_, hn, ⟨_, rfl⟩⟩
  · cases h3
/-- C's own __init__ -/
def iniB (K : PySem.W.Frag) (C : Addr) : Bool := decide (PySem.W.findIn K (.ref C) "__init__" = some (some (.ref (He.ma K C "__init__")))) && decide (PySem.W.typeIn K (.ref (He.ma K C "__init__")) = some (.type "function"))
theorem iniB_ok {K : PySem.W.Frag} {C : Addr} (h : iniB K C = true) : PySem.W.findIn K (.ref C) "__init__" = some (some (.ref (He.ma K C "__init__"))) ∧ PySem.W.typeIn K (.ref (He.ma K C "__init__")) = some (.type "function") := by
  obtain ⟨h1, h2⟩ := Bool.and_eq_true_iff.mp h
  exact ⟨of_decide_eq_true h1, of_decide_eq_true h2⟩
section
variable {X : Cx} {Γ : Ctx} {x f : Str} {C : Addr} {i : Int} {p pos : Pos}
theorem g_cval (h : cvB X.K C f i = true) (hm : X.mg x = some (.ref C)) (hg : Gl X x := by rfl) (hd : (x == ("__debug__" : Str)) = false := by decide) (hb : attributeBase (.Name x p) f X.env (eval (.Name x p) X.env) = eval (.Name x p) X.env := by rfl) : G X Γ (.Attribute (.Name x p) f pos) (intT i) := fun σ H t Q q => by
  obtain ⟨c1, u, c2⟩ := cvB_ok h
  exact toE (ClX.pe_cval (pe_glob (v := .ref C) hg hm rfl hd) hb) ⟨C, _, _, u, rfl, c1, c2, q _ H (Ex.refl H) rfl⟩
end
end RL

set_option Elab.async false
set_option linter.all false
set_option maxRecDepth 100000
set_option maxHeartbeats 4000000
/-! RLops: len by an own def; a | b of own classes (type has a reflected or) -/
namespace RL
open PySem PySem.Spec L2 PySem.W
section
variable {prog : Program} {w : World} {A : Around} {E : Value → Shared → Prop} {s : Shared} {K : Frag} {x y C D f : Addr} {ox oy : Obj} {od oe : Option Obj} {Q : Value → Shared → Prop}
theorem len_ownK (X : K.In s.heap) (I : InstAt s.heap x ox C od) (hs : findIn K (.ref C) "__len__" = some (some (.ref f))) (hf : isFn K (.ref f) = true)
    (hcall : wpAny (model prog w) A.in1 (call (.ref f) [.ref x]) (fun r s' => ∃ n u, r = .int n u ∧ 0 ≤ n ∧ n < 2 ^ 63 ∧ Q (.int n s'.toks) { s' with toks := s'.toks + 1 }) E s) :
    wpAny (model prog w) A (call (.builtin "len") [.ref x]) Q E s := by
  refine Calls.call_function_entry kind_len plain_len entry_len (args_len1 _) ?_
  unfold Builtin.«len»
  refine wpAny_bind (wpAny_pure ?_)
  refine wpAny_bind (m := callSpecial? (.ref x) (Str.ofString "__len__")) (special_fn X I hs (beq_iff_eq.mp hf) (wpAny_mono hcall (fun r s' hr => ?_) fun _ _ y => y))
  obtain ⟨n, u, rfl, h0, h1, hq⟩ := hr
  refine wpAny_bind (wpAny_holding (wpAny_pure ?_))
  refine wpAny_bind (wpAny_letGo ?_)
  show wpAny _ _ (if n < 0 then _ else _) _ _ _
  rw [if_neg (by omega)]
  show wpAny _ _ (if n ≥ 2 ^ 63 then _ else _) _ _ _
  rw [if_neg (by omega)]
  exact wpAny_bind (wpAny_mkInt (wpAny_pure ⟨_, rfl, hq⟩))
end
section
variable {X : Cx} {Cs : Addr → Prop} {k : Nat} {ps : List Str} {sp : Sp}
theorem call_lenO (F : MtG X.prog X.w X.K X.mg X.base k Cs "__len__" ps sp) (hr : Room (k + 1) X.A) :
    CallR X (.builtin "len") (fun xs H Q => ∃ x, xs = [x] ∧ InsAny Cs x H ∧ sp [x] H (fun v H' => ∃ n : Int, v = .int n ∧ 0 ≤ n ∧ n < 2 ^ 63 ∧ Q (.int n) H') E0) := by
  intro pins s σ H xs us Q I r h
  obtain ⟨x, rfl, ⟨a, C, dx, fs, ex, ha, hC⟩, q⟩ := h
  subst ex
  obtain ⟨u, rfl, ru⟩ := vals1 r
  obtain rfl : u = Value.ref a := ru
  obtain ⟨ox, od, J⟩ := inst_of I ha
  obtain ⟨f, fd, F1, _, M, B⟩ := F.ex C hC
  refine len_ownK I.kIn J M.at_ M.fn (wpAny_mono (run_fn1 (us := [.ref a]) (vs := [.ref a]) F1 hr B I (.cons rfl .nil) q) (fun v s' ⟨v', H', I', r', n, e, h0, h1, q'⟩ => ?_) fun _ _ z => z)
  subst e
  obtain ⟨t, rfl⟩ := r'
  exact ⟨n, t, rfl, h0, h1, .int n, H', I'.tok _, ⟨_, rfl⟩, q'⟩
end
/-! ### type's reflected or, bound to a class -/
abbrev rorO (C : Addr) : Obj := { cls := .type "method-wrapper", dict := none, data := .fields #[.builtin "type.__ror__", .ref C], slots := #[] }
theorem type_ror : typeOf (.builtin "type.__ror__") = pure (.type "wrapper_descriptor") := by show builtinType _ = _; rw [builtinType_eq_fast]; kernel_rfl
theorem wd_noset : typeLookup (.type "wrapper_descriptor") "__set__" = pure none := by rw [typeLookup_type, builtinLookup_eq_fast]; kernel_rfl
theorem wd_nodel : typeLookup (.type "wrapper_descriptor") "__delete__" = pure none := by rw [typeLookup_type, builtinLookup_eq_fast]; kernel_rfl
theorem nac_ror : (kfb_private% "nameAndClass") (Value.builtin "type.__ror__") = (pure (("__ror__" : Str), Value.type "type") : Sem (Str × Value)) := by kernel_rfl
theorem slot_mwne : Slot "method-wrapper" "__ne__" "method-wrapper.__ne__" :=
  .of (owner := "method-wrapper") (n := "__ne__") (by rw [typeLookup_type, builtinLookup_eq_fast]; kernel_rfl) (by decide +kernel) (by decide +kernel) (by decide +kernel)
    (by first | exact .inl (by decide +kernel) | exact .inr (by decide +kernel)) (by rw [isSubtype_type]; kernel_rfl)
theorem entry_mwne : entryFor table "method-wrapper.__ne__" = some Builtin.«method_wrapper.__ne__» := entryFor_alias (id' := "method_wrapper.__ne__") (by rw [fastTable_eq_tree]; kernel_rfl) (by kernel_rfl) (by kernel_rfl) (by rw [fastTable_eq_tree]; kernel_rfl)
theorem args_mwne (a b : Value) : argsOk "method-wrapper.__ne__" ⟨[a, b], []⟩ := by unfold argsOk; kernel_rfl
theorem sub_mw : isSubtype (.type "method-wrapper") (.type "method-wrapper") = pure true := by rw [isSubtype_type]; kernel_rfl

/-- what a class must have that type's reflected or is found on it -/
structure Rors (K : Frag) (D : Addr) : Prop where
  any : nsIn K cStatics "thirdparty.any" = some none
  ty : typeIn K (.ref D) = some (.type "type")
  ga : findIn K (.type "type") "__getattribute__" = some (some (.builtin "type.__getattribute__"))
  sub : subIn K (.type "type") (.type "type") = some true
  meta' : findIn K (.type "type") "__ror__" = some (some (.builtin "type.__ror__"))
  own : findIn K (.ref D) "__ror__" = some none
  cls : ∃ o, K.lookup D = some o ∧ o.cls = .type "type"
section
variable {prog : Program} {w : World} {A : Around} {E : Value → Shared → Prop} {s : Shared} {K : Frag} {x y C D f : Addr}
theorem run_wdr {M : Model} {P : Fin → Shared → Prop} (hin : Looks M s.heap (isInstance (.ref D) (.type "type")) true) (hq : P (.done (.ret (.ref s.heap.objs.size))) { s with heap := s.heap.push (rorO D) }) :
    wpAny M A (Builtin.«wrapper_descriptor.__get__» ⟨[.builtin "type.__ror__", .ref D, .type "type"], []⟩) P E s := by
  unfold Builtin.«wrapper_descriptor.__get__»
  refine wpAny_bind (wpAny_of_eq (a := (.builtin "type.__ror__", some (.ref D), some (.type "type"))) (by first | rfl | kernel_rfl) ?_)
  show wpAny M A ((kfb_private% "checkInstance") (.builtin "type.__ror__") (.ref D) >>= fun _ => newFields "method-wrapper" [.builtin "type.__ror__", .ref D] >>= fun r => ret r) P E _
  refine wpAny_bind ?_
  show wpAny M A ((kfb_private% "nameAndClass") (.builtin "type.__ror__") >>= _) _ E _
  refine wpAny_bind (wpAny_of_eq nac_ror ?_)
  show wpAny M A (isInstance (.ref D) (.type "type") >>= _) _ E _
  refine wpAny_bind (hin.here ?_)
  refine KFB.if_not rfl ?_
  refine wpAny_pure ?_
  exact wpAny_bind (wpAny_newObj_type (wpAny_pure hq))
theorem get_ror {tk : Tok} {Q : Option Value → Shared → Prop} (X : K.In s.heap) (l : Rors K D) (h : Q (some (.ref s.heap.objs.size)) { s with heap := s.heap.push (rorO D) }) :
    wpAny (model prog w) A (getAttrBy? (.ref D) (.str "__ror__" tk)) Q E s := by
  obtain ⟨hh, g0, d0, t0, os0⟩ := s
  have L1 : Looks (model prog w) hh (typeOf (.ref D)) (.type "type") := looks_typeIn X l.ty
  have L2 : Looks (model prog w) hh (typeLookup (.type "type") "__getattribute__") (some (.builtin "type.__getattribute__")) := looks_findIn X l.ga
  have L3 : Looks (model prog w) hh (opaqueClassAbove (.ref D)) none := looks_opaque X l.any
  have L4 : Looks (model prog w) hh (typeLookup (.type "type") "__ror__") (some (.builtin "type.__ror__")) := looks_findIn X l.meta'
  have L5 : Looks (model prog w) hh (typeLookup (.ref D) "__ror__") none := looks_findIn X l.own
  have L6 : Looks (model prog w) hh (isInstance (.ref D) (.type "type")) true := L1.andThen (looks_subIn X l.sub)
  have ne : (Value.builtin "type.__getattribute__" == Value.builtin "object.__getattribute__") = false := by decide +kernel
  unfold getAttrBy? getAttrBy
  refine wpAny_bind (wpAny_attempt (wpAny_holding (wpAny_bind (L1.at (wpAny_bind (L2.at ?_))))))
  dsimp only
  rw [ne, Bool.and_false, if_neg Bool.false_ne_true]
  unfold getAttrByItsOwn
  refine wpAny_bind (m := hookBefore (.type "type")) (wpAny_pure (wpAny_bind (wpAny_attempt (wpAny_holding ?_))))
  unfold callGetattribute
  rw [Bool.false_and, if_neg Bool.false_ne_true]
  unfold boundAndCalled
  rw [KF.slot_tga.bind]
  refine wpAny_bind (wpAny_pure ?_)
  show wpAny _ _ (call (.builtin "type.__getattribute__") [.ref D, .str "__ror__" tk]) _ _ _
  refine wpAny_call (codeAny_call_builtin KF.slot_tga.plain KF.entry_tga ?_)
  refine @check_slot (model prog w) _ _ ⟨hh, g0, d0, t0, os0⟩ "type.__getattribute__" "type" "__getattribute__" (.ref D) [.str "__ror__" tk] [] _ (by decide +kernel) (by decide +kernel) L6 (KF.args_tga (.ref D) (.str "__ror__" tk)) ?_
  unfold Builtin.«type.__getattribute__»
  refine wpAny_bind (wpAny_pure (wpAny_bind (L3.at (wpAny_bind (L1.at (wpAny_bind (L4.at ?_)))))))
  have S1 : ∀ n : Str, specialOf (.builtin "type.__ror__") n = typeLookup (.type "wrapper_descriptor") n := fun n => by
    unfold specialOf
    rw [type_ror]
    rfl
  have step : ∀ {α : Type} {v : α} {m : Sem α} (e : m = pure v) {β : Type} {k : α → Sem β} {A : Around} {E : Value → Shared → Prop} {Q : β → Shared → Prop} {s : Shared}, wpAny (model prog w) A (k v) Q E s → wpAny (model prog w) A (m >>= k) Q E s := by
    intro α v m e β k A E Q s hk
    subst e
    exact wpAny_bind (wpAny_pure hk)
  dsimp only
  refine step ((S1 _).trans ESX.slot_wd.lookup) ?_
  dsimp only
  refine step ((S1 _).trans wd_noset) ?_
  simp only [Option.isSome_none, Bool.false_eq_true, if_false]
  refine step ((S1 _).trans wd_nodel) ?_
  simp only [Option.isSome_none, Bool.false_eq_true, if_false]
  refine wpAny_bind (wpAny_pure ?_)
  simp only [Bool.false_eq_true, if_false]
  refine wpAny_bind (L5.at ?_)
  dsimp only
  have hTi : ∀ s : Shared, Shared.TypeIs s (.builtin "type.__ror__") "wrapper_descriptor" := fun _ => type_ror
  refine wpAny_bind (wpAny_holding (wpAny_call_entry ESX.slot_wd (hTi _) ESX.entry_wd (run_wdr (s := ⟨hh, g0, d0, t0, os0⟩) L6 ⟨_, rfl, ?_⟩) (ESX.args_wd _ _ _)))
  refine wpAny_pure ?_
  dsimp only
  exact wpAny_pure (wpAny_pure h)
theorem get_pushed (h : Heap) (C : Addr) : (h.push (rorO C)).get? h.objs.size = some (rorO C) := Heap.get?_push_size _ rfl
theorem same_ror {M : Model} {p q : Addr} {op oq : Obj} {Q : Bool → Shared → Prop} (hne : p ≠ q) (hp : s.heap.get? p = some op) (hq : s.heap.get? q = some oq) (hc : op.cls ≠ .type "tuple") (h : Q false s) : wpAny M A (isSame (.ref p) (.ref q)) Q E s := by
  have hb : (p == q) = false := by simpa using hne
  unfold isSame
  dsimp only
  rw [hb, if_neg Bool.false_ne_true]
  refine wpAny_bind (wpAny_load hp (wpAny_bind (wpAny_load hq ?_)))
  split
  · rename_i e _ _ _
    exact absurd e hc
  · exact wpAny_pure h
theorem ne_ror {p q : Addr} {Q : Value → Shared → Prop} (hu : A.units + 1 < cLine) (hCD : D ≠ C) (hp : s.heap.get? p = some (rorO C)) (hq : s.heap.get? q = some (rorO D)) (hC : ∃ o, s.heap.get? C = some o ∧ o.cls = .type "type") (hD : ∃ o, s.heap.get? D = some o) (h : Q (.bool true) s) : wpAny (model prog w) A (richCompare .NotEq (.ref p) (.ref q)) Q E s := by
  have tp : ∀ (a C : Addr), s.heap.get? a = some (rorO C) → Shared.TypeIs s (.ref a) "method-wrapper" := fun a C h => ⟨_, h, rfl⟩
  unfold richCompare
  simp only [oneThing_ref]
  refine wpAny_holding (wpAny_bind (wpAny_cRoomFor (Nat.lt_of_succ_lt hu) ?_))
  refine wpAny_bind (wpAny_typeOf_ref hp (wpAny_bind (wpAny_typeOf_ref hq ?_)))
  have e0 : ((rorO C).cls != (rorO D).cls) = false := by simp
  rw [e0, if_neg Bool.false_ne_true]
  refine wpAny_bind (wpAny_pure ?_)
  simp only [Bool.false_eq_true, if_false]
  have body : wpAny (model prog w) A (call (.builtin "method-wrapper.__ne__") [.ref p, .ref q]) (fun v s' => v = .bool true ∧ s' = s) E s := by
    refine wpAny_call_entry slot_mwne (tp p C hp) entry_mwne ?_ (args_mwne _ _)
    have dt : ∀ C : Addr, (rorO C).data = .fields #[.builtin "type.__ror__", .ref C] := fun _ => rfl
    have f0 : ∀ C : Addr, (#[.builtin "type.__ror__", .ref C] : Array Value)[0]? = some (.builtin "type.__ror__") := fun _ => rfl
    have f1 : ∀ C : Addr, (#[.builtin "type.__ror__", .ref C] : Array Value)[1]? = some (.ref C) := fun _ => rfl
    unfold Builtin.«method_wrapper.__ne__»
    refine wpAny_bind (wpAny_of_eq (a := ((Value.ref p : Value), [Value.ref q])) (by first | rfl | (simp only [Builtin.slotArgs]; rfl)) ?_)
    show wpAny _ _ (isInstance (.ref q) (.type "method-wrapper") >>= _) _ _ _
    refine wpAny_bind (wpAny_isInstance (tp q D hq) sub_mw ?_)
    simp only [Bool.not_true, Bool.false_eq_true, if_false]
    unfold Builtin.Method_wrapper.mwParts
    refine wpAny_bind (wpAny_bind (wpAny_field hp (dt C) (f0 C) ?_))
    dsimp only
    refine wpAny_bind (wpAny_field hp (dt C) (f1 C) (wpAny_pure ?_))
    refine wpAny_bind (wpAny_bind (wpAny_field hq (dt D) (f0 D) ?_))
    dsimp only
    refine wpAny_bind (wpAny_field hq (dt D) (f1 D) (wpAny_pure ?_))
    dsimp only
    obtain ⟨oC, hC, cC⟩ := hC
    obtain ⟨oD, hD⟩ := hD
    simp only [beq_self_eq_true, if_true]
    refine wpAny_bind (same_ror (Ne.symm hCD) hC hD (by rw [cC]; decide) ?_)
    exact wpAny_pure ⟨_, rfl, rfl, rfl⟩
  have cs : wpAny (model prog w) A (tryCompare (.ref p) "__ne__" (.ref q)) (fun r s' => r = some (.bool true) ∧ s' = s) E s := by
    unfold tryCompare
    refine wpAny_bind (m := callSpecialIfBound? (.ref p) "__ne__" [.ref q]) ?_
    simp only [callSpecialIfBound?, bindSpecialIfBound?]
    have e1 : specialOf (.ref p) "__ne__" = specialOf (.ref p) "__ne__" := rfl
    refine wpAny_holding (wpAny_bind (wpAny_bind (wpAny_specialOf (tp p C hp) slot_mwne.lookup ?_)))
    refine wpAny_bind (wpAny_askSetting (wpAny_ite ?_))
    rw [slot_mwne.bind]
    have fin : wpAny (model prog w) A (call (.builtin "method-wrapper.__ne__") ([.ref p] ++ [.ref q]) >>= fun v => pure (some v)) (fun r s' => wpAny (model prog w) A (match r with
        | some .notImplemented | none => pure none
        | some v => pure (some v)) (fun r s' => r = some (.bool true) ∧ s' = s) E s') E s := wpAny_bind (wpAny_mono body (fun v s' h' => by
      obtain ⟨rfl, rfl⟩ := h'
      exact wpAny_pure (wpAny_pure ⟨rfl, rfl⟩)) fun _ _ h' => h')
    split
    · exact wpAny_bind (wpAny_pure (wpAny_pure (by exact fin)))
    · exact wpAny_tryCatch (wpAny_bind (wpAny_pure (wpAny_pure (by exact fin))))
  refine wpAny_bind (m := tryCompare (.ref p) _ (.ref q)) (wpAny_mono cs (fun r s' z => ?_) fun _ _ e => e)
  obtain ⟨rfl, rfl⟩ := z
  exact wpAny_pure h
theorem diff_ror {Q : Bool → Shared → Prop} (X : K.In s.heap) (hu : A.units + 1 < cLine) (hCD : D ≠ C) (p1 : Looks (model prog w) s.heap (numberSlotInPython (.ref C) "or") true) (p2 : Looks (model prog w) s.heap (numberSlotInPython (.ref D) "or") true)
    (lC : Rors K C) (lD : Rors K D) (h : ∀ (h' : Heap) (tk : Nat), (∀ b o, s.heap.get? b = some o → h'.get? b = some o) → Q true { s with heap := h', toks := tk }) : wpAny (model prog w) A (reflectedDiffers (.ref C) (.ref D) "or") Q E s := by
  unfold reflectedDiffers
  refine wpAny_bind (p1.here ?_)
  simp only [Bool.not_true, Bool.false_eq_true, if_false]
  refine wpAny_bind (p2.here ?_)
  simp only [Bool.not_true, Bool.false_eq_true, if_false]
  refine wpAny_bind (wpAny_mkStr ?_ (by decide +kernel))
  have hr : dunderR "or" = "__ror__" := by decide +kernel
  rw [hr]
  refine wpAny_bind (get_ror (s := { s with toks := s.toks + 1 }) X lD ?_)
  dsimp only
  have k1 : ∀ b o, s.heap.get? b = some o → (s.heap.push (rorO D)).get? b = some o := fun b o hb => Heap.get?_push_of_some _ hb
  refine wpAny_holding (wpAny_bind (get_ror (s := { s with heap := s.heap.push (rorO D), toks := s.toks + 1 }) (X.keeps k1) lC ?_))
  dsimp only
  have sz : (s.heap.push (rorO D)).objs.size = s.heap.objs.size + 1 := Heap.size_push ..
  have k2 : ∀ b o, (s.heap.push (rorO D)).get? b = some o → ((s.heap.push (rorO D)).push (rorO C)).get? b = some o := fun b o hb => Heap.get?_push_of_some _ hb
  have g1 : ((s.heap.push (rorO D)).push (rorO C)).get? s.heap.objs.size = some (rorO D) := k2 _ _ (get_pushed s.heap D)
  have g2 : ((s.heap.push (rorO D)).push (rorO C)).get? (s.heap.push (rorO D)).objs.size = some (rorO C) := get_pushed _ C
  have K3 : K.In ((s.heap.push (rorO D)).push (rorO C)) := (X.keeps k1).keeps k2
  obtain ⟨oC, hoC, cC⟩ := lC.cls
  obtain ⟨oD, hoD, cD⟩ := lD.cls
  refine wpAny_holding (wpAny_bind (same_ror (s := { s with heap := (s.heap.push (rorO D)).push (rorO C), toks := s.toks + 1 }) (by rw [sz]; exact Nat.succ_ne_self _) g2 g1 (by show Value.type "method-wrapper" ≠ _; decide) ?_))
  simp only [Bool.false_eq_true, if_false]
  refine wpAny_bind (ne_ror (s := { s with heap := (s.heap.push (rorO D)).push (rorO C), toks := s.toks + 1 }) hu hCD g2 g1 ⟨oC, K3 _ _ hoC, cC⟩ ⟨oD, K3 _ _ hoD⟩ ?_)
  exact wpAny_pure (h _ _ fun b o hb => k2 _ _ (k1 _ _ hb))
end
end RL

set_option Elab.async false
set_option linter.all false
set_option maxRecDepth 100000
set_option maxHeartbeats 4000000
/-! RLor: a | b of own classes of which one may descend from the other -/
namespace RL
open PySem PySem.Spec L2 PySem.W
section
variable {prog : Program} {w : World} {A : Around} {E : Value → Shared → Prop} {s : Shared} {K : Frag} {x y C D f : Addr} {ox oy : Obj} {od oe : Option Obj} {Q : Value → Shared → Prop}
theorem try_none {a b : Value} {Q : Option Value → Shared → Prop} (hs : Looks (model prog w) s.heap (specialOf a "__ror__") none) (h : Q none s) : wpAny (model prog w) A (tryMethod a "__ror__" b) Q E s := by
  unfold tryMethod callSpecial?
  refine wpAny_bind (wpAny_bind (hs.here (wpAny_pure ?_)))
  exact wpAny_pure h
theorem binop_or (X : K.In s.heap) (hu : A.units + 1 < cLine) (I : InstAt s.heap x ox C od) (J : InstAt s.heap y oy D oe) (nC : selfFirst K C = true) (nD : selfFirst K D = true)
    (hs : findIn K (.ref C) "__or__" = some (some (.ref f))) (hf : isFn K (.ref f) = true) (rC : Rors K C) (rD : Rors K D) (hsD : ∃ g : Addr, findIn K (.ref D) "__or__" = some (some (.ref g)))
    (hsub : C ≠ D → ∃ r, subIn K (.ref D) (.ref C) = some r)
    (h : ∀ (h' : Heap) (tk : Nat), (∀ b o, s.heap.get? b = some o → h'.get? b = some o) → wpAny (model prog w) A (call (.ref f) [.ref x, .ref y]) (CmpBack Q) E { s with heap := h', toks := tk }) : wpAny (model prog w) A (binaryOp .BitOr (.ref x) (.ref y)) Q E s := by
  obtain ⟨cd, rest, hcd, hm⟩ := ksp_first nC
  obtain ⟨cd', rest', hcd', hm'⟩ := ksp_first nD
  obtain ⟨g, hsD⟩ := hsD
  have tail : ∀ (h' : Heap) (tk : Nat), (∀ b o, s.heap.get? b = some o → h'.get? b = some o) → wpAny (model prog w) A (tryMethod (.ref x) (PySem.dunder "or") (.ref y)) (fun r s' => ∃ v, r = some v ∧ Q v s') E { s with heap := h', toks := tk } := fun h' tk k =>
    ksp_try (X.keeps k) (inst_up k I) hs hf (h h' tk k)
  have L1 : Looks (model prog w) s.heap (typeOf (.ref x)) (.ref C) := I.type
  have L2 : Looks (model prog w) s.heap (typeOf (.ref y)) (.ref D) := J.type
  have L3 : Looks (model prog w) s.heap (fillsNumberSlot (.ref C) "or") true := fills_K X hcd hm hs
  have L4 : Looks (model prog w) s.heap (fillsNumberSlot (.ref D) "or") true := fills_K X hcd' hm' hsD
  have L6 : Looks (model prog w) s.heap (numberSlotInPython (.ref C) "or") true := ksp_inPy X hs rC.own (.inl rfl)
  have L7 : Looks (model prog w) s.heap (numberSlotInPython (.ref D) "or") true := ksp_inPy X hsD rD.own (.inl rfl)
  obtain ⟨hh, g0, d0, t0, os0⟩ := s
  have one : wpAny (model prog w) A (tryMethod (.ref x) (PySem.dunder "or") (.ref y)) (fun r s' => ∃ v, r = some v ∧ Q v s') E ⟨hh, g0, d0, t0, os0⟩ := tail hh t0 fun _ _ z => z
  have hi : Operator.BitOr.info = ("|", "or") := rfl
  simp only [binaryOp, hi]
  refine wpAny_holding (wpAny_bind ?_)
  unfold binaryOp1
  refine wpAny_bind (L1.at (wpAny_bind (L2.at (wpAny_bind (L3.at ?_)))))
  by_cases e : C = D
  · subst e
    simp only [beq_self_eq_true, if_true]
    ksp_lk
    refine wpAny_mono one (fun r s' hr' => ?_) fun _ _ e => e
    obtain ⟨v, rfl, hq⟩ := hr'
    ksp_lk
    exact hq
  · have hne : (Value.ref C == Value.ref D) = false := Bool.eq_false_iff.mpr fun q => e (by cases beq_iff_eq.mp q; rfl)
    obtain ⟨r, hr2⟩ := hsub e
    have L5 : Looks (model prog w) hh (isSubtype (.ref D) (.ref C)) r := looks_subIn X hr2
    simp only [hne, Bool.false_eq_true, if_false]
    cases r with
    | false =>
      ksp_lk
      refine wpAny_mono one (fun r s' hr' => ?_) fun _ _ e => e
      obtain ⟨v, rfl, hq⟩ := hr'
      ksp_lk
      exact hq
    | true =>
      refine wpAny_bind (L4.at ?_)
      simp only [Bool.and_self, if_true]
      refine wpAny_bind (L5.at ?_)
      simp only [if_true]
      refine wpAny_bind (diff_ror (s := ⟨hh, g0, d0, t0, os0⟩) X hu (Ne.symm e) L6 L7 rC rD fun h' tk k => ?_)
      have two : wpAny (model prog w) A (tryMethod (.ref x) (PySem.dunder "or") (.ref y)) (fun r s' => ∃ v, r = some v ∧ Q v s') E ⟨h', g0, d0, tk, os0⟩ := tail h' tk k
      have hsp : Looks (model prog w) h' (specialOf (.ref y) "__ror__") none := (inst_up k J).type.andThen (looks_findIn (X.keeps k) rD.own)
      have hr0 : dunderR "or" = "__ror__" := by decide +kernel
      simp only [hr0, Bool.false_eq_true, if_false, Bool.not_true, Bool.and_false, if_true]
      refine wpAny_bind (m := tryMethod (.ref y) "__ror__" (.ref x)) ?_
      refine try_none (s := ⟨h', g0, d0, tk, os0⟩) hsp ?_
      dsimp only
      refine wpAny_bind (wpAny_pure ?_)
      simp only [Bool.false_eq_true, if_false]
      refine wpAny_bind (wpAny_mono two (fun r s' hr' => ?_) fun _ _ e => e)
      obtain ⟨v, rfl, hq⟩ := hr'
      exact wpAny_pure (wpAny_pure hq)
end
section
variable {X : Cx} {Cs : Addr → Prop} {k : Nat} {m : Str} {ps : List Str} {sp : Sp}
/-- x | y by the text's own def -/
theorem op_ownOr (Fa : Fam X.K Cs) (F : MtG X.prog X.w X.K X.mg X.base k Cs "__or__" ps sp) (hr : Room k X.A) (hl : ∀ D, Cs D → Rors X.K D) :
    OpR X (binaryOp .BitOr) (fun x y H Q => InsAny Cs x H ∧ InsAny Cs y H ∧ sp [x, y] H Q E0) := by
  intro pins s σ H x y v u Q I rx ry h
  obtain ⟨⟨a, C, dx, fs, ex, ha, hC⟩, ⟨b, D, dy, gs, ey, hb, hD⟩, q⟩ := h
  subst ex; subst ey; cases rx; cases ry
  obtain ⟨ox, od, J⟩ := inst_of I ha
  obtain ⟨oy, oe, J2⟩ := inst_of I hb
  obtain ⟨f, fd, F1, _, M, B⟩ := F.ex C hC
  obtain ⟨g, _, _, _, M2, _⟩ := F.ex D hD
  have hu : X.A.units + 1 < cLine := hu_of hr
  refine binop_or I.kIn hu J J2 (Fa.first C hC) (Fa.first D hD) M.at_ M.fn (hl C hC) (hl D hD) ⟨g, M2.at_⟩ (fun ne => Fa.sub C D hC hD ne) fun h' tk kp => ?_
  have I' : Inv X pins σ H { s with heap := h', toks := tk } := I.un (Un.kept kp) (I.hok.kept kp)
  exact wpAny_mono (run_fn (us := [.ref a, .ref b]) (vs := [.ref a, .ref b]) F1 hr B .nil pass0 I' (.cons rfl (.cons rfl .nil)) q) (fun _ _ z => back_of z) fun _ _ z => z
end
open PySem.W in
def rorsB (K : Frag) (D : Addr) : Bool := He.eqO (nsIn K cStatics "thirdparty.any") (some none) && decide (typeIn K (.ref D) = some (.type "type")) && He.eqO (findIn K (.type "type") "__getattribute__") (some (some (.builtin "type.__getattribute__"))) &&
  decide (subIn K (.type "type") (.type "type") = some true) && He.eqO (findIn K (.type "type") "__ror__") (some (some (.builtin "type.__ror__"))) && He.eqO (findIn K (.ref D) "__ror__") (some none) &&
  (match K.lookup D with
    | some o => decide (o.cls = .type "type")
    | none => false)
theorem rors_of {K : Frag} {D : Addr} (h : rorsB K D = true) : Rors K D := by
  unfold rorsB at h
  simp only [Bool.and_eq_true, decide_eq_true_eq] at h
  obtain ⟨⟨⟨⟨⟨⟨h1, h2⟩, h3⟩, h4⟩, h5⟩, h6⟩, h7⟩ := h
  refine ⟨He.eqO_ok h1, h2, He.eqO_ok h3, h4, He.eqO_ok h5, He.eqO_ok h6, ?_⟩
  split at h7
  · rename_i o e
    exact ⟨o, e, of_decide_eq_true h7⟩
  · cases h7
end RL

set_option Elab.async false
set_option linter.all false
set_option maxRecDepth 100000
set_option maxHeartbeats 2000000
/-! RLexc0: own exceptions without a field: raise C() -/
namespace RL
open PySem PySem.Spec PyProof.Rows L2
/-- what `__init__(self)` promises: the tag is told -/
def spInit0 (C : Addr) (tag : Str) : Sp := fun vs H Q _ => ∃ a, vs = [.ref a] ∧ H a = some (exo a C none) ∧ ∀ d, H d = none → d ≠ a → Q .non (upd (upd H d (exd d [("tag", .str tag)])) a (exo a C (some d)))
/-- the object of an exception that is just made, with the empty tuple of its arguments -/
def tMk0 (C : Addr) (sp : Sp) : L2.St → Hp → XK → Prop := fun _ H Q => ∀ a, H a = none → sp [.ref a] (upd H a (exo a C none)) (fun v H2 => v = .non ∧ ∃ (d : Addr) (fs : List (Str × V)), H2 a = some (exo a C (some d)) ∧ H2 d = some (exd d fs) ∧ H d = none ∧ Q (.ref C) (some d) (upd (del H2 a) d (.xd fs))) fun _ _ _ => False
section
variable {X : Cx} {Γ : Ctx} {pos pos2 p : Pos} {x tag : Str} {B : Bs} {D : Ends} {rest : List Stmt} {C fI : Addr} {k : Nat} {fd : FuncData} {W : WX} {sp : Sp} {ps : List Str}
theorem pmk0 (O : OexC X.K C) (iC : PySem.W.findIn X.K (.ref C) "__init__" = some (some (.ref fI))) (tI : PySem.W.typeIn X.K (.ref fI) = some (.type "function")) (F1 : FnOk X.prog X.w X.K X.mg X.base CX0 k fI fd ps sp) (hr : Room (k + 1) X.A) (hb : Binds X.K fd ps []) (hg : Gl X x) (hm : X.mg x = some (.ref C)) (hdb : (x == ("__debug__" : Str)) = false := by decide) :
    PMk X (.Call (.Name x p) [] [] pos) (tMk0 C sp) := fun pins s σ H Q I h => by
  obtain ⟨nm, q, N, bs, bm, sn, sub, ab, col, dd, k0, k1, k2, k3, k5, hC, hbm⟩ := O.cls
  refine wpAny_Call_Name_kw (ld_glob I hg hm (PySem.W.callWith_K0 I.kIn O.kC ?_) hdb)
  -- the heap with the tuple and the new object
  obtain ⟨w1, g, dr, tk, os⟩ := s
  have big : w1.objs.size ≤ w1.objs.size + 1 := Nat.le_succ _
  have none1 : H (w1.objs.size + 1) = none := I.hok.fresh big
  have q1 := h (w1.objs.size + 1) none1
  have old : ∀ b o, w1.get? b = some o → ((w1.push (PySem.W.kdv_tup [])).push (PySem.HandSPX.excO C w1.objs.size)).get? b = some o := fun _ _ e => Heap.get?_push_of_some _ (Heap.get?_push_of_some _ e)
  have at1 : ((w1.push (PySem.W.kdv_tup [])).push (PySem.HandSPX.excO C w1.objs.size)).get? (w1.objs.size + 1) = some (PySem.HandSPX.excO C w1.objs.size) := by heap_get
  have I1 : Inv X pins σ (upd H (w1.objs.size + 1) (exo (w1.objs.size + 1) C none)) ⟨(w1.push (PySem.W.kdv_tup [])).push (PySem.HandSPX.excO C w1.objs.size), g, dr, tk, os⟩ :=
    I.laid (t' := tk) (o := exo (w1.objs.size + 1) C none) old big (exo_ok at1)
  have r1 : Vals [V.ref (w1.objs.size + 1)] [Value.ref (w1.objs.size + 1)] := .cons rfl .nil
  have len1 : ([Value.ref (w1.objs.size + 1)] ++ []).length = ps.length := by rw [← F1.len _ _ _ _ q1]; rfl
  have b1 := hb ⟨(w1.push (PySem.W.kdv_tup [])).push (PySem.HandSPX.excO C w1.objs.size), g, dr, tk, os⟩ [.ref (w1.objs.size + 1)] I1.kIn len1
  rw [List.append_nil] at b1
  show wpAny _ _ (call (.ref C) []) _ _ _
  refine wpAny_call (PySem.HandSPX.call_own PySem.F.excBase_ValueError (fun Y => PySem.HandSPX.refsVE_contains Y bm hbm) (I.kIn _ _ hC) (PySem.W.looks_findIn I.kIn iC) (fun self => PySem.W.bind_fn I.kIn self tI) (Nat.zero_le _)
    (codeAny_mono (F1.run _ X.stack _ _ ⟨[.ref (w1.objs.size + 1)], []⟩ [.ref (w1.objs.size + 1)] [.ref (w1.objs.size + 1)] _ (fun _ _ _ => False) (hr.make C [] []) (I1.env0.make C [] []) b1 r1 q1) fun r s' z => ?_))
  cases r with
  | error er => exact z.elim
  | ok fl =>
    cases fl with
    | ret u =>
      obtain ⟨v, H2, o2, b2, u2, k2, rv, ev, d, fs, ea, ed, hd, qq⟩ := z
      subst ev
      obtain ⟨w2, g2, d2, t2, os2⟩ := s'
      exact ⟨rv, mk_end (raises_own O.exC O.tyC) I big old u2 k2 o2 b2 ea ed hd qq⟩
    | next => exact False.elim z
    | brk => exact False.elim z
    | cont => exact False.elim z
theorem b_raise0 (O : OexC X.K C) (iC : PySem.W.findIn X.K (.ref C) "__init__" = some (some (.ref fI))) (tI : PySem.W.typeIn X.K (.ref fI) = some (.type "function")) (F1 : FnOk X.prog X.w X.K X.mg X.base CX0 k fI fd ["self"] (spInit0 C tag)) (hr : Room (k + 1) X.A) (hb : Binds X.K fd ["self"] [])
    (tk : Takes X W) (hm : X.mg x = some (.ref C)) (h : ∀ σ d H', B.ok H' → B.e d = none → Held H' d "" tag .non → W (.ref C) (some d) σ H') (hc : X.calm = true := by rfl) (hg : Gl X x := by rfl) (hdb : (x == ("__debug__" : Str)) = false := by decide) :
    Bd X Γ (.Raise (some (.Call (.Name x p) [] [] pos)) none pos2 :: rest) B D :=
  b_cons fun σ H e0 t => toS (ps_raise hc tk (pmk0 O iC tI F1 hr hb hg hm hdb)) fun a ha => ⟨a, rfl, upd_same, fun d hd hda => ⟨rfl, d, [("tag", .str tag)], upd_same, by rw [upd_ne hda, upd_same], by rw [upd_ne hda] at hd; exact hd, by
    rw [upd_ne hda] at hd
    have e2 : Ex H (upd (del (upd (upd (upd H a (exo a C none)) d (exd d [("tag", .str tag)])) a (exo a C (some d))) a) d (.xd [("tag", .str tag)])) := .of fun b o hb => by
      have n1 : b ≠ d := ne_of_none hb hd
      have n2 : b ≠ a := ne_of_none hb ha
      rw [upd_ne n1, del_ne n2, upd_ne n2, upd_ne n1, upd_ne n2]
      exact hb
    exact h σ d _ (e0.trans e2) (e0.1.free hd) (held_none upd_same)⟩⟩
end
/-- an own exception class whose tag alone is told -/
def exn0B (K : PySem.W.Frag) (C : Addr) : Bool := oexB K C && (xfB K C && (decide (PySem.W.findIn K (.ref C) "" = some none) && decide (PySem.W.findIn K (.ref C) "tag" = some none)))
theorem exn0B_ok {K : PySem.W.Frag} {C : Addr} (h : exn0B K C = true) : ExC K C "" := by
  obtain ⟨h1, h⟩ := Bool.and_eq_true_iff.mp h
  obtain ⟨h2, h⟩ := Bool.and_eq_true_iff.mp h
  obtain ⟨h3, h4⟩ := Bool.and_eq_true_iff.mp h
  exact ⟨oexB_ok h1, xfB_ok h2, of_decide_eq_true h3, of_decide_eq_true h4⟩
end RL

set_option Elab.async false
set_option linter.all false
set_option maxRecDepth 100000
set_option maxHeartbeats 0
namespace K03
open PySem PySem.Spec PyProof.Rows L2 RL
def top (i : Nat) : Stmt := PySem.Challenge.pw_timesalone_k03_texts_of_numbers.main.body.getD i (.Pass ⟨0, 0, 0, 0⟩)
abbrev s_is_integer : Stmt := top 10
abbrev s_is_prime : Stmt := top 11
abbrev s_is_known_prime : Stmt := top 12
abbrev s_digits_in : Stmt := top 14
abbrev s_number_of : Stmt := top 17
abbrev s__law_bag : Stmt := top 19
abbrev s__law_primes : Stmt := top 20
abbrev s__law_take : Stmt := top 21
abbrev s__law_of : Stmt := top 22
abbrev s__law_some_powers : Stmt := top 23
abbrev s__law_made : Stmt := top 24
abbrev s__law_text : Stmt := top 25
abbrev s__law_alike : Stmt := top 26
abbrev s__law_digits_in : Stmt := top 27
abbrev s__law_is_int : Stmt := top 28
abbrev s__law_is_prime : Stmt := top 29
abbrev s__law_number_in : Stmt := top 30
abbrev s__law_field : Stmt := top 31
abbrev s__law_why : Stmt := top 32
abbrev s_law : Stmt := top 33
abbrev s_Number___init__ : Stmt := inClass (top 15) 1
abbrev s_MadeNumber___init__ : Stmt := inClass (top 16) 0
abbrev s_InvalidNumber___init__ : Stmt := inClass (top 5) 0
abbrev s_Number_pairs : Stmt := inClass (top 15) 4
abbrev s_Number_primes : Stmt := inClass (top 15) 5
abbrev s_Number_exponent : Stmt := inClass (top 15) 6
abbrev s_Number_text : Stmt := inClass (top 15) 7
abbrev s_Number_joined : Stmt := inClass (top 15) 9
abbrev s_Number___mul__ : Stmt := inClass (top 15) 10
abbrev s_Number___eq__ : Stmt := inClass (top 15) 16
abbrev s_Number___repr__ : Stmt := inClass (top 15) 20
def d_is_integer : He.DefD := ⟨("is_integer", none), "is_integer", "is_integer", defArgs s_is_integer, defBody s_is_integer, defScope s_is_integer, [], []⟩
def d_is_prime : He.DefD := ⟨("is_prime", none), "is_prime", "is_prime", defArgs s_is_prime, defBody s_is_prime, defScope s_is_prime, [], []⟩
def d_is_known_prime : He.DefD := ⟨("is_known_prime", none), "is_known_prime", "is_known_prime", defArgs s_is_known_prime, defBody s_is_known_prime, defScope s_is_known_prime, [], []⟩
def d_digits_in : He.DefD := ⟨("digits_in", none), "digits_in", "digits_in", defArgs s_digits_in, defBody s_digits_in, defScope s_digits_in, [], []⟩
def d_number_of : He.DefD := ⟨("number_of", none), "number_of", "number_of", defArgs s_number_of, defBody s_number_of, defScope s_number_of, [], []⟩
def d__law_bag : He.DefD := ⟨("_law_bag", none), "_law_bag", "_law_bag", defArgs s__law_bag, defBody s__law_bag, defScope s__law_bag, [], []⟩
def d__law_primes : He.DefD := ⟨("_law_primes", none), "_law_primes", "_law_primes", defArgs s__law_primes, defBody s__law_primes, defScope s__law_primes, [], []⟩
def d__law_take : He.DefD := ⟨("_law_take", none), "_law_take", "_law_take", defArgs s__law_take, defBody s__law_take, defScope s__law_take, [], []⟩
def d__law_of : He.DefD := ⟨("_law_of", none), "_law_of", "_law_of", defArgs s__law_of, defBody s__law_of, defScope s__law_of, [], []⟩
def d__law_some_powers : He.DefD := ⟨("_law_some_powers", none), "_law_some_powers", "_law_some_powers", defArgs s__law_some_powers, defBody s__law_some_powers, defScope s__law_some_powers, [], []⟩
def d__law_made : He.DefD := ⟨("_law_made", none), "_law_made", "_law_made", defArgs s__law_made, defBody s__law_made, defScope s__law_made, [], []⟩
def d__law_text : He.DefD := ⟨("_law_text", none), "_law_text", "_law_text", defArgs s__law_text, defBody s__law_text, defScope s__law_text, [], []⟩
def d__law_alike : He.DefD := ⟨("_law_alike", none), "_law_alike", "_law_alike", defArgs s__law_alike, defBody s__law_alike, defScope s__law_alike, [], []⟩
def d__law_digits_in : He.DefD := ⟨("_law_digits_in", none), "_law_digits_in", "_law_digits_in", defArgs s__law_digits_in, defBody s__law_digits_in, defScope s__law_digits_in, [], []⟩
def d__law_is_int : He.DefD := ⟨("_law_is_int", none), "_law_is_int", "_law_is_int", defArgs s__law_is_int, defBody s__law_is_int, defScope s__law_is_int, [], []⟩
def d__law_is_prime : He.DefD := ⟨("_law_is_prime", none), "_law_is_prime", "_law_is_prime", defArgs s__law_is_prime, defBody s__law_is_prime, defScope s__law_is_prime, [], []⟩
def d__law_number_in : He.DefD := ⟨("_law_number_in", none), "_law_number_in", "_law_number_in", defArgs s__law_number_in, defBody s__law_number_in, defScope s__law_number_in, [], []⟩
def d__law_field : He.DefD := ⟨("_law_field", none), "_law_field", "_law_field", defArgs s__law_field, defBody s__law_field, defScope s__law_field, [], []⟩
def d__law_why : He.DefD := ⟨("_law_why", none), "_law_why", "_law_why", defArgs s__law_why, defBody s__law_why, defScope s__law_why, [], []⟩
def d_law : He.DefD := ⟨("law", none), "law", "law", defArgs s_law, defBody s_law, defScope s_law, [], []⟩
def d_Number___init__ : He.DefD := ⟨("Number", some "__init__"), "__init__", "Number.__init__", defArgs s_Number___init__, defBody s_Number___init__, defScope s_Number___init__, [], []⟩
def d_MadeNumber___init__ : He.DefD := ⟨("MadeNumber", some "__init__"), "__init__", "MadeNumber.__init__", defArgs s_MadeNumber___init__, defBody s_MadeNumber___init__, defScope s_MadeNumber___init__, [], []⟩
def d_InvalidNumber___init__ : He.DefD := ⟨("InvalidNumber", some "__init__"), "__init__", "InvalidNumber.__init__", defArgs s_InvalidNumber___init__, defBody s_InvalidNumber___init__, defScope s_InvalidNumber___init__, [], []⟩
def d_Number_pairs : He.DefD := ⟨("Number", some "pairs"), "pairs", "Number.pairs", defArgs s_Number_pairs, defBody s_Number_pairs, defScope s_Number_pairs, [], []⟩
def d_MadeNumber_pairs : He.DefD := ⟨("MadeNumber", some "pairs"), "pairs", "Number.pairs", defArgs s_Number_pairs, defBody s_Number_pairs, defScope s_Number_pairs, [], []⟩
def d_Number_primes : He.DefD := ⟨("Number", some "primes"), "primes", "Number.primes", defArgs s_Number_primes, defBody s_Number_primes, defScope s_Number_primes, [], []⟩
def d_MadeNumber_primes : He.DefD := ⟨("MadeNumber", some "primes"), "primes", "Number.primes", defArgs s_Number_primes, defBody s_Number_primes, defScope s_Number_primes, [], []⟩
def d_Number_exponent : He.DefD := ⟨("Number", some "exponent"), "exponent", "Number.exponent", defArgs s_Number_exponent, defBody s_Number_exponent, defScope s_Number_exponent, [], []⟩
def d_MadeNumber_exponent : He.DefD := ⟨("MadeNumber", some "exponent"), "exponent", "Number.exponent", defArgs s_Number_exponent, defBody s_Number_exponent, defScope s_Number_exponent, [], []⟩
def d_Number_text : He.DefD := ⟨("Number", some "text"), "text", "Number.text", defArgs s_Number_text, defBody s_Number_text, defScope s_Number_text, [], []⟩
def d_MadeNumber_text : He.DefD := ⟨("MadeNumber", some "text"), "text", "Number.text", defArgs s_Number_text, defBody s_Number_text, defScope s_Number_text, [], []⟩
def d_Number_joined : He.DefD := ⟨("Number", some "joined"), "joined", "Number.joined", defArgs s_Number_joined, defBody s_Number_joined, defScope s_Number_joined, [], []⟩
def d_MadeNumber_joined : He.DefD := ⟨("MadeNumber", some "joined"), "joined", "Number.joined", defArgs s_Number_joined, defBody s_Number_joined, defScope s_Number_joined, [], []⟩
def d_Number___mul__ : He.DefD := ⟨("Number", some "__mul__"), "__mul__", "Number.__mul__", defArgs s_Number___mul__, defBody s_Number___mul__, defScope s_Number___mul__, [], []⟩
def d_MadeNumber___mul__ : He.DefD := ⟨("MadeNumber", some "__mul__"), "__mul__", "Number.__mul__", defArgs s_Number___mul__, defBody s_Number___mul__, defScope s_Number___mul__, [], []⟩
def d_Number___eq__ : He.DefD := ⟨("Number", some "__eq__"), "__eq__", "Number.__eq__", defArgs s_Number___eq__, defBody s_Number___eq__, defScope s_Number___eq__, [], []⟩
def d_MadeNumber___eq__ : He.DefD := ⟨("MadeNumber", some "__eq__"), "__eq__", "Number.__eq__", defArgs s_Number___eq__, defBody s_Number___eq__, defScope s_Number___eq__, [], []⟩
def d_Number___repr__ : He.DefD := ⟨("Number", some "__repr__"), "__repr__", "Number.__repr__", defArgs s_Number___repr__, defBody s_Number___repr__, defScope s_Number___repr__, [], []⟩
def d_MadeNumber___repr__ : He.DefD := ⟨("MadeNumber", some "__repr__"), "__repr__", "Number.__repr__", defArgs s_Number___repr__, defBody s_Number___repr__, defScope s_Number___repr__, [], []⟩
def fn : List He.DefD := ([d_is_integer, d_is_prime, d_is_known_prime, d_digits_in, d_number_of, d__law_bag, d__law_primes, d__law_take, d__law_of, d__law_some_powers, d__law_made, d__law_text, d__law_alike, d__law_digits_in, d__law_is_int, d__law_is_prime, d__law_number_in, d__law_field, d__law_why, d_law, d_Number___init__, d_MadeNumber___init__, d_InvalidNumber___init__, d_Number_pairs, d_MadeNumber_pairs, d_Number_primes, d_MadeNumber_primes, d_Number_exponent, d_MadeNumber_exponent, d_Number_text] : List He.DefD) ++ ([d_MadeNumber_text, d_Number_joined, d_MadeNumber_joined, d_Number___mul__, d_MadeNumber___mul__, d_Number___eq__, d_MadeNumber___eq__, d_Number___repr__, d_MadeNumber___repr__] : List He.DefD)
def fa : List He.Fa := ([.glo "is_integer", .glo "is_prime", .glo "is_known_prime", .glo "digits_in", .glo "number_of", .glo "_law_bag", .glo "_law_primes", .glo "_law_take", .glo "_law_of", .glo "_law_some_powers", .glo "_law_made", .glo "_law_text", .glo "_law_alike", .glo "_law_digits_in", .glo "_law_is_int", .glo "_law_is_prime", .glo "_law_number_in", .glo "_law_field", .glo "_law_why", .glo "law", .glo "Number", .glo "MadeNumber", .glo "InvalidNumber", .glo "TimesError", .glo "Missing", .glo "NothingLeft", .free "len", .free "isinstance", .free "int", .free "bool"] : List He.Fa) ++ ([.free "tuple", .free "list", .free "str", .free "sorted", .free "all", .free "range", .free "enumerate", .free "zip", .free "dict", .free "set", .free "min", .free "max", .free "repr", .int "MOST_PRIME" 1000, .int "MOST_DIGITS" 30, .str "DIGITS" "0123456789", .cls "Number", .noat "Number" "powers", .mkr "Number", .keep "Number", .meth "Number" "pairs", .meth "Number" "primes", .meth "Number" "exponent", .meth "Number" "text", .meth "Number" "joined", .meth "Number" "__mul__", .meth "Number" "__eq__", .meth "Number" "__repr__", .cls "MadeNumber", .noat "MadeNumber" "powers"] : List He.Fa) ++ ([.mkr "MadeNumber", .keep "MadeNumber", .meth "MadeNumber" "pairs", .meth "MadeNumber" "primes", .meth "MadeNumber" "exponent", .meth "MadeNumber" "text", .meth "MadeNumber" "joined", .meth "MadeNumber" "__mul__", .meth "MadeNumber" "__eq__", .meth "MadeNumber" "__repr__"] : List He.Fa)
theorem i_is_integer : d_is_integer ∈ fn := List.mem_of_getElem? (i := 0) rfl
theorem i_is_prime : d_is_prime ∈ fn := List.mem_of_getElem? (i := 1) rfl
theorem i_is_known_prime : d_is_known_prime ∈ fn := List.mem_of_getElem? (i := 2) rfl
theorem i_digits_in : d_digits_in ∈ fn := List.mem_of_getElem? (i := 3) rfl
theorem i_number_of : d_number_of ∈ fn := List.mem_of_getElem? (i := 4) rfl
theorem i__law_bag : d__law_bag ∈ fn := List.mem_of_getElem? (i := 5) rfl
theorem i__law_primes : d__law_primes ∈ fn := List.mem_of_getElem? (i := 6) rfl
theorem i__law_take : d__law_take ∈ fn := List.mem_of_getElem? (i := 7) rfl
theorem i__law_of : d__law_of ∈ fn := List.mem_of_getElem? (i := 8) rfl
theorem i__law_some_powers : d__law_some_powers ∈ fn := List.mem_of_getElem? (i := 9) rfl
theorem i__law_made : d__law_made ∈ fn := List.mem_of_getElem? (i := 10) rfl
theorem i__law_text : d__law_text ∈ fn := List.mem_of_getElem? (i := 11) rfl
theorem i__law_alike : d__law_alike ∈ fn := List.mem_of_getElem? (i := 12) rfl
theorem i__law_digits_in : d__law_digits_in ∈ fn := List.mem_of_getElem? (i := 13) rfl
theorem i__law_is_int : d__law_is_int ∈ fn := List.mem_of_getElem? (i := 14) rfl
theorem i__law_is_prime : d__law_is_prime ∈ fn := List.mem_of_getElem? (i := 15) rfl
theorem i__law_number_in : d__law_number_in ∈ fn := List.mem_of_getElem? (i := 16) rfl
theorem i__law_field : d__law_field ∈ fn := List.mem_of_getElem? (i := 17) rfl
theorem i__law_why : d__law_why ∈ fn := List.mem_of_getElem? (i := 18) rfl
theorem i_law : d_law ∈ fn := List.mem_of_getElem? (i := 19) rfl
theorem i_Number___init__ : d_Number___init__ ∈ fn := List.mem_of_getElem? (i := 20) rfl
theorem i_MadeNumber___init__ : d_MadeNumber___init__ ∈ fn := List.mem_of_getElem? (i := 21) rfl
theorem i_InvalidNumber___init__ : d_InvalidNumber___init__ ∈ fn := List.mem_of_getElem? (i := 22) rfl
theorem i_Number_pairs : d_Number_pairs ∈ fn := List.mem_of_getElem? (i := 23) rfl
theorem i_MadeNumber_pairs : d_MadeNumber_pairs ∈ fn := List.mem_of_getElem? (i := 24) rfl
theorem i_Number_primes : d_Number_primes ∈ fn := List.mem_of_getElem? (i := 25) rfl
theorem i_MadeNumber_primes : d_MadeNumber_primes ∈ fn := List.mem_of_getElem? (i := 26) rfl
theorem i_Number_exponent : d_Number_exponent ∈ fn := List.mem_of_getElem? (i := 27) rfl
theorem i_MadeNumber_exponent : d_MadeNumber_exponent ∈ fn := List.mem_of_getElem? (i := 28) rfl
theorem i_Number_text : d_Number_text ∈ fn := List.mem_of_getElem? (i := 29) rfl
theorem i_MadeNumber_text : d_MadeNumber_text ∈ fn := List.mem_of_getElem? (i := 30) rfl
theorem i_Number_joined : d_Number_joined ∈ fn := List.mem_of_getElem? (i := 31) rfl
theorem i_MadeNumber_joined : d_MadeNumber_joined ∈ fn := List.mem_of_getElem? (i := 32) rfl
theorem i_Number___mul__ : d_Number___mul__ ∈ fn := List.mem_of_getElem? (i := 33) rfl
theorem i_MadeNumber___mul__ : d_MadeNumber___mul__ ∈ fn := List.mem_of_getElem? (i := 34) rfl
theorem i_Number___eq__ : d_Number___eq__ ∈ fn := List.mem_of_getElem? (i := 35) rfl
theorem i_MadeNumber___eq__ : d_MadeNumber___eq__ ∈ fn := List.mem_of_getElem? (i := 36) rfl
theorem i_Number___repr__ : d_Number___repr__ ∈ fn := List.mem_of_getElem? (i := 37) rfl
theorem i_MadeNumber___repr__ : d_MadeNumber___repr__ ∈ fn := List.mem_of_getElem? (i := 38) rfl
theorem q_glo_is_integer : (He.Fa.glo "is_integer") ∈ fa := List.mem_of_getElem? (i := 0) rfl
theorem q_glo_is_prime : (He.Fa.glo "is_prime") ∈ fa := List.mem_of_getElem? (i := 1) rfl
theorem q_glo_is_known_prime : (He.Fa.glo "is_known_prime") ∈ fa := List.mem_of_getElem? (i := 2) rfl
theorem q_glo_digits_in : (He.Fa.glo "digits_in") ∈ fa := List.mem_of_getElem? (i := 3) rfl
theorem q_glo_number_of : (He.Fa.glo "number_of") ∈ fa := List.mem_of_getElem? (i := 4) rfl
theorem q_glo__law_bag : (He.Fa.glo "_law_bag") ∈ fa := List.mem_of_getElem? (i := 5) rfl
theorem q_glo__law_primes : (He.Fa.glo "_law_primes") ∈ fa := List.mem_of_getElem? (i := 6) rfl
theorem q_glo__law_take : (He.Fa.glo "_law_take") ∈ fa := List.mem_of_getElem? (i := 7) rfl
theorem q_glo__law_of : (He.Fa.glo "_law_of") ∈ fa := List.mem_of_getElem? (i := 8) rfl
theorem q_glo__law_some_powers : (He.Fa.glo "_law_some_powers") ∈ fa := List.mem_of_getElem? (i := 9) rfl
theorem q_glo__law_made : (He.Fa.glo "_law_made") ∈ fa := List.mem_of_getElem? (i := 10) rfl
theorem q_glo__law_text : (He.Fa.glo "_law_text") ∈ fa := List.mem_of_getElem? (i := 11) rfl
theorem q_glo__law_alike : (He.Fa.glo "_law_alike") ∈ fa := List.mem_of_getElem? (i := 12) rfl
theorem q_glo__law_digits_in : (He.Fa.glo "_law_digits_in") ∈ fa := List.mem_of_getElem? (i := 13) rfl
theorem q_glo__law_is_int : (He.Fa.glo "_law_is_int") ∈ fa := List.mem_of_getElem? (i := 14) rfl
theorem q_glo__law_is_prime : (He.Fa.glo "_law_is_prime") ∈ fa := List.mem_of_getElem? (i := 15) rfl
theorem q_glo__law_number_in : (He.Fa.glo "_law_number_in") ∈ fa := List.mem_of_getElem? (i := 16) rfl
theorem q_glo__law_field : (He.Fa.glo "_law_field") ∈ fa := List.mem_of_getElem? (i := 17) rfl
theorem q_glo__law_why : (He.Fa.glo "_law_why") ∈ fa := List.mem_of_getElem? (i := 18) rfl
theorem q_glo_law : (He.Fa.glo "law") ∈ fa := List.mem_of_getElem? (i := 19) rfl
theorem q_glo_Number : (He.Fa.glo "Number") ∈ fa := List.mem_of_getElem? (i := 20) rfl
theorem q_glo_MadeNumber : (He.Fa.glo "MadeNumber") ∈ fa := List.mem_of_getElem? (i := 21) rfl
theorem q_glo_InvalidNumber : (He.Fa.glo "InvalidNumber") ∈ fa := List.mem_of_getElem? (i := 22) rfl
theorem q_glo_TimesError : (He.Fa.glo "TimesError") ∈ fa := List.mem_of_getElem? (i := 23) rfl
theorem q_glo_Missing : (He.Fa.glo "Missing") ∈ fa := List.mem_of_getElem? (i := 24) rfl
theorem q_glo_NothingLeft : (He.Fa.glo "NothingLeft") ∈ fa := List.mem_of_getElem? (i := 25) rfl
theorem q_free_len : (He.Fa.free "len") ∈ fa := List.mem_of_getElem? (i := 26) rfl
theorem q_free_isinstance : (He.Fa.free "isinstance") ∈ fa := List.mem_of_getElem? (i := 27) rfl
theorem q_free_int : (He.Fa.free "int") ∈ fa := List.mem_of_getElem? (i := 28) rfl
theorem q_free_bool : (He.Fa.free "bool") ∈ fa := List.mem_of_getElem? (i := 29) rfl
theorem q_free_tuple : (He.Fa.free "tuple") ∈ fa := List.mem_of_getElem? (i := 30) rfl
theorem q_free_list : (He.Fa.free "list") ∈ fa := List.mem_of_getElem? (i := 31) rfl
theorem q_free_str : (He.Fa.free "str") ∈ fa := List.mem_of_getElem? (i := 32) rfl
theorem q_free_sorted : (He.Fa.free "sorted") ∈ fa := List.mem_of_getElem? (i := 33) rfl
theorem q_free_all : (He.Fa.free "all") ∈ fa := List.mem_of_getElem? (i := 34) rfl
theorem q_free_range : (He.Fa.free "range") ∈ fa := List.mem_of_getElem? (i := 35) rfl
theorem q_free_enumerate : (He.Fa.free "enumerate") ∈ fa := List.mem_of_getElem? (i := 36) rfl
theorem q_free_zip : (He.Fa.free "zip") ∈ fa := List.mem_of_getElem? (i := 37) rfl
theorem q_free_dict : (He.Fa.free "dict") ∈ fa := List.mem_of_getElem? (i := 38) rfl
theorem q_free_set : (He.Fa.free "set") ∈ fa := List.mem_of_getElem? (i := 39) rfl
theorem q_free_min : (He.Fa.free "min") ∈ fa := List.mem_of_getElem? (i := 40) rfl
theorem q_free_max : (He.Fa.free "max") ∈ fa := List.mem_of_getElem? (i := 41) rfl
theorem q_free_repr : (He.Fa.free "repr") ∈ fa := List.mem_of_getElem? (i := 42) rfl
theorem q_int_MOST_PRIME : (He.Fa.int "MOST_PRIME" 1000) ∈ fa := List.mem_of_getElem? (i := 43) rfl
theorem q_int_MOST_DIGITS : (He.Fa.int "MOST_DIGITS" 30) ∈ fa := List.mem_of_getElem? (i := 44) rfl
theorem q_str_DIGITS_0123456789 : (He.Fa.str "DIGITS" "0123456789") ∈ fa := List.mem_of_getElem? (i := 45) rfl
theorem q_cls_Number : (He.Fa.cls "Number") ∈ fa := List.mem_of_getElem? (i := 46) rfl
theorem q_noat_Number_powers : (He.Fa.noat "Number" "powers") ∈ fa := List.mem_of_getElem? (i := 47) rfl
theorem q_mkr_Number : (He.Fa.mkr "Number") ∈ fa := List.mem_of_getElem? (i := 48) rfl
theorem q_keep_Number : (He.Fa.keep "Number") ∈ fa := List.mem_of_getElem? (i := 49) rfl
theorem q_meth_Number_pairs : (He.Fa.meth "Number" "pairs") ∈ fa := List.mem_of_getElem? (i := 50) rfl
theorem q_meth_Number_primes : (He.Fa.meth "Number" "primes") ∈ fa := List.mem_of_getElem? (i := 51) rfl
theorem q_meth_Number_exponent : (He.Fa.meth "Number" "exponent") ∈ fa := List.mem_of_getElem? (i := 52) rfl
theorem q_meth_Number_text : (He.Fa.meth "Number" "text") ∈ fa := List.mem_of_getElem? (i := 53) rfl
theorem q_meth_Number_joined : (He.Fa.meth "Number" "joined") ∈ fa := List.mem_of_getElem? (i := 54) rfl
theorem q_meth_Number___mul__ : (He.Fa.meth "Number" "__mul__") ∈ fa := List.mem_of_getElem? (i := 55) rfl
theorem q_meth_Number___eq__ : (He.Fa.meth "Number" "__eq__") ∈ fa := List.mem_of_getElem? (i := 56) rfl
theorem q_meth_Number___repr__ : (He.Fa.meth "Number" "__repr__") ∈ fa := List.mem_of_getElem? (i := 57) rfl
theorem q_cls_MadeNumber : (He.Fa.cls "MadeNumber") ∈ fa := List.mem_of_getElem? (i := 58) rfl
theorem q_noat_MadeNumber_powers : (He.Fa.noat "MadeNumber" "powers") ∈ fa := List.mem_of_getElem? (i := 59) rfl
theorem q_mkr_MadeNumber : (He.Fa.mkr "MadeNumber") ∈ fa := List.mem_of_getElem? (i := 60) rfl
theorem q_keep_MadeNumber : (He.Fa.keep "MadeNumber") ∈ fa := List.mem_of_getElem? (i := 61) rfl
theorem q_meth_MadeNumber_pairs : (He.Fa.meth "MadeNumber" "pairs") ∈ fa := List.mem_of_getElem? (i := 62) rfl
theorem q_meth_MadeNumber_primes : (He.Fa.meth "MadeNumber" "primes") ∈ fa := List.mem_of_getElem? (i := 63) rfl
theorem q_meth_MadeNumber_exponent : (He.Fa.meth "MadeNumber" "exponent") ∈ fa := List.mem_of_getElem? (i := 64) rfl
theorem q_meth_MadeNumber_text : (He.Fa.meth "MadeNumber" "text") ∈ fa := List.mem_of_getElem? (i := 65) rfl
theorem q_meth_MadeNumber_joined : (He.Fa.meth "MadeNumber" "joined") ∈ fa := List.mem_of_getElem? (i := 66) rfl
theorem q_meth_MadeNumber___mul__ : (He.Fa.meth "MadeNumber" "__mul__") ∈ fa := List.mem_of_getElem? (i := 67) rfl
theorem q_meth_MadeNumber___eq__ : (He.Fa.meth "MadeNumber" "__eq__") ∈ fa := List.mem_of_getElem? (i := 68) rfl
theorem q_meth_MadeNumber___repr__ : (He.Fa.meth "MadeNumber" "__repr__") ∈ fa := List.mem_of_getElem? (i := 69) rfl
def cs : List Str := ["Number", "MadeNumber"]
def opsB (K : PySem.W.Frag) : Bool := cs.all fun x => lacksB K (He.ga K x) "__rmul__" && lacksB K (He.ga K x) "__rand__" && rorsB K (He.ga K x)
def moreB (K : PySem.W.Frag) : Bool := opsB K && opsB K
def ex (K : PySem.W.Frag) : Bool := famB K cs && moreB K && isaB K cs "Number" && (exnB K (He.ga K "InvalidNumber") "given" && (baseB K (He.ga K "TimesError") && (cvB K (He.ga K "Number") "MOST" 1000000 && iniB K (He.ga K "InvalidNumber") && decide (PySem.W.exmAny K (.ref (He.ga K "InvalidNumber")) [.ref (He.ga K "TimesError"), .ref (He.ga K "Missing"), .ref (He.ga K "NothingLeft")] = some true))))
def ts : List He.Tab := []
def tf : List He.Defn := [("law", none)]
abbrev s_Number_read : Stmt := inClass (top 15) 3
def sd_read : StD := ⟨"Number", "read", "read", "Number.read", defArgs s_Number_read, defBody s_Number_read, defScope s_Number_read, false⟩
abbrev s_Number_is_one : Stmt := inClass (top 15) 8
def sd_one : StD := ⟨"Number", "is_one", "is_one", "Number.is_one", defArgs s_Number_is_one, defBody s_Number_is_one, defScope s_Number_is_one, true⟩
def sd_oneM : StD := ⟨"MadeNumber", "is_one", "is_one", "Number.is_one", defArgs s_Number_is_one, defBody s_Number_is_one, defScope s_Number_is_one, true⟩
def sd : List StD := [sd_read, sd_one, sd_oneM]
abbrev R : PySem.W.OpenRow := PySem.W.OpenLaw.row PySem.Challenge.rw_timesalone_k03_texts_of_numbers
abbrev hk : PySem.W.Hook := hookY 5 fa fn ts tf ex sd
def ob (s : PySem.W.SharedT) : AlY := obsY 5 fa fn ts tf ex sd (HandSHeadRun.getT s)
theorem ob_eq (s : PySem.W.SharedT) : ob s = hk.obs s.abs := obsY_eq (HandSHeadRun.getT_eq s)
def loose : List PySem.Str := (["_wall", "__name__", "TimesError", "Missing", "NothingLeft", "InvalidNumber", "MOST_PRIME", "MOST_DIGITS", "DIGITS", "is_integer", "is_prime", "is_known_prime", "fresh_primes", "digits_in", "Number", "MadeNumber", "number_of", "_law_bag", "_law_primes", "_law_take", "_law_of", "_law_some_powers", "_law_made", "_law_text", "_law_alike", "_law_digits_in", "_law_is_int", "_law_is_prime", "_law_number_in", "_law_field"] : List PySem.Str) ++ (["_law_why"] : List PySem.Str)
theorem run (w : World) : HandSHeadRun.RunEq R (PySem.W.view R.prog [33]) hk ob 20000 loose w := by
  intro os
  kernel_rfl
end K03

set_option Elab.async false
set_option linter.all false
set_option maxRecDepth 100000
set_option maxHeartbeats 8000000
namespace K03
open PySem PySem.Spec PyProof.Rows L2 RL NM StX
section
variable {P : Program} {w : World} {K : PySem.W.Frag} {mg : Str → Option Value} {base : Heap}
theorem sc_is_integer : FnScope ["value"] ["value"] (defScope s_is_integer) := ⟨rfl, rfl, rfl, by decide +kernel, rfl, by decide +kernel, by decide +kernel⟩
theorem f_is_integer (T : Tx fa fn ex K mg) : FnG P w K mg base 1 "is_integer" ["value"] (spG (fun i : Int => [intT i]) fun _ => blT true) := by
  refine T.fn d_is_integer i_is_integer "is_integer" rfl q_glo_is_integer rfl (fun _ _ _ _ _ _ us hl => match us, hl with | [_], _ => rfl) fun f fd F => ?_
  refine fn_G F sc_is_integer (fun _ => rfl) fun i cdv Ar outer s H E hr nd D hD _ => ?_
  refine b_ret (g_and2 (k := true) (l := true) (g_isi (v := .int i) (n := "int") (g_var 0) (fun v H h => by have h' : v = .int i := h; subst h'; exact .base (.int i)) (T.free _ q_free_isinstance) (T.free _ q_free_int) (n' := "int") (by decide +kernel) (by decide +kernel))
    fun _ => (g_not (g_isi (v := .int i) (n := "int") (r := false) (g_var 0) (fun v H h => by have h' : v = .int i := h; subst h'; exact .base (.int i)) (T.free _ q_free_isinstance) (T.free _ q_free_bool) (n' := "bool") (by decide +kernel) (by decide +kernel)))) hD
theorem sc_is_prime : FnScope ["value", "divisor"] ["value"] (defScope s_is_prime) := ⟨rfl, rfl, rfl, by decide +kernel, rfl, by decide +kernel, by decide +kernel⟩
theorem f_is_prime (T : Tx fa fn ex K mg) : FnG P w K mg base 1 "is_prime" ["value"] (spG (fun z : { n : Int // n < 2 ^ 60 } => [intT z.1]) fun z => blT (isPB z.1)) := by
  refine T.fn d_is_prime i_is_prime "is_prime" rfl q_glo_is_prime rfl (fun _ _ _ _ _ _ us hl => match us, hl with | [_], _ => rfl) fun f fd F => ?_
  refine fn_G F sc_is_prime (fun _ => rfl) fun z cdv Ar outer s H E hr nd D hD _ => ?_
  obtain ⟨n, hn⟩ := z
  refine b_if (gt_lt (g_var 0) g_int) (fun h => ?_) fun h => ?_
  · refine b_ret g_bl fun v H' e hv => hD v H' e ?_
    have : isPB n = false := isPB_small (by simpa using h)
    show v = _
    rw [this]; exact hv
  · refine b_nil fun σ H1 e1 t1 => Bd.nx (Γ := [some (intT n), none]) ?_ σ H1 e1 t1
    have h2 : 2 ≤ n := by simpa using h
    refine b_asg 1 g_int ?_
    refine b_while (fun d : Int => [some (intT n), some (intT d)]) (fun d => 2 ≤ d ∧ d ≤ n + 2 ∧ ∀ c : Int, 2 ≤ c → c < d → n % c ≠ 0) (fun d => (n + 3 - d).toNat) 2 rfl ⟨by decide, by omega, fun c a b => by omega⟩ fun d ⟨d1, d2, d3⟩ => ?_
    refine ⟨_, gt_le (g_mul (n := 64) (k := 64) (g_var 1) (g_var 1) (by omega) (by omega)) (g_var 0), fun hk => ?_, fun hk => ?_⟩
    · have hd : d * d ≤ n := by simpa using hk
      have hdn : d ≤ n := by
        have : d * 1 ≤ d * d := Int.mul_le_mul_of_nonneg_left (by omega) (by omega)
        omega
      refine b_if (gt_eqI (g_mod (g_var 0) (g_var 1) (by omega)) g_int) (fun h => ?_) fun h => ?_
      · refine b_ret g_bl fun v H' e hv => hD v H' e ?_
        show v = _
        rw [isPB_hit d1 hd (by simpa using h)]; exact hv
      · refine b_nil fun σ H1 e1 t1 => Bd.nx ?_ σ H1 e1 t1
        refine b_augI (n := d) (i := 1) rfl g_int (wturn (d + 1) ⟨by omega, by omega, fun c a b => ?_⟩ (by omega) rfl)
        by_cases hc : c < d
        · exact d3 c a hc
        · have : c = d := by omega
          subst this
          simpa using h
    · refine b_ret g_bl fun v H' e hv => hD v H' e ?_
      show v = _
      rw [isPB_none h2 d1 (by simpa using hk) d3]; exact hv
theorem sc_is_known_prime : FnScope ["value"] ["value"] (defScope s_is_known_prime) := ⟨rfl, rfl, rfl, by decide +kernel, rfl, by decide +kernel, by decide +kernel⟩
theorem f_is_known_prime (T : Tx fa fn ex K mg) : FnG P w K mg base 2 "is_known_prime" ["value"] (spG (fun i : Int => [intT i]) fun i => blT (decide (i < 1000) && isPB i)) := by
  have F1 : FnG P w K mg base 1 "is_integer" ["value"] _ := f_is_integer T
  have F2 : FnG P w K mg base 1 "is_prime" ["value"] _ := f_is_prime T
  obtain ⟨tk, hM⟩ := T.int "MOST_PRIME" 1000 q_int_MOST_PRIME
  refine T.fn d_is_known_prime i_is_known_prime "is_known_prime" rfl q_glo_is_known_prime rfl (fun _ _ _ _ _ _ us hl => match us, hl with | [_], _ => rfl) fun f fd F => ?_
  refine fn_G F sc_is_known_prime (fun _ => rfl) fun i cdv Ar outer s H E hr nd D hD _ => ?_
  refine b_ret (g_and3 (k := true) (l := decide (i < 1000)) (n := isPB i) ?_ (fun _ => g_lt (g_var 0) (g_glob (v := .int 1000) hM ⟨_, rfl⟩)) fun _ h => ?_) hD
  · refine g_call F1 hr i ?_
    exact ga_cons (g_var 0) ga_nil
  have h' : i < 1000 := by simpa using h
  exact g_call F2 (hr.mono (by decide)) ⟨i, by omega⟩ (ga_cons (g_var 0) ga_nil)
abbrev NT (K : PySem.W.Frag) := numT K
theorem cls_num (T : Tx fa fn ex K mg) {C : Addr} (h : NamesC K numCs C) : Cls K C ∧ NoAttr K C "powers" := by
  obtain ⟨x, hx, rfl⟩ := h
  simp only [numCs, List.mem_cons, List.not_mem_nil, or_false] at hx
  rcases hx with rfl | rfl
  · exact ⟨He.cls_ok (T.fact _ q_cls_Number), He.noat_ok (T.fact _ q_noat_Number_powers)⟩
  · exact ⟨He.cls_ok (T.fact _ q_cls_MadeNumber), He.noat_ok (T.fact _ q_noat_MadeNumber_powers)⟩
theorem fld_powers (T : Tx fa fn ex K mg) {k : NK} : ∀ v H, numT K k v H → ∃ a C dx fs w, v = .ref a ∧ H a = some (.ins C dx fs) ∧ Cls K C ∧ NoAttr K C "powers" ∧ fs.lookup ("powers" : Str) = some w ∧ dicT (kvN k) w H := by
  rintro v H ⟨a, C, dx, p, o, h1, h2, h3, h4⟩
  obtain ⟨c1, c2⟩ := cls_num T h3
  exact ⟨a, C, dx, _, .ref p, h1, h2, c1, c2, by rw [List.lookup_cons]; simp, ⟨p, o, rfl, h4⟩⟩
theorem mt_pairs (T : Tx fa fn ex K mg) {ps : List Str} {k : Nat} {sp : Sp} (hl : ps.length = 1) (hb : ∀ (kV doc pm : Value) (an : Option Addr) (cdv ct : Value) (us : List Value), us.length = ps.length → bindArgs (PySem.W.fnOf "pairs" "Number.pairs" (defArgs s_Number_pairs) (defBody s_Number_pairs) (defScope s_Number_pairs) .none kV doc pm an cdv ct) ⟨us, []⟩ = pure (ps.zip us))
    (ok : ∀ f fd kws, FunD K "pairs" "Number.pairs" (defArgs s_Number_pairs) (defBody s_Number_pairs) (defScope s_Number_pairs) [] kws f fd → FnOk P w K mg base CX0 k f fd ps sp) : MtG P w K mg base k (NamesC K numCs) "pairs" ps sp := by
  refine T.mt numCs "pairs" (fun x => if x = "Number" then d_Number_pairs else d_MadeNumber_pairs) ?_ ?_ ?_
  · intro x hx
    simp only [numCs, List.mem_cons, List.not_mem_nil, or_false] at hx
    rcases hx with rfl | rfl
    · exact ⟨i_Number_pairs, rfl, rfl, q_cls_Number, q_meth_Number_pairs⟩
    · exact ⟨i_MadeNumber_pairs, rfl, rfl, q_cls_MadeNumber, q_meth_MadeNumber_pairs⟩
  · intro x hx
    simp only [numCs, List.mem_cons, List.not_mem_nil, or_false] at hx
    rcases hx with rfl | rfl
    · exact hb
    · exact hb
  · intro x hx f fd F
    simp only [numCs, List.mem_cons, List.not_mem_nil, or_false] at hx
    rcases hx with rfl | rfl
    · exact ok _ _ _ F
    · exact ok _ _ _ F
theorem mt___eq__ (T : Tx fa fn ex K mg) {ps : List Str} {k : Nat} {sp : Sp} (hl : ps.length = 2) (hb : ∀ (kV doc pm : Value) (an : Option Addr) (cdv ct : Value) (us : List Value), us.length = ps.length → bindArgs (PySem.W.fnOf "__eq__" "Number.__eq__" (defArgs s_Number___eq__) (defBody s_Number___eq__) (defScope s_Number___eq__) .none kV doc pm an cdv ct) ⟨us, []⟩ = pure (ps.zip us))
    (ok : ∀ f fd kws, FunD K "__eq__" "Number.__eq__" (defArgs s_Number___eq__) (defBody s_Number___eq__) (defScope s_Number___eq__) [] kws f fd → FnOk P w K mg base CX0 k f fd ps sp) : MtG P w K mg base k (NamesC K numCs) "__eq__" ps sp := by
  refine T.mt numCs "__eq__" (fun x => if x = "Number" then d_Number___eq__ else d_MadeNumber___eq__) ?_ ?_ ?_
  · intro x hx
    simp only [numCs, List.mem_cons, List.not_mem_nil, or_false] at hx
    rcases hx with rfl | rfl
    · exact ⟨i_Number___eq__, rfl, rfl, q_cls_Number, q_meth_Number___eq__⟩
    · exact ⟨i_MadeNumber___eq__, rfl, rfl, q_cls_MadeNumber, q_meth_MadeNumber___eq__⟩
  · intro x hx
    simp only [numCs, List.mem_cons, List.not_mem_nil, or_false] at hx
    rcases hx with rfl | rfl
    · exact hb
    · exact hb
  · intro x hx f fd F
    simp only [numCs, List.mem_cons, List.not_mem_nil, or_false] at hx
    rcases hx with rfl | rfl
    · exact ok _ _ _ F
    · exact ok _ _ _ F
theorem mt_primes (T : Tx fa fn ex K mg) {ps : List Str} {k : Nat} {sp : Sp} (hl : ps.length = 1) (hb : ∀ (kV doc pm : Value) (an : Option Addr) (cdv ct : Value) (us : List Value), us.length = ps.length → bindArgs (PySem.W.fnOf "primes" "Number.primes" (defArgs s_Number_primes) (defBody s_Number_primes) (defScope s_Number_primes) .none kV doc pm an cdv ct) ⟨us, []⟩ = pure (ps.zip us))
    (ok : ∀ f fd kws, FunD K "primes" "Number.primes" (defArgs s_Number_primes) (defBody s_Number_primes) (defScope s_Number_primes) [] kws f fd → FnOk P w K mg base CX0 k f fd ps sp) : MtG P w K mg base k (NamesC K numCs) "primes" ps sp := by
  refine T.mt numCs "primes" (fun x => if x = "Number" then d_Number_primes else d_MadeNumber_primes) ?_ ?_ ?_
  · intro x hx
    simp only [numCs, List.mem_cons, List.not_mem_nil, or_false] at hx
    rcases hx with rfl | rfl
    · exact ⟨i_Number_primes, rfl, rfl, q_cls_Number, q_meth_Number_primes⟩
    · exact ⟨i_MadeNumber_primes, rfl, rfl, q_cls_MadeNumber, q_meth_MadeNumber_primes⟩
  · intro x hx
    simp only [numCs, List.mem_cons, List.not_mem_nil, or_false] at hx
    rcases hx with rfl | rfl
    · exact hb
    · exact hb
  · intro x hx f fd F
    simp only [numCs, List.mem_cons, List.not_mem_nil, or_false] at hx
    rcases hx with rfl | rfl
    · exact ok _ _ _ F
    · exact ok _ _ _ F
theorem mt_exponent (T : Tx fa fn ex K mg) {ps : List Str} {k : Nat} {sp : Sp} (hl : ps.length = 2) (hb : ∀ (kV doc pm : Value) (an : Option Addr) (cdv ct : Value) (us : List Value), us.length = ps.length → bindArgs (PySem.W.fnOf "exponent" "Number.exponent" (defArgs s_Number_exponent) (defBody s_Number_exponent) (defScope s_Number_exponent) .none kV doc pm an cdv ct) ⟨us, []⟩ = pure (ps.zip us))
    (ok : ∀ f fd kws, FunD K "exponent" "Number.exponent" (defArgs s_Number_exponent) (defBody s_Number_exponent) (defScope s_Number_exponent) [] kws f fd → FnOk P w K mg base CX0 k f fd ps sp) : MtG P w K mg base k (NamesC K numCs) "exponent" ps sp := by
  refine T.mt numCs "exponent" (fun x => if x = "Number" then d_Number_exponent else d_MadeNumber_exponent) ?_ ?_ ?_
  · intro x hx
    simp only [numCs, List.mem_cons, List.not_mem_nil, or_false] at hx
    rcases hx with rfl | rfl
    · exact ⟨i_Number_exponent, rfl, rfl, q_cls_Number, q_meth_Number_exponent⟩
    · exact ⟨i_MadeNumber_exponent, rfl, rfl, q_cls_MadeNumber, q_meth_MadeNumber_exponent⟩
  · intro x hx
    simp only [numCs, List.mem_cons, List.not_mem_nil, or_false] at hx
    rcases hx with rfl | rfl
    · exact hb
    · exact hb
  · intro x hx f fd F
    simp only [numCs, List.mem_cons, List.not_mem_nil, or_false] at hx
    rcases hx with rfl | rfl
    · exact ok _ _ _ F
    · exact ok _ _ _ F
theorem mt_joined (T : Tx fa fn ex K mg) {ps : List Str} {k : Nat} {sp : Sp} (hl : ps.length = 2) (hb : ∀ (kV doc pm : Value) (an : Option Addr) (cdv ct : Value) (us : List Value), us.length = ps.length → bindArgs (PySem.W.fnOf "joined" "Number.joined" (defArgs s_Number_joined) (defBody s_Number_joined) (defScope s_Number_joined) .none kV doc pm an cdv ct) ⟨us, []⟩ = pure (ps.zip us))
    (ok : ∀ f fd kws, FunD K "joined" "Number.joined" (defArgs s_Number_joined) (defBody s_Number_joined) (defScope s_Number_joined) [] kws f fd → FnOk P w K mg base CX0 k f fd ps sp) : MtG P w K mg base k (NamesC K numCs) "joined" ps sp := by
  refine T.mt numCs "joined" (fun x => if x = "Number" then d_Number_joined else d_MadeNumber_joined) ?_ ?_ ?_
  · intro x hx
    simp only [numCs, List.mem_cons, List.not_mem_nil, or_false] at hx
    rcases hx with rfl | rfl
    · exact ⟨i_Number_joined, rfl, rfl, q_cls_Number, q_meth_Number_joined⟩
    · exact ⟨i_MadeNumber_joined, rfl, rfl, q_cls_MadeNumber, q_meth_MadeNumber_joined⟩
  · intro x hx
    simp only [numCs, List.mem_cons, List.not_mem_nil, or_false] at hx
    rcases hx with rfl | rfl
    · exact hb
    · exact hb
  · intro x hx f fd F
    simp only [numCs, List.mem_cons, List.not_mem_nil, or_false] at hx
    rcases hx with rfl | rfl
    · exact ok _ _ _ F
    · exact ok _ _ _ F
theorem mt___mul__ (T : Tx fa fn ex K mg) {ps : List Str} {k : Nat} {sp : Sp} (hl : ps.length = 2) (hb : ∀ (kV doc pm : Value) (an : Option Addr) (cdv ct : Value) (us : List Value), us.length = ps.length → bindArgs (PySem.W.fnOf "__mul__" "Number.__mul__" (defArgs s_Number___mul__) (defBody s_Number___mul__) (defScope s_Number___mul__) .none kV doc pm an cdv ct) ⟨us, []⟩ = pure (ps.zip us))
    (ok : ∀ f fd kws, FunD K "__mul__" "Number.__mul__" (defArgs s_Number___mul__) (defBody s_Number___mul__) (defScope s_Number___mul__) [] kws f fd → FnOk P w K mg base CX0 k f fd ps sp) : MtG P w K mg base k (NamesC K numCs) "__mul__" ps sp := by
  refine T.mt numCs "__mul__" (fun x => if x = "Number" then d_Number___mul__ else d_MadeNumber___mul__) ?_ ?_ ?_
  · intro x hx
    simp only [numCs, List.mem_cons, List.not_mem_nil, or_false] at hx
    rcases hx with rfl | rfl
    · exact ⟨i_Number___mul__, rfl, rfl, q_cls_Number, q_meth_Number___mul__⟩
    · exact ⟨i_MadeNumber___mul__, rfl, rfl, q_cls_MadeNumber, q_meth_MadeNumber___mul__⟩
  · intro x hx
    simp only [numCs, List.mem_cons, List.not_mem_nil, or_false] at hx
    rcases hx with rfl | rfl
    · exact hb
    · exact hb
  · intro x hx f fd F
    simp only [numCs, List.mem_cons, List.not_mem_nil, or_false] at hx
    rcases hx with rfl | rfl
    · exact ok _ _ _ F
    · exact ok _ _ _ F
theorem mt_text (T : Tx fa fn ex K mg) {ps : List Str} {k : Nat} {sp : Sp} (hl : ps.length = 1) (hb : ∀ (kV doc pm : Value) (an : Option Addr) (cdv ct : Value) (us : List Value), us.length = ps.length → bindArgs (PySem.W.fnOf "text" "Number.text" (defArgs s_Number_text) (defBody s_Number_text) (defScope s_Number_text) .none kV doc pm an cdv ct) ⟨us, []⟩ = pure (ps.zip us))
    (ok : ∀ f fd kws, FunD K "text" "Number.text" (defArgs s_Number_text) (defBody s_Number_text) (defScope s_Number_text) [] kws f fd → FnOk P w K mg base CX0 k f fd ps sp) : MtG P w K mg base k (NamesC K numCs) "text" ps sp := by
  refine T.mt numCs "text" (fun x => if x = "Number" then d_Number_text else d_MadeNumber_text) ?_ ?_ ?_
  · intro x hx
    simp only [numCs, List.mem_cons, List.not_mem_nil, or_false] at hx
    rcases hx with rfl | rfl
    · exact ⟨i_Number_text, rfl, rfl, q_cls_Number, q_meth_Number_text⟩
    · exact ⟨i_MadeNumber_text, rfl, rfl, q_cls_MadeNumber, q_meth_MadeNumber_text⟩
  · intro x hx
    simp only [numCs, List.mem_cons, List.not_mem_nil, or_false] at hx
    rcases hx with rfl | rfl
    · exact hb
    · exact hb
  · intro x hx f fd F
    simp only [numCs, List.mem_cons, List.not_mem_nil, or_false] at hx
    rcases hx with rfl | rfl
    · exact ok _ _ _ F
    · exact ok _ _ _ F
theorem mt___repr__ (T : Tx fa fn ex K mg) {ps : List Str} {k : Nat} {sp : Sp} (hl : ps.length = 1) (hb : ∀ (kV doc pm : Value) (an : Option Addr) (cdv ct : Value) (us : List Value), us.length = ps.length → bindArgs (PySem.W.fnOf "__repr__" "Number.__repr__" (defArgs s_Number___repr__) (defBody s_Number___repr__) (defScope s_Number___repr__) .none kV doc pm an cdv ct) ⟨us, []⟩ = pure (ps.zip us))
    (ok : ∀ f fd kws, FunD K "__repr__" "Number.__repr__" (defArgs s_Number___repr__) (defBody s_Number___repr__) (defScope s_Number___repr__) [] kws f fd → FnOk P w K mg base CX0 k f fd ps sp) : MtG P w K mg base k (NamesC K numCs) "__repr__" ps sp := by
  refine T.mt numCs "__repr__" (fun x => if x = "Number" then d_Number___repr__ else d_MadeNumber___repr__) ?_ ?_ ?_
  · intro x hx
    simp only [numCs, List.mem_cons, List.not_mem_nil, or_false] at hx
    rcases hx with rfl | rfl
    · exact ⟨i_Number___repr__, rfl, rfl, q_cls_Number, q_meth_Number___repr__⟩
    · exact ⟨i_MadeNumber___repr__, rfl, rfl, q_cls_MadeNumber, q_meth_MadeNumber___repr__⟩
  · intro x hx
    simp only [numCs, List.mem_cons, List.not_mem_nil, or_false] at hx
    rcases hx with rfl | rfl
    · exact hb
    · exact hb
  · intro x hx f fd F
    simp only [numCs, List.mem_cons, List.not_mem_nil, or_false] at hx
    rcases hx with rfl | rfl
    · exact ok _ _ _ F
    · exact ok _ _ _ F
theorem sc_exponent : FnScope ["self", "prime"] ["self", "prime"] (defScope s_Number_exponent) := ⟨rfl, rfl, rfl, by decide +kernel, rfl, by decide +kernel, by decide +kernel⟩
theorem m_exponent (T : Tx fa fn ex K mg) : MtG P w K mg base 1 (NamesC K numCs) "exponent" ["self", "prime"] (spG (fun z : NK × Int => [numT K z.1, intT z.2]) fun z => intT (look z.1 z.2)) := by
  refine mt_exponent T rfl (fun _ _ _ _ _ _ us hl => match us, hl with | [_, _], _ => rfl) fun f fd kws F => ?_
  refine fn_G F sc_exponent (fun _ => rfl) fun z cdv Ar outer s H E hr nd D hD _ => ?_
  refine b_ret ((g_get2 (k := Sum.inl z.2) (y := .int 0) (hu_of hr) (g_fld (g_var 0) (fld_powers T)) (g_var 1) g_int ⟨rfl, rfl, rfl, rfl⟩).is ?_) hD
  rw [kvN_val]
theorem sc_primes : FnScope ["self"] ["self"] (defScope s_Number_primes) := ⟨rfl, rfl, rfl, by decide +kernel, rfl, by decide +kernel, by decide +kernel⟩
theorem m_primes (T : Tx fa fn ex K mg) : MtG P w K mg base 1 (NamesC K numCs) "primes" ["self"] (spG (fun z : NK => [numT K z]) fun z => lstT ((z.map (·.1)).map fun p => intT p)) := by
  refine mt_primes T rfl (fun _ _ _ _ _ _ us hl => match us, hl with | [_], _ => rfl) fun f fd kws F => ?_
  refine fn_G F sc_primes (fun _ => rfl) fun z cdv Ar outer s H E hr nd D hD _ => ?_
  refine b_ret ((g_listD (g_fld (g_var 0) (fld_powers T)) (T.free _ q_free_list)).is ?_) hD
  unfold kvN
  rw [List.map_map, List.map_map]
  rfl
def spMade : Sp := fun vs H Q _ => ∃ (p C dx : Addr) (v : V), vs = [.ref p, v] ∧ H p = some (.ins C dx []) ∧ NamesC K numCs C ∧ Q .non (upd H p (.ins C dx [("powers", v)]))
theorem sc_made : FnScope ["self", "table"] ["self", "table"] (defScope s_MadeNumber___init__) := ⟨rfl, rfl, rfl, by decide +kernel, rfl, by decide +kernel, by decide +kernel⟩
theorem ok_made (T : Tx fa fn ex K mg) {f : Addr} {fd : FuncData} {kws : List (Str × V)} (F : FunD K "__init__" "MadeNumber.__init__" (defArgs s_MadeNumber___init__) (defBody s_MadeNumber___init__) (defScope s_MadeNumber___init__) [] kws f fd) : FnOk P w K mg base CX0 1 f fd ["self", "table"] (spMade (K := K)) := by
  refine fn_sp F sc_made (fun vs H Q E h => ?_) fun cdv A outer s H vs Q E hr h => ?_
  · obtain ⟨p, C, dx, v, rfl, _⟩ := h
    rfl
  · obtain ⟨p, C, dx, v, rfl, hp, hC, q⟩ := h
    refine toB (pss_one (ps_fld (pv 0) (pv 1) rfl)) ?_
    exact ⟨v, rfl, _, rfl, p, C, dx, [], rfl, hp, (cls_num T hC).1, (cls_num T hC).2, by decide, q⟩
theorem mk_made (T : Tx fa fn ex K mg) : ∃ f fd, Mk K (He.ga K "MadeNumber") f ∧ FnOk P w K mg base CX0 1 f fd ["self", "table"] (spMade (K := K)) ∧ Binds K fd ["self", "table"] [] := by
  obtain ⟨fd, F⟩ := T.def_ d_MadeNumber___init__ i_MadeNumber___init__
  have M := He.mkr_ok (T.fact _ q_mkr_MadeNumber)
  have e0 : d_MadeNumber___init__.dvs K = [] := rfl
  rw [e0] at F
  exact ⟨_, fd, M, ok_made T F, F.bindsN fun _ _ _ _ _ _ us hl => match us, hl with | [_, _], _ => rfl⟩
theorem g_made (T : Tx fa fn ex K mg) {X : Cx} (hX : X.K = K ∧ X.mg = mg) {Γ : RL.Ctx} {e : Expr} {k : NK} {p pos : Pos} (he : G X Γ e (dicT (kvN k))) (hr : Room 2 X.A) (hg : Gl X "MadeNumber" := by rfl) (hs : starEach [e] X.env = (false, eval e X.env) :: starEach [] X.env := by rfl) :
    G X Γ (.Call (.Name "MadeNumber" p) [e] [] pos) (numT K k) := fun σ H t Q q => by
  obtain ⟨rfl, rfl⟩ := hX
  obtain ⟨f, fd, M, F, B⟩ := mk_made (P := X.prog) (w := X.w) (base := X.base) T
  refine toE (pe_make M F hr hg (T.glo _ q_glo_MadeNumber) B .nil pass0 (pa_cons (pe e) pa_nil hs) (he := hs)) (he σ H t _ fun v H1 e1 ⟨d, o, ev, hd⟩ => ?_)
  subst ev
  intro x dx nx ndx nex
  refine ⟨x, _, dx, .ref d, rfl, upd_same, ⟨_, by simp [numCs], rfl⟩, rfl, ?_⟩
  rw [upd_upd]
  refine q _ _ ?_ ⟨x, _, dx, d, o, rfl, upd_same, ⟨"MadeNumber", by simp [numCs], rfl⟩, ?_⟩
  · exact (e1.trans (Ex.new ndx)).trans (Ex.new (by rw [upd_ne (Ne.symm nex)]; exact nx))
  · rw [upd_ne (ne_of_none hd nx), upd_ne (ne_of_none hd ndx)]
    exact hd
theorem kept_norm (l : NK) : (((sortU (l.map (·.1))).map fun p => if 0 < look l p then some ((Sum.inl p, V.int (look l p)) : Key × V) else none).filterMap id) = kvN (normK l) := by
  unfold kvN normK
  induction sortU (l.map (·.1)) with
  | nil => rfl
  | cons p r ih =>
    by_cases c : 0 < look l p
    · simp only [List.map_cons, List.filterMap_cons, c, if_true, id]
      rw [ih]
    · simp only [List.map_cons, List.filterMap_cons, c, if_false, id]
      exact ih
theorem kvN_nodup {l : NK} (c : Canon l) : ((kvN l).map (·.1)).Nodup := by
  rw [kvN_keys]
  have : (l.map (·.1)).Nodup := c.nodup
  exact List.Pairwise.map _ (fun a b h z => h (Sum.inl.inj z)) this
theorem sc_number_of : FnScope ["table", "prime"] ["table"] (defScope s_number_of) := ⟨rfl, rfl, rfl, by decide +kernel, rfl, by decide +kernel, by decide +kernel⟩
abbrev TabK := { l : NK // (l.map (·.1)).Nodup ∧ l.length < 64 }
theorem f_number_of (T : Tx fa fn ex K mg) : FnG P w K mg base 3 "number_of" ["table"] (spG (fun z : TabK => [dicT (kvN z.1)]) fun z => numT K (normK z.1)) := by
  refine T.fn d_number_of i_number_of "number_of" rfl q_glo_number_of rfl (fun _ _ _ _ _ _ us hl => match us, hl with | [_], _ => rfl) fun f fd F => ?_
  refine fn_G F sc_number_of (fun _ => rfl) fun z cdv Ar outer s H E hr nd D hD _ => ?_
  obtain ⟨l, hnd, hlen⟩ := z
  refine b_ret (g_made T ⟨rfl, rfl⟩ ?_ hr) hD
  refine g_dc (Ts := (sortU (l.map (·.1))).map fun z => intT z) (own := [("prime", 1)]) (g := gName 1) ((sortU (l.map (·.1))).map fun p => if 0 < look l p then some ((Sum.inl p, V.int (look l p)) : Key × V) else none)
    ?_ ?_ ?_ ?_ ?_ ?_ own_name ?_ (by rw [kept_norm])
  · exact gi_list (g_sortedD (ks := l.map (·.1)) (g_var 0) (T.free _ q_free_sorted) (kvN_keys l) (by simpa using hlen) (sortU (l.map (·.1))) fun zs hp hs => sortU_perm hp hs hnd)
  · exact blkOk_by rfl
  · exact fun _ _ _ _ _ => pg_name (i := 1) nd rfl (Or.inl rfl)
  · simp
  · rw [List.length_map]
    refine Nat.le_trans (Nat.le_trans (sortU_len _) ?_) (by decide : 64 ≤ sizeLine)
    simpa using Nat.le_of_lt hlen
  · intro i Ty hT
    rw [List.getElem?_map] at hT
    cases hp : (sortU (l.map (·.1)))[i]? with
    | none => rw [hp] at hT; cases hT
    | some p =>
      rw [hp] at hT
      cases hT
      have hmem : p ∈ l.map (·.1) := sortU_mem.mp (List.mem_of_getElem? hp)
      refine ⟨_, tgt_name, ?_⟩
      by_cases c : 0 < look l p
      · refine .inr ⟨Sum.inl p, .int (look l p), by rw [List.getElem?_map, hp]; simp [c], gct_one fun s H C cl fp => ?_, fun s H C cl fp => g_var 1, fun s H C cl fp => ?_⟩
        · exact (gt_gt (g_ixd (k := Sum.inl p) (hu_of hr) (g_var 0) (g_var 1) (kvN_val' hmem)) g_int).is (by simpa using c)
        · exact g_ixd (k := Sum.inl p) (hu_of hr) (g_var 0) (g_var 1) (kvN_val' hmem)
      · refine .inl ⟨by rw [List.getElem?_map, hp]; simp [c], gct_one fun s H C cl fp => ?_⟩
        exact (gt_gt (g_ixd (k := Sum.inl p) (hu_of hr) (g_var 0) (g_var 1) (kvN_val' hmem)) g_int).is (by simpa using c)
  · rw [kept_norm]
    exact kvN_nodup (normK_canon l)
end
end K03

set_option Elab.async false
set_option linter.all false
set_option maxRecDepth 100000
set_option maxHeartbeats 8000000
namespace K03
open PySem PySem.Spec PyProof.Rows L2 RL NM StX
section
variable {P : Program} {w : World} {K : PySem.W.Frag} {mg : Str → Option Value} {base : Heap}
theorem small {n : Nat} (h : n < 64) : n ≤ sizeLine := Nat.le_trans (Nat.le_of_lt h) (by decide)
theorem keys_kvN (a : NK) : keysT (kvN a) = a.map fun q => intT q.1 := by
  unfold keysT kvN
  rw [List.map_map]
  rfl
theorem sc_pairs : FnScope ["self", "prime"] ["self"] (defScope s_Number_pairs) := ⟨rfl, rfl, rfl, by decide +kernel, rfl, by decide +kernel, by decide +kernel⟩
abbrev NC := { z : NK // Canon z ∧ z.length < 64 }
abbrev prT (K : PySem.W.Frag) (a : NK) : Ty := lstT (a.map fun q => tupT K [intT q.1, intT q.2])
theorem m_pairs (T : Tx fa fn ex K mg) : MtG P w K mg base 1 (NamesC K numCs) "pairs" ["self"] (spG (fun z : NC => [numT K z.1]) fun z => prT K z.1) := by
  refine mt_pairs T rfl (fun _ _ _ _ _ _ us hl => match us, hl with | [_], _ => rfl) fun f fd kws F => ?_
  refine fn_G F sc_pairs (fun _ => rfl) fun z cdv Ar outer s H E hr nd D hD _ => ?_
  obtain ⟨a, ca, hz⟩ := z
  refine b_ret ?_ hD
  refine g_lcM (i := 1) a (fun q => intT q.1) (fun q => tupT K [intT q.1, intT q.2]) ?_ (small hz) (fun q hq s H C cl fp => ?_)
  · rw [← keys_kvN]
    exact gi_keys (g_fld (g_var 0) (fld_powers T))
  · refine g_tup (ga_cons (g_var 1) (ga_cons ?_ ga_nil)) (hl := by show 2 ≤ sizeLine; decide)
    refine g_ixd (k := Sum.inl q.1) (hu_of hr) (g_fld (g_var 0) (fld_powers T)) (g_var 1) ?_
    rw [kvN_val' (List.mem_map_of_mem hq), look_mem ca.nodup hq]
def dK (a : NK) : PyData := .list (a.map fun q => .tuple [.int q.1, .int q.2])
theorem dK_is (a : NK) : IsDp K (prT K a) (dK a) := dp_lst (areDp_map a fun q _ => dp_tup (.cons dp_int (.cons dp_int .nil)))
theorem dK_eq : ∀ a b : NK, PyData.eqvAll (a.map fun q => .tuple [.int q.1, .int q.2]) (b.map fun q => .tuple [.int q.1, .int q.2]) = decide (a = b)
  | [], [] => by simp [PyData.eqvAll]
  | [], _ :: _ => by simp [PyData.eqvAll]
  | _ :: _, [] => by simp [PyData.eqvAll]
  | p :: a, q :: b => by
    rw [List.map_cons, List.map_cons, PyData.eqvAll, dK_eq a b]
    obtain ⟨p1, p2⟩ := p
    obtain ⟨q1, q2⟩ := q
    simp only [PyData.eqv, PyData.eqvAll, Bool.and_true]
    rw [Bool.eq_iff_iff]
    simp [and_assoc]
theorem dK_shaped (a : NK) : SeqAt.shaped (dK a) = true := by
  refine (lay_list (n := 1) fun d hd => ?_).shaped (by decide)
  obtain ⟨q, _, rfl⟩ := List.mem_map.mp hd
  refine lay_tup fun d hd => ?_
  simp only [List.mem_cons, List.not_mem_nil, or_false] at hd
  rcases hd with rfl | rfl <;> exact lay_int
theorem sc_eq : FnScope ["self", "other"] ["self", "other"] (defScope s_Number___eq__) := ⟨rfl, rfl, rfl, by decide +kernel, rfl, by decide +kernel, by decide +kernel⟩
abbrev NE := { z : NK × NK // (Canon z.1 ∧ z.1.length < 64) ∧ (Canon z.2 ∧ z.2.length < 64) }
theorem m_eq (T : Tx fa fn ex K mg) : MtG P w K mg base 2 (NamesC K numCs) "__eq__" ["self", "other"] (spG (fun z : NE => [numT K z.1.1, numT K z.1.2]) fun z => blT (decide (z.1.1 = z.1.2))) := by
  have FP : MtG P w K mg base 1 (NamesC K numCs) "pairs" ["self"] _ := m_pairs T
  have hisa : isaB K numCs "Number" = true := by
    have := T.c.2
    unfold ex at this
    simp only [Bool.and_eq_true] at this
    exact this.1.2
  refine mt___eq__ T rfl (fun _ _ _ _ _ _ us hl => match us, hl with | [_, _], _ => rfl) fun f fd kws F => ?_
  refine fn_G F sc_eq (fun _ => rfl) fun z cdv Ar outer s H E hr nd D hD _ => ?_
  obtain ⟨⟨a, b⟩, ha, hb⟩ := z
  refine b_ret ((g_and2 (k := true) (l := decide (a = b)) (g_isO (g_var 1) (fun v H h => isa_of hisa (num_any h)) (T.free _ q_free_isinstance) (T.glo _ q_glo_Number)) fun _ => ?_).is (by rw [Bool.true_and])) hD
  refine (g_eqD (d := dK a) (d' := dK b) (room64 hr) (g_meth0 FP hr ⟨a, ha⟩ (g_var 0) fun v H h => num_of (by decide +kernel) h) (g_meth0 FP hr ⟨b, hb⟩ (g_var 1) fun v H h => num_of (by decide +kernel) h) (dK_is a) (dK_is b) (dK_shaped a) (dK_shaped b)).is ?_
  show blT (PyData.eqvAll _ _) = _
  rw [dK_eq]
/-- an instance as it stands -/
def insT (a C dx : Addr) (fs : List (Str × V)) : RL.Ty := ⟨fun v H => v = .ref a ∧ H a = some (.ins C dx fs), fun e ⟨h1, h2⟩ => ⟨h1, e _ _ h2⟩⟩
instance (a C dx : Addr) (fs : List (Str × V)) : Stb (insT a C dx fs) := ⟨fun e ⟨h1, h2⟩ => ⟨h1, e _ _ (fun z => z) h2⟩⟩
theorem tup_ty {K : PySem.W.Frag} {Ts : List RL.Ty} {v : V} {H : Hp} (h : tupT K Ts v H) : TyX K H v (.type "tuple") := by
  obtain ⟨a, vs, rfl, hp, _⟩ := h
  rcases hp with h | ⟨o, h⟩ | h
  · exact .base (.tup h)
  · exact .fTuple h
  · rcases h (fun _ => none) with z | ⟨o, its, n, h1, h2, _⟩
    · rcases z with z | ⟨o, z⟩ <;> cases z
    · exact .kTuple h1 h2
abbrev pT (K : PySem.W.Frag) (q : Int × Int) : RL.Ty := tupT K [intT q.1, intT q.2]
/-- pairs that Number takes -/
structure PairsOk (l : NK) : Prop where
  asc : (l.map (·.1)).Pairwise (· < ·)
  pos : ∀ q ∈ l, 0 < q.2
  pr : ∀ q ∈ l, 0 < q.1 ∧ q.1 < 1000 ∧ isPB q.1 = true
  len : l.length < 64
theorem PairsOk.canon {l : NK} (h : PairsOk l) : Canon l := ⟨h.asc, h.pos⟩
def lastP (l : NK) : Int := (l.getLast?.map (·.1)).getD 0
theorem lastP_snoc (l : NK) (q : Int × Int) : lastP (l ++ [q]) = q.1 := by simp [lastP]
theorem take_lt {l : NK} (h : PairsOk l) {i : Nat} {q : Int × Int} (hq : l[i]? = some q) : ∀ p ∈ (l.take i).map (·.1), p < q.1 := fun p hp => by
  have hs : l.take i ++ l.drop i = l := List.take_append_drop i l
  have hd : q ∈ l.drop i := by
    have : (l.drop i)[0]? = some q := by rw [List.getElem?_drop]; simpa using hq
    exact List.mem_of_getElem? this
  have ha := h.asc
  rw [← hs, List.map_append] at ha
  exact (List.pairwise_append.mp ha).2.2 p hp q.1 (List.mem_map_of_mem hd)
theorem lastP_lt {l : NK} (h : PairsOk l) {i : Nat} {q : Int × Int} (hq : l[i]? = some q) : lastP (l.take i) < q.1 := by
  unfold lastP
  cases e : (l.take i).getLast? with
  | none => exact (h.pr q (List.mem_of_getElem? hq)).1
  | some z => exact take_lt h hq z.1 (List.mem_map_of_mem (List.mem_of_getLast? e))
theorem put_kvN {l : NK} {q : Int × Int} (h : q.1 ∉ l.map (·.1)) : putK (kvN l) (Sum.inl q.1) (.int q.2) = kvN (l ++ [q]) := by
  have hn : valV (kvN l) (Sum.inl q.1 : Key) = none := by
    cases e : valV (kvN l) (Sum.inl q.1 : Key) with
    | none => rfl
    | some z =>
      have hi := valV_in e
      rw [kvN_keys] at hi
      obtain ⟨p, hp, e2⟩ := List.mem_map.mp hi
      rw [← Sum.inl.inj e2] at h
      exact absurd hp h
  rw [putK_new _ hn]
  unfold kvN
  rw [List.map_append]
  rfl
def spInit (K : PySem.W.Frag) (l : NK) : Sp := fun vs H Q _ => ∃ (x C dx : Addr) (t : V), vs = [.ref x, t] ∧ H x = some (.ins C dx []) ∧ NamesC K numCs C ∧ tupT K (l.map (pT K)) t H ∧ ∀ H' d o, Ex H H' → H' d = some (.frz o (.dK (kvN l))) → Q .non (upd H' x (.ins C dx [("powers", .ref d)]))
theorem sc_init : FnScope ["self", "pairs", "found", "last", "index", "pair"] (([("self" : Str)]) ++ [("pairs" : Str)]) (defScope s_Number___init__) := ⟨rfl, rfl, rfl, by decide +kernel, rfl, by decide +kernel, by decide +kernel⟩
theorem init_body (T : Tx fa fn ex K mg) {l : NK} (hl : PairsOk l) {f : Addr} {cdv : Value} {A : Around} {outer : List Env} {s : Shared} {H : Hp} {Q : VK} {E : XK} {vs : List V} (hr : Room 2 (A.deeper (envOfC d_Number___init__.qual d_Number___init__.scope s.heap.objs.size f cdv))) (h : spInit K l vs H Q E) :
    tB (BX P w K mg base ["self", "pairs", "found", "last", "index", "pair"] d_Number___init__.qual d_Number___init__.scope f cdv A outer s H E) (defBody s_Number___init__) { nx := fun _ H' => Q .non H', rt := Q } (L2.start ["self", "pairs", "found", "last", "index", "pair"] vs) H := by
  have F1 : FnG P w K mg base 1 "is_integer" ["value"] _ := f_is_integer T
  have F2 : FnG P w K mg base 2 "is_known_prime" ["value"] _ := f_is_known_prime T
  obtain ⟨x, C, dx, t, rfl, hx, hC, ht, q⟩ := h
  have nd : (BX P w K mg base ["self", "pairs", "found", "last", "index", "pair"] d_Number___init__.qual d_Number___init__.scope f cdv A outer s H E).N.Nodup := by
    show List.Nodup [_, _, _, _, _, _]
    decide +kernel
  have t0 : Typed (L2.start ["self", "pairs", "found", "last", "index", "pair"] [.ref x, t]) (ctx0 ["self", "pairs", "found", "last", "index", "pair"] [insT x C dx [], tupT K (l.map (pT K))]) H := typed0 ⟨⟨rfl, hx⟩, ht, trivial⟩
  suffices hb : Bd (BX P w K mg base ["self", "pairs", "found", "last", "index", "pair"] d_Number___init__.qual d_Number___init__.scope f cdv A outer s H E) (ctx0 ["self", "pairs", "found", "last", "index", "pair"] [insT x C dx [], tupT K (l.map (pT K))]) (defBody s_Number___init__) (Bs.of H) { nx := fun _ H' => Q .non H', rt := Q } from hb _ _ (Bs.refl H) t0
  refine b_newD 2 fun a ha => ?_
  refine b_asg 3 g_int ?_
  refine b_for (g := gTup K 2 (gCons (gName 4) (gCons (gName 5) gNil))) (fun i Δ => ∃ u v, Δ = [some (insT x C dx []), some (tupT K (l.map (pT K))), some (mdT a (kvN (l.take i))), some (intT (lastP (l.take i))), u, v]) (gi_enumT (g_var 1) (T.free _ q_free_enumerate)) (pg_tup rfl (pgs_cons (pg_name nd rfl (Or.inl rfl)) (pgs_cons (pg_name nd rfl (Or.inl rfl)) pgs_nil))) ⟨none, none, by simp [kvN, lastP]; rfl⟩ (fun H1 i T1 Δ b1 hT hΔ => ?_) fun Δ hΔ => ?_
  · have hi : ∃ q, l[i]? = some q ∧ T1 = tupT K [intT (i : Nat), pT K q] := by
      cases hq : l[i]? with
      | none =>
        have hn : (enumT K (l.map (pT K)))[i]? = none := by
          rw [List.getElem?_eq_none_iff, enumT_len, List.length_map]
          exact List.getElem?_eq_none_iff.mp hq
        have hT' : (enumT K (l.map (pT K)))[i]? = some T1 := hT
        rw [hn] at hT'
        cases hT'
      | some q =>
        refine ⟨q, rfl, ?_⟩
        have hs := enumT_get (K := K) (Ts := l.map (pT K)) (i := i) (T := pT K q) (by rw [List.getElem?_map, hq]; rfl)
        have hT' : (enumT K (l.map (pT K)))[i]? = some T1 := hT
        rw [hs] at hT'
        exact (Option.some.inj hT').symm
    obtain ⟨q, hq, rfl⟩ := hi
    obtain ⟨u, v, rfl⟩ := hΔ
    have hmem : q ∈ l := List.mem_of_getElem? hq
    obtain ⟨p0, p1, p2⟩ := hl.pr q hmem
    have hpos := hl.pos q hmem
    have hlast := lastP_lt hl hq
    have htake : l.take (i + 1) = l.take i ++ [q] := by rw [List.take_succ, hq]; rfl
    refine ⟨_, tgts2, ?_⟩
    have hr1 := hr.mono (j := 1) (by decide)
    refine b_if ((gt_or4 (k := false) (l := false) (n := false) (r := false) ?_ (fun _ => ?_) (fun _ _ => ?_) (fun _ _ _ => ?_)).is (b' := false) rfl) (fun h => by cases h) fun _ => b_nil fun σ H2 e2 t2 => Bd.nx ?_ σ H2 e2 t2
    · exact (gt_not (gt_bl (g_isi (v := .non) (n := "tuple") (r := true) (g_var 5) (fun v H h => tup_ty h) (T.free _ q_free_isinstance) (T.free _ q_free_tuple) (n' := "tuple") (by decide +kernel) (by decide +kernel)))).is rfl
    · exact (gt_neI (g_lenT (g_var 5) (T.free _ q_free_len)) g_int).is rfl
    · refine (gt_not (gt_bl (g_call F2 hr q.1 (ga_cons (g_ixT (T := intT q.1) (g_var 5) g_int) ga_nil)))).is ?_
      simp [p1, p2]
    · exact (gt_le (g_ixT (T := intT q.1) (g_var 5) g_int) (g_var 3)).is (by simpa using hlast)
    refine b_if ((gt_or2 (k := false) (l := false) ?_ (fun _ => ?_)).is (b' := false) rfl) (fun h => by cases h) fun _ => b_nil fun σ H2 e2 t2 => Bd.nx ?_ σ H2 e2 t2
    · exact (gt_not (gt_bl (g_call F1 hr1 q.2 (ga_cons (g_ixT (T := intT q.2) (g_var 5) g_int) ga_nil)))).is rfl
    · exact (gt_lt (g_ixT (T := intT q.2) (g_var 5) g_int) g_int).is (by simp; omega)
    refine b_asg 3 (g_ixT (T := intT q.1) (g_var 5) g_int) ?_
    refine b_dput 2 (kk := Sum.inl q.1) (v := .int q.2) (by exact rfl) (by exact g_var 3) (by exact g_ixT (T := intT q.2) (g_var 5) g_int) (by exact ha) ?_ (by repeat (first | exact stbC_nil | refine stbC_none ?_ | refine stbC_some inferInstance ?_)) (by exact hu_of hr) ?_
    · unfold kvN
      rw [List.length_map, List.length_take]
      exact Nat.lt_of_le_of_lt (Nat.min_le_right _ _) (Nat.lt_trans hl.len (by decide))
    refine turn_nx ⟨some (intT (i : Nat)), some (pT K q), ?_⟩
    rw [htake, lastP_snoc, put_kvN ?_]
    · rfl
    · intro hm
      exact absurd (take_lt hl hq _ hm) (by omega)
  · obtain ⟨u, v, rfl⟩ := hΔ
    have e : (enumT K (l.map (pT K))).length = l.length := by rw [enumT_len, List.length_map]
    have e2 : l.take (enumT K (l.map (pT K))).length = l := by rw [e, List.take_length]
    show Bd _ [_, _, some (mdT a (kvN (l.take (enumT K (l.map (pT K))).length))), some (intT (lastP (l.take (enumT K (l.map (pT K))).length))), u, v] _ _ _
    rw [e2]
    refine b_weak (Δ := [some (insT x C dx []), some (tupT K (l.map (pT K))), some (mdT a (kvN l)), none, none, none]) ?_ fun σ H1 t1 => ((t1.drop 3).drop 4).drop 5
    refine b_frzD 2 rfl ha (by repeat (first | exact stbC_nil | refine stbC_none ?_ | refine stbC_some inferInstance ?_)) ?_
    refine fun σ H1 e1 t1 => toB (pss_one (ps_fld (pv 0) (pv 2) rfl)) ?_
    obtain ⟨v1, h1, d, o, ev, hd⟩ := t1.get 2 rfl
    obtain ⟨v0, h0, ev0, hx1⟩ := t1.get 0 rfl
    subst ev; subst ev0
    exact ⟨_, h1, _, h0, x, C, dx, [], rfl, hx1, (cls_num T hC).1, (cls_num T hC).2, by decide, q H1 d o e1.1 hd⟩
theorem r_init (T : Tx fa fn ex K mg) {l : NK} (hl : PairsOk l) : ∃ f, Mk K (He.ga K "Number") f ∧ FnR P w K mg base CX0 3 f (fun vs H Q E => ∃ (x C dx : Addr) (ts : List V), vs = .ref x :: ts ∧ H x = some (.ins C dx []) ∧ NamesC K numCs C ∧ All2 (l.map (pT K)) ts H ∧ ∀ H' d o, Ex H H' → H' d = some (.frz o (.dK (kvN l))) → Q .non (upd H' x (.ins C dx [("powers", .ref d)]))) := by
  obtain ⟨fd, F⟩ := T.def_ d_Number___init__ i_Number___init__
  have M := He.mkr_ok (T.fact _ q_mkr_Number)
  obtain ⟨oc, od, dV, kV, doc, pm, an, cdv, ct, osl, efd, lk, hcd, hD, _⟩ := F.ex
  subst efd
  rcases hD with ⟨_, rfl⟩ | ⟨e, _⟩
  rotate_left
  · exact absurd rfl e
  refine ⟨_, M, FnR.imp (fn_star (ps := ["self"]) (pv := "pairs") (sp := spInit K l) lk hcd sc_init (fun _ _ _ _ _ _ _ _ _ _ _ z => z) (fun us rest hl => match us, rest, hl with | [a], [], _ => rfl | [a], r :: rs, _ => rfl) fun A outer s H vs Q E hr hsp => ⟨_, (pb _).nox, init_body T hl hr hsp⟩) fun vs H Q E h => ?_⟩
  obtain ⟨x, C, dx, ts, rfl, hx, hC, h2, q⟩ := h
  refine ⟨[.ref x], ts, rfl, rfl, ?_, fun p hp => ⟨x, C, dx, .ref p, rfl, ?_, hC, ⟨p, ts, rfl, .inl upd_same, h2.up (Ex.new hp)⟩, fun H' d o e hd => q H' d o ((Ex.new hp).trans e) hd⟩⟩
  · rw [← h2.len, List.length_map]
    exact small hl.len
  · rw [upd_ne (ne_of_none hx hp)]
    exact hx
/-- what a Number that was just made is -/
theorem num_made {l : NK} {H1 H' : Hp} {x dx d : Addr} {o : Obj} (nx : H1 x = none) (ndx : H1 dx = none) (nex : dx ≠ x) (hC : NamesC K numCs (He.ga K "Number")) (e : Ex (upd (upd H1 dx (.own x)) x (.ins (He.ga K "Number") dx [])) H') (hd : H' d = some (.frz o (.dK (kvN l)))) :
    Ex H1 (upd H' x (.ins (He.ga K "Number") dx [("powers", .ref d)])) ∧ numT K l (.ref x) (upd H' x (.ins (He.ga K "Number") dx [("powers", .ref d)])) := by
  have e1 : Ex H1 (upd (upd H1 dx (.own x)) x (.ins (He.ga K "Number") dx [])) := (Ex.new ndx).trans (Ex.new (by rw [upd_ne (Ne.symm nex)]; exact nx))
  refine ⟨(e1.trans e).put nx (e _ _ upd_same) ⟨trivial, fun q z => (by cases z)⟩, x, _, dx, d, o, rfl, upd_same, hC, ?_⟩
  have hx : H' x = some (.ins (He.ga K "Number") dx []) := e _ _ upd_same
  rw [upd_ne (ne_of hd hx (by intro z; cases z))]
  exact hd
theorem pairsOk_nil : PairsOk [] := ⟨.nil, fun q h => by simp at h, fun q h => by simp at h, by decide⟩
theorem g_number0 (T : Tx fa fn ex K mg) {X : Cx} (hX : X.K = K ∧ X.mg = mg) {Γ : RL.Ctx} {p pos : Pos} (hr : Room 4 X.A) (hg : Gl X "Number" := by rfl) (hdb : (("Number" : Str) == ("__debug__" : Str)) = false := by decide) : G X Γ (.Call (.Name "Number" p) [] [] pos) (numT K []) := fun σ H t Q k => by
  refine ⟨fun pins s I => ?_⟩
  obtain ⟨rfl, rfl⟩ := hX
  obtain ⟨f, M, F⟩ := r_init (P := X.prog) (w := X.w) (base := X.base) T pairsOk_nil
  refine wpAny_Call_Name_kw (ld_glob I hg (T.glo _ q_glo_Number) ?_ hdb)
  exact PySem.W.callWith_K0 I.kIn M.kp (StX.run_makeR (us := []) (vs := []) M F hr pass0 I .nil fun x dx nx ndx nex =>
    ⟨x, _, dx, [], rfl, upd_same, ⟨_, by simp [numCs], rfl⟩, trivial, fun H' d o e3 hd => ⟨rfl, by
      obtain ⟨h1, h2⟩ := num_made nx ndx nex ⟨"Number", by simp [numCs], rfl⟩ e3 hd
      exact k _ _ h1 h2⟩⟩)
theorem fam (T : Tx fa fn ex K mg) : Fam K (NamesC K numCs) := fam_of (by
  have := T.c.2
  unfold ex at this
  simp only [Bool.and_eq_true] at this
  exact this.1.1.1)
section
variable {X : Cx} {Γ : RL.Ctx} {a b : Expr} {pos : Pos} {x y : NK}
def CmpN (x : NK) : Prop := Canon x ∧ x.length < 64
theorem g_eqN (T : Tx fa fn ex K mg) (hX : X.K = K ∧ X.mg = mg) (hr : Room 2 X.A) (hx : CmpN x) (hy : CmpN y) (ha : G X Γ a (numT K x)) (hb : G X Γ b (numT K y)) : G X Γ (.Compare a [.Eq] [b] pos) (blT (decide (x = y))) := by
  obtain ⟨rfl, rfl⟩ := hX
  have F : MtG X.prog X.w X.K X.mg X.base 2 (NamesC X.K numCs) "__eq__" ["self", "other"] _ := m_eq T
  refine g_cmp (op_ownE (fam T) F hr) ha hb (fun v w H hv hw Q q => ⟨num_any hv, num_any hw, ⟨⟨(x, y), hx, hy⟩, ⟨hv, hw, trivial⟩, q⟩, ⟨⟨(y, x), hy, hx⟩, ⟨hw, hv, trivial⟩, fun v' H' e h => q _ _ e ?_⟩⟩) (nomark _)
  have h' : v' = V.bl (decide (y = x)) := h
  rw [h']
  show V.bl _ = V.bl _
  by_cases h : x = y
  · subst h; simp
  · have h' : ¬ y = x := fun z => h z.symm
    simp [h, h']
end
end
end K03

set_option Elab.async false
set_option linter.all false
set_option maxRecDepth 100000
set_option maxHeartbeats 8000000
namespace K03
open PySem PySem.Spec PyProof.Rows L2 RL NM StX
section
variable {P : Program} {w : World} {K : PySem.W.Frag} {mg : Str → Option Value} {base : Heap}
theorem sc_joined : FnScope ["self", "other"] ["self", "other"] (defScope s_Number_joined) := ⟨rfl, rfl, rfl, by decide +kernel, rfl, by decide +kernel, by decide +kernel⟩
abbrev N2 := { z : NK × NK // z.1.length + z.2.length < 64 }
theorem m_joined (T : Tx fa fn ex K mg) : MtG P w K mg base 2 (NamesC K numCs) "joined" ["self", "other"] (spG (fun z : N2 => [numT K z.1.1, numT K z.1.2]) fun z => lstT ((joinK z.1.1 z.1.2).map fun p => intT p)) := by
  have F1 : MtG P w K mg base 1 (NamesC K numCs) "primes" ["self"] _ := m_primes T
  refine mt_joined T rfl (fun _ _ _ _ _ _ us hl => match us, hl with | [_, _], _ => rfl) fun f fd kws F => ?_
  refine fn_G F sc_joined (fun _ => rfl) fun z cdv Ar outer s H E hr nd D hD _ => ?_
  obtain ⟨⟨a, b⟩, hz⟩ := z
  have hz' : a.length + b.length < 64 := hz
  refine b_ret (g_sortedSet (ns := a.map (·.1) ++ b.map (·.1)) ?_ (T.free _ q_free_sorted) (T.free _ q_free_set) (by simp; omega)) hD
  refine (g_cat (g_meth0 F1 hr a (g_var 0) fun v H h => num_of (by decide +kernel) h) (g_meth0 F1 hr b (g_var 1) fun v H h => num_of (by decide +kernel) h) (by simp; exact Nat.le_trans (Nat.le_of_lt hz') (by decide))).is ?_
  rw [List.map_append]
theorem inl_nodup {ks : List Int} (h : ks.Nodup) : (ks.map (Sum.inl : Int → Key)).Nodup := List.Pairwise.map _ (fun a b h z => h (Sum.inl.inj z)) h
theorem joinK_nodup (a b : NK) : (joinK a b).Nodup := nodup_of_lt (sortU_pw _)
theorem joinK_len (a b : NK) : (joinK a b).length ≤ a.length + b.length := by
  have := sortU_len (a.map (·.1) ++ b.map (·.1))
  rw [List.length_append, List.length_map, List.length_map] at this
  exact this
theorem tab_nodup {ks : List Int} (h : ks.Nodup) (f : Int → Int) : ((ks.map fun p => ((p, f p) : Int × Int)).map (·.1)).Nodup := by
  rw [List.map_map]
  have e : ((fun q : Int × Int => q.1) ∘ fun p => ((p, f p) : Int × Int)) = id := rfl
  rw [e, List.map_id]
  exact h
theorem tab_kv (ks : List Int) (f : Int → Int) : (ks.map fun p => ((Sum.inl p, V.int (f p)) : Key × V)) = kvN (ks.map fun p => (p, f p)) := by
  unfold kvN
  rw [List.map_map]
  rfl
theorem sc_mul : FnScope ["self", "other", "prime"] ["self", "other"] (defScope s_Number___mul__) := ⟨rfl, rfl, rfl, by decide +kernel, rfl, by decide +kernel, by decide +kernel⟩
abbrev f_mul : Int → Int → Int := fun i j => i + j
theorem m_mul (T : Tx fa fn ex K mg) : MtG P w K mg base 4 (NamesC K numCs) "__mul__" ["self", "other"] (spG (fun z : N2 => [numT K z.1.1, numT K z.1.2]) fun z => numT K (opK f_mul z.1.1 z.1.2)) := by
  have FE : MtG P w K mg base 1 (NamesC K numCs) "exponent" ["self", "prime"] _ := m_exponent T
  have FJ : MtG P w K mg base 2 (NamesC K numCs) "joined" ["self", "other"] _ := m_joined T
  have FN : FnG P w K mg base 3 "number_of" ["table"] _ := f_number_of T
  refine mt___mul__ T rfl (fun _ _ _ _ _ _ us hl => match us, hl with | [_, _], _ => rfl) fun f fd kws F => ?_
  refine fn_G F sc_mul (fun _ => rfl) fun z cdv Ar outer s H E hr nd D hD _ => ?_
  obtain ⟨⟨a, b⟩, hz⟩ := z
  have hz' : a.length + b.length < 64 := hz
  have hj : (joinK a b).length < 64 := Nat.lt_of_le_of_lt (joinK_len a b) hz'
  refine b_ret (g_call FN hr ⟨(joinK a b).map fun p => (p, f_mul (look a p) (look b p)), tab_nodup (joinK_nodup a b) _, by rw [List.length_map]; exact hj⟩ (ga_cons ?_ ga_nil)) hD
  refine g_dcM (i := 2) (joinK a b) (fun p => intT p) (fun p => Sum.inl p) (fun p => .int (f_mul (look a p) (look b p))) ?_ (small hj) (inl_nodup (joinK_nodup a b)) (fun p hp s H C cl fp => g_var 2) (fun p hp s H C cl fp => ?_) (by rw [tab_kv])
  · exact gi_list (g_meth FJ (hr.mono (by decide)) ⟨(a, b), hz⟩ (g_var 0) (ga_cons (g_var 1) ga_nil) fun v H h => num_of (by decide +kernel) h)
  · have hr1 := hr.mono (j := 1) (by decide)
    exact g_add (g_meth FE hr1 (a, p) (g_var 0) (ga_cons (g_var 2) ga_nil) fun v H h => num_of (by decide +kernel) h) (g_meth FE hr1 (b, p) (g_var 1) (ga_cons (g_var 2) ga_nil) fun v H h => num_of (by decide +kernel) h)
theorem exs0 (T : Tx fa fn ex K mg) : famB K numCs = true ∧ (∀ x ∈ numCs, (lacksB K (He.ga K x) "__rmul__" = true ∧ lacksB K (He.ga K x) "__rand__" = true) ∧ rorsB K (He.ga K x) = true) := by
  have := T.c.2
  unfold ex moreB opsB at this
  simp only [Bool.and_eq_true, List.all_eq_true] at this
  exact ⟨this.1.1.1, fun x hx => this.1.1.2.1 x hx⟩
theorem exs (T : Tx fa fn ex K mg) : famB K numCs = true ∧ (∀ x ∈ numCs, lacksB K (He.ga K x) "__rmul__" = true ∧ lacksB K (He.ga K x) "__rand__" = true) := ⟨(exs0 T).1, fun x hx => ((exs0 T).2 x hx).1⟩
theorem exr (T : Tx fa fn ex K mg) : ∀ x ∈ numCs, rorsB K (He.ga K x) = true := fun x hx => ((exs0 T).2 x hx).2
section
variable {X : Cx} {Γ : RL.Ctx} {a b : Expr} {pos : Pos} {x y : NK}
theorem g_mulN (T : Tx fa fn ex K mg) (hX : X.K = K ∧ X.mg = mg) (hr : Room 4 X.A) (hz : x.length + y.length < 64) (ha : G X Γ a (numT K x)) (hb : G X Γ b (numT K y)) : G X Γ (.BinOp a .Mult b pos) (numT K (opK f_mul x y)) := by
  obtain ⟨rfl, rfl⟩ := hX
  have F : MtG X.prog X.w X.K X.mg X.base 4 (NamesC X.K numCs) "__mul__" ["self", "other"] _ := m_mul T
  refine g_op (op_ownB (op := .Mult) (fam T) F hr (by rintro D ⟨z, hz, rfl⟩; exact lacks_of ((exs T).2 z hz).1)) ha hb fun v w H hv hw Q q => ⟨num_any hv, num_any hw, ⟨(x, y), hz⟩, ⟨hv, hw, trivial⟩, q⟩
theorem gt_neN (T : Tx fa fn ex K mg) (hX : X.K = K ∧ X.mg = mg) (hr : Room 3 X.A) (hx : CmpN x) (hy : CmpN y) (ha : G X Γ a (numT K x)) (hb : G X Γ b (numT K y)) : GT X Γ (.Compare a [.NotEq] [b] pos) (decide (x ≠ y)) := by
  obtain ⟨rfl, rfl⟩ := hX
  have F : MtG X.prog X.w X.K X.mg X.base 2 (NamesC X.K numCs) "__eq__" ["self", "other"] _ := m_eq T
  refine gt_cmp (op_ownN (fam T) F hr) ha hb (fun v w H hv hw Q q => ⟨num_any hv, num_any hw, ⟨⟨(x, y), hx, hy⟩, ⟨hv, hw, trivial⟩, fun v' H' e h => ⟨_, h, q _ _ e ?_⟩⟩, ⟨⟨(y, x), hy, hx⟩, ⟨hw, hv, trivial⟩, fun v' H' e h => ⟨_, h, q _ _ e ?_⟩⟩⟩) (nomark _)
  · show V.bl _ = V.bl _
    by_cases h : x = y <;> simp [h]
  · show V.bl _ = V.bl _
    by_cases h : x = y
    · subst h; simp
    · have h' : ¬ y = x := fun z => h z.symm
      simp [h, h']
end
end
end K03

set_option Elab.async false
set_option linter.all false
set_option maxRecDepth 100000
set_option maxHeartbeats 8000000
namespace K03
open PySem PySem.Spec PyProof.Rows L2 RL NM StX
section
variable {P : Program} {w : World} {K : PySem.W.Frag} {mg : Str → Option Value} {base : Heap}
theorem normK_len (l : NK) : (normK l).length ≤ l.length := by
  unfold normK
  refine Nat.le_trans (List.length_filterMap_le _ _) (Nat.le_trans (sortU_len _) ?_)
  rw [List.length_map]
  exact Nat.le_refl _
theorem opK_len (f : Int → Int → Int) (a b : NK) : (opK f a b).length ≤ a.length + b.length := by
  unfold opK
  refine Nat.le_trans (normK_len _) ?_
  rw [List.length_map]
  exact joinK_len a b
def prodK (zs : List NK) : NK := zs.foldl (opK f_mul) []
theorem prodK_snoc (zs : List NK) (z : NK) : prodK (zs ++ [z]) = opK f_mul (prodK zs) z := by simp [prodK]
theorem prodK_len (zs : List NK) : (prodK zs).length ≤ (zs.map List.length).sum := by
  have h : ∀ (zs : List NK) (a : NK), (zs.foldl (opK f_mul) a).length ≤ a.length + (zs.map List.length).sum := by
    intro zs
    induction zs with
    | nil => intro a; simp
    | cons z zs ih =>
      intro a
      rw [List.foldl_cons, List.map_cons, List.sum_cons]
      have h1 := ih (opK f_mul a z)
      have h2 := opK_len f_mul a z
      omega
  have := h zs []
  simpa [prodK] using this
end
end K03

set_option Elab.async false
set_option linter.all false
set_option maxRecDepth 100000
set_option maxHeartbeats 8000000
namespace K03
open PySem PySem.Spec PyProof.Rows L2 RL NM StX
/-! plain laws of numbers -/
section
variable {a b c : NK}
theorem look_mul (ca : Canon a) (cb : Canon b) (p : Int) : look (opK f_mul a b) p = look a p + look b p := opK_look (f := f_mul) rfl (fun p => by
  have := ca.nonneg p
  have := cb.nonneg p
  show 0 ≤ look a p + look b p
  omega) p
theorem mul_comm' (ca : Canon a) (cb : Canon b) : opK f_mul a b = opK f_mul b a := canon_ext (opK_canon _ _ _) (opK_canon _ _ _) fun p => by rw [look_mul ca cb, look_mul cb ca]; omega
theorem canon_nil : Canon [] := ⟨.nil, fun q h => by simp at h⟩
theorem mul_nil (ca : Canon a) : opK f_mul a [] = a := canon_ext (opK_canon _ _ _) ca fun p => by rw [look_mul ca canon_nil]; show look a p + 0 = look a p; omega
theorem nil_mul (ca : Canon a) : opK f_mul [] a = a := by rw [mul_comm' canon_nil ca, mul_nil ca]
/-- an exponent of a number is what it is looked up as -/
theorem look_append (l r : NK) (p : Int) : look (l ++ r) p = if p ∈ l.map (·.1) then look l p else look r p := by
  induction l with
  | nil => simp
  | cons q l ih =>
    rw [List.cons_append, look_cons, look_cons, ih, List.map_cons]
    by_cases h : q.1 = p
    · rw [if_pos h, if_pos (by rw [h]; exact List.mem_cons_self), if_pos h]
    · have h' : ¬ p = q.1 := fun e => h e.symm
      rw [if_neg h]
      simp only [List.mem_cons, h', false_or, if_neg h]
theorem opK_snoc {l : NK} {q : Int × Int} (cl : Canon l) (cq : Canon [q]) (c : Canon (l ++ [q])) : opK f_mul l [q] = l ++ [q] := canon_ext (opK_canon _ _ _) c fun p => by
  rw [look_mul cl cq, look_append]
  by_cases m : p ∈ l.map (·.1)
  · rw [if_pos m]
    have : p ≠ q.1 := fun e => by
      have nd := c.nodup
      rw [List.map_append, List.nodup_append] at nd
      exact nd.2.2 p m q.1 (by simp) e
    rw [look_cons, if_neg (fun e => this e.symm)]
    show look l p + 0 = _
    omega
  · rw [if_neg m, look_none m]
    omega
end
end K03

set_option Elab.async false
set_option linter.all false
set_option maxRecDepth 100000
set_option maxHeartbeats 1000000
namespace K03
open PySem PySem.Spec PyProof.Rows L2 RL StX
section
variable {P : Program} {w : World} {K : PySem.W.Frag} {mg : Str → Option Value} {base : Heap}
/-- a choice below -/
abbrev Below (n : Int) := { r : Int // 0 ≤ r ∧ r < n }
abbrev choT (n : Int) : RL.Ty := exT fun r : Below n => intT r.1
abbrev Many := { n : Int // 0 < n ∧ n < 2 ^ 100 }
theorem sc_take : FnScope ["_law_bag_here", "_law_many", "_law_cell", "_law_mixed", "_law_found"] ["_law_bag_here", "_law_many"] (defScope s__law_take) := ⟨rfl, rfl, rfl, by decide +kernel, rfl, by decide +kernel, by decide +kernel⟩
theorem mod_lt {a : Int} {n : Int} (h : 0 < n) : 0 ≤ a % n ∧ a % n < n := ⟨Int.emod_nonneg _ (by omega), Int.emod_lt_of_pos _ h⟩
theorem bag_list {b row : Addr} {cells : List Int} {z : BagS} {v : V} {H : Hp} (h : mlT b (bagTs row cells z) v H) : H b = some (bagL row z) := by
  obtain ⟨_, vs, hb, h2⟩ := h
  obtain ⟨v0, v1, v2, v3, rfl, ⟨h0, _⟩, h1, h2, h3⟩ := all2_4 h2
  have h1' : v1 = V.int z.i := h1
  have h2' : v2 = V.int z.c := h2
  have h3' : v3 = V.int z.m := h3
  subst h0; subst h1'; subst h2'; subst h3'
  exact hb
/-- what is chosen, the bag closed behind it -/
theorem b_chosen {X : Cx} {Γ : RL.Ctx} {e : Expr} {b row : Addr} {cells : List Int} {z : BagS} {n r : Int} {H : Hp} {B : Bs} {D : Ends} {rest : List Stmt} {pos : Pos} {Q : VK} (hB : B.e = hide b H) (hb : H b = some (bagH b row)) (hz : z.ok) (h0 : Γ[0]? = some (some (mlT b (bagTs row cells z))))
    (he : G X Γ e (intT r)) (hr : 0 ≤ r ∧ r < n) (hD : D.rt = Q) (q : ∀ v H', Ex H H' → choT n v H' → Q v H') : Bd X Γ (.Return (some e) pos :: rest) B D :=
  b_retR he fun σ v H' ok t hv => by
    obtain ⟨v0, _, hv0⟩ := t.get 0 h0
    refine ⟨b, _, bagH b row, bag_list hv0, ⟨trivial, bag_close hz⟩, ?_⟩
    rw [hD]
    exact q _ _ (unhide (by rw [← hB]; exact ok.1) hb (bag_list hv0)) ⟨⟨r, hr⟩, hv⟩
theorem f_take (T : Tx fa fn ex K mg) : FnG P w K mg base 1 "_law_take" ["_law_bag_here", "_law_many"] (spG (fun n : Many => [bagT, intT n.1]) fun n => choT n.1) := by
  refine T.fn d__law_take i__law_take "_law_take" rfl q_glo__law_take rfl (fun _ _ _ _ _ _ us hl => match us, hl with | [_, _], _ => rfl) fun f fd F => ?_
  refine fn_sp F sc_take (fun vs H Q E ⟨a, h2, _⟩ => h2.len.symm) fun cdv Ar outer s H vs Q E hr ⟨n, h2, q⟩ => ?_
  have nd : (BX P w K mg base ["_law_bag_here", "_law_many", "_law_cell", "_law_mixed", "_law_found"] d__law_take.qual d__law_take.scope f cdv Ar outer s H E).N.Nodup := by
    show List.Nodup [_, _, _, _, _]
    decide +kernel
  obtain ⟨n, hn0, hn1⟩ := n
  obtain ⟨v, y, rfl, ⟨b, row, cells, ev, hb, hrow⟩, hy⟩ := all2_2 h2
  · skip
    have hy' : y = V.int n := hy
    subst ev; subst hy'
    refine tB_open (u := fun z : { z : BagS // z.ok } => bagL row z.1) hb bag_open fun z => ?_
    obtain ⟨z, hz⟩ := z
    have hne : row ≠ b := fun e => by
      obtain ⟨o, h⟩ := hrow
      rw [e, hb] at h; cases h
    have t0 : Typed (L2.start ["_law_bag_here", "_law_many", "_law_cell", "_law_mixed", "_law_found"] [.ref b, .int n]) (ctx0 ["_law_bag_here", "_law_many", "_law_cell", "_law_mixed", "_law_found"] [mlT b (bagTs row cells z), intT n]) (upd H b (bagL row z)) :=
      typed0 ⟨⟨rfl, _, upd_same, ⟨⟨rfl, by obtain ⟨o, h⟩ := hrow; exact ⟨o, by rw [upd_ne hne]; exact h⟩⟩, rfl, rfl, rfl, trivial⟩⟩, rfl, trivial⟩
    suffices hB : Bd (BX P w K mg base ["_law_bag_here", "_law_many", "_law_cell", "_law_mixed", "_law_found"] d__law_take.qual d__law_take.scope f cdv Ar outer s H E) (ctx0 ["_law_bag_here", "_law_many", "_law_cell", "_law_mixed", "_law_found"] [mlT b (bagTs row cells z), intT n]) (defBody s__law_take) ⟨hide b H, upd H b (bagL row z)⟩ { nx := fun _ H' => Q .non H', rt := Q } from hB _ _ ⟨hide_ex, Le.refl _⟩ t0
    have hint := T.free _ q_free_int
    have hlen := T.free _ q_free_len
    have he : (⟨hide b H, upd H b (bagL row z)⟩ : Bs).e b = none := hide_none
    generalize hB : (⟨hide b H, upd H b (bagL row z)⟩ : Bs) = B at he
    have hBe : B.e = hide b H := by rw [← hB]
    -- behind the first if
    have fin : ∀ z : BagS, z.ok → Bd (BX P w K mg base ["_law_bag_here", "_law_many", "_law_cell", "_law_mixed", "_law_found"] d__law_take.qual d__law_take.scope f cdv Ar outer s H E) [some (mlT b (bagTs row cells z)), some (intT n), none, none, none] ((defBody s__law_take).drop 1) B { nx := fun _ H' => Q .non H', rt := Q } := fun z hz => by
      obtain ⟨z0, z1, z2, z3⟩ := hz
      refine b_if (gt_gt (g_ixL (T := intT z.c) (g_var 0).rlm g_int) g_int) (fun h => ?_) fun h => b_nil fun σ H1 e1 t1 => Bd.nx ?_ σ H1 e1 t1
      · refine b_asg 4 (g_mod (g_intI (g_ixL (T := intT z.c) (g_var 0).rlm g_int) hint) (g_var 1) hn0) ?_
        refine b_setL (T := intT (z.c / n)) 0 2 (by exact rfl) g_int (g_fdiv (k := 100) (g_ixL (T := intT z.c) (by exact (g_var 0).rlm) g_int) (g_var 1) hn0 (by omega)) (by exact rfl) he (by repeat (first | exact stbC_nil | refine stbC_none ?_ | refine stbC_some inferInstance ?_)) ?_
        exact b_chosen (z := ⟨z.i, z.c / n, z.m⟩) hBe hb ⟨z0, Int.ediv_nonneg z1 (by omega), z2, z3⟩ rfl (g_var 4) (mod_lt hn0) rfl q
      · have m1 := mod_lt (a := z.m * 48271009 + 31) (n := 2147483629) (by decide)
        generalize hm : (z.m * 48271009 + 31) % 2147483629 = m' at m1
        refine b_setL (T := intT m') 0 3 (by exact rfl) (by exact g_int) (by
          rw [← hm]
          exact g_mod (g_intI (g_add (g_mul (n := 64) (k := 64) (g_ixL (T := intT z.m) (g_var 0).rlm g_int) g_int (by omega) (by decide)) g_int) hint) g_int (by decide)) (by exact rfl) he (by repeat (first | exact stbC_nil | refine stbC_none ?_ | refine stbC_some inferInstance ?_)) ?_
        exact b_chosen (z := ⟨z.i, z.c, m'⟩) hBe hb ⟨z0, z1, m1.1, by show m' < _; omega⟩ rfl
          (g_mod (g_intI (g_fdiv (k := 64) (g_mod (g_intI (g_mul (n := 64) (k := 64) (g_ixL (T := intT m') (g_var 0).rlm g_int) (g_ixL (T := intT m') (g_var 0).rlm g_int) (by omega) (by omega)) hint) g_int (by decide)) g_int (by decide) (by decide)) hint) (g_var 1) hn0) (mod_lt hn0) rfl q
    obtain ⟨z0, z1, z2, z3⟩ := hz
    refine b_if (gt_and2 (gt_eqI (g_ixL (T := intT z.c) (g_var 0).rlm g_int) g_int) (fun _ => gt_lt (g_ixL (T := intT z.i) (g_var 0).rlm g_int) (g_lenRL (Ts := cells.map fun z => intT z) (((g_ixL (T := rowT row cells) (g_var 0).rlm g_int).imp fun _ _ h => row_lst h).rl) hlen))) (fun h => ?_) fun h => b_skip (fin z ⟨z0, z1, z2, z3⟩)
    have hi : z.i < (cells.length : Int) := by
      rw [Bool.and_eq_true, decide_eq_true_eq, decide_eq_true_eq, List.length_map] at h
      exact h.2
    have hi' : z.i.toNat < cells.length := by omega
    refine b_asg 2 (T := intT cells[z.i.toNat]) (g_ixL (Ts := cells.map fun z => intT z) (((g_ixL (T := rowT row cells) (g_var 0).rlm g_int).imp fun _ _ h => row_lst h).rl) (g_ixL (T := intT z.i) (g_var 0).rlm g_int) (by
      rw [atI_one z0 (by rw [List.length_map]; exact hi)]
      simp)) ?_
    generalize cells[z.i.toNat] = c
    refine b_setL (T := intT (z.i + 1)) 0 1 (by exact rfl) (by exact g_int) (by exact g_add (g_ixL (T := intT z.i) (g_var 0).rlm g_int) g_int) (by exact rfl) he (by repeat (first | exact stbC_nil | refine stbC_none ?_ | refine stbC_some inferInstance ?_)) ?_
    change Bd _ [some (mlT b (bagTs row cells ⟨z.i + 1, z.c, z.m⟩)), some (intT n), some (intT c), none, none] _ _ _
    refine b_if (gt_ge (g_var 2) (g_pow (i := 10) (j := 18) g_int g_int ⟨by decide, by decide, by decide⟩)) (fun h => ?_) fun h => ?_
    · refine b_setL (T := intT c) 0 2 (by exact rfl) (by exact g_int) (by exact g_var 2) (by exact rfl) he (by repeat (first | exact stbC_nil | refine stbC_none ?_ | refine stbC_some inferInstance ?_)) ?_
      have hc : 0 ≤ c := by
        rw [decide_eq_true_eq] at h
        have : (0 : Int) ≤ 10 ^ (18 : Int).toNat := by decide
        omega
      refine b_skip ?_
      refine b_skip ?_
      exact b_weak (fin ⟨z.i + 1, c, z.m⟩ ⟨by show 0 ≤ z.i + 1; omega, hc, z2, z3⟩) fun σ H1 t1 => t1.drop 2
    · refine b_asg 3 (g_add (g_mul (n := 64) (k := 64) (g_ixL (T := intT z.m) (g_var 0).rlm g_int) g_int (by omega) (by decide)) (g_mod (g_intI (g_var 2) hint) g_int (by decide))) ?_
      have m1 := mod_lt (a := z.m * 40031 + c % 1999999943 + (z.i + 1)) (n := 2147483629) (by decide)
      generalize hm : (z.m * 40031 + c % 1999999943 + (z.i + 1)) % 2147483629 = m' at m1
      refine b_setL (T := intT m') 0 3 (by exact rfl) (by exact g_int) (by
          rw [← hm]
          exact g_mod (g_intI (g_add (g_var 3) (g_ixL (T := intT (z.i + 1)) (g_var 0).rlm g_int)) hint) g_int (by decide)) (by exact rfl) he (by repeat (first | exact stbC_nil | refine stbC_none ?_ | refine stbC_some inferInstance ?_)) ?_
      refine b_skip ?_
      refine b_skip ?_
      exact b_weak (fin ⟨z.i + 1, z.c, m'⟩ ⟨by show 0 ≤ z.i + 1; omega, z1, m1.1, by show m' < _; omega⟩) fun σ H1 t1 => (t1.drop 2).drop 3
theorem sc_of : FnScope ["_law_bag_here", "_law_things"] ["_law_bag_here", "_law_things"] (defScope s__law_of) := ⟨rfl, rfl, rfl, by decide +kernel, rfl, by decide +kernel, by decide +kernel⟩
abbrev Few := { Ts : List RL.Ty // 0 < Ts.length ∧ Ts.length < 1000 }
theorem f_of (T : Tx fa fn ex K mg) : FnG P w K mg base 2 "_law_of" ["_law_bag_here", "_law_things"] (spG (fun Ts : Few => [bagT, lstT Ts.1]) fun Ts => oneT Ts.1) := by
  have FT : FnG P w K mg base 1 "_law_take" ["_law_bag_here", "_law_many"] _ := f_take T
  refine T.fn d__law_of i__law_of "_law_of" rfl q_glo__law_of rfl (fun _ _ _ _ _ _ us hl => match us, hl with | [_, _], _ => rfl) fun f fd F => ?_
  refine fn_G F sc_of (fun _ => rfl) fun z cdv Ar outer s H E hr nd D hD _ => ?_
  obtain ⟨Ts, h0, h1⟩ := z
  have b : (0 : Int) < (Ts.length : Int) ∧ (Ts.length : Int) < 2 ^ 100 := ⟨by omega, by omega⟩
  refine b_ret (g_ixLX (g_var 1).rl ((g_call FT hr ⟨(Ts.length : Int), b⟩ (ga_cons (g_var 0) (ga_cons (g_lenL (g_var 1) (T.free _ q_free_len)) ga_nil))).imp fun v H h => h)) hD
/-! the bag -/
theorem sc_bag : FnScope ["_law_script", "_law_row", "_law_mark", "_law_cell"] ["_law_script"] (defScope s__law_bag) := ⟨rfl, rfl, rfl, by decide +kernel, rfl, by decide +kernel, by decide +kernel⟩
theorem f_bag (T : Tx fa fn ex K mg) : FnG P w K mg base 1 "_law_bag" ["_law_script"] (spG (fun ns : List Int => [rlT K (ns.map fun z => intT z)]) fun _ => bagT) := by
  have hint := T.free _ q_free_int
  refine T.fn d__law_bag i__law_bag "_law_bag" rfl q_glo__law_bag rfl (fun _ _ _ _ _ _ us hl => match us, hl with | [_], _ => rfl) fun f fd F => ?_
  refine fn_G F sc_bag (fun _ => rfl) fun ns cdv Ar outer s H E hr nd D hD _ => ?_
  have hcut : cutT (ns.map fun z => intT z) none (some 63) = (ns.take 63).map fun z => intT z := by rw [cutT_to (by decide), List.map_take]; rfl
  refine b_asg 1 (T := lstT ((ns.take 63).map fun z => intT z)) (G.is (g_listL (g_cutTo (α := Unit) (n := fun _ => 63) (g_var 0) (g_int.un)) (T.free _ q_free_list)).one (by rw [hcut])) ?_
  refine b_asgX (F := fun z : { m : Int // 0 ≤ m ∧ m < 2 ^ 40 } => intT z.1) 2 (g_add g_int (g_mul (n := 64) (k := 64) g_int (g_lenL (g_var 1) (T.free _ q_free_len)) (by decide) ?_) |>.ofI ?_) fun z => ?_
  · rw [List.length_map]
    have := List.length_take_le 63 ns
    omega
  · rw [List.length_map]
    have := List.length_take_le 63 ns
    omega
  refine b_for (g := gName 3) (fun i Δ => ∃ (z : { m : Int // 0 ≤ m ∧ m < 2 ^ 40 }) (u : Option RL.Ty), Δ = [some (rlT K (ns.map fun z => intT z)), some (lstT ((ns.take 63).map fun z => intT z)), some (intT z.1), u]) (gi_list (g_var 1)) (pg_name nd rfl (Or.inl rfl)) ⟨z, none, rfl⟩ (fun H1 i T1 Δ b1 hT hΔ => ?_) fun Δ hΔ => ?_
  · obtain ⟨⟨z, z0, z1⟩, u, rfl⟩ := hΔ
    rw [List.getElem?_map] at hT
    cases hq : (ns.take 63)[i]? with
    | none => rw [hq] at hT; cases hT
    | some c =>
      rw [hq] at hT
      cases hT
      refine ⟨_, tgt_name, ?_⟩
      refine b_asg 2 (g_mod (g_intI (g_add (g_add (g_mul (n := 64) (k := 64) (g_var 2) g_int (by show z.natAbs < _; omega) (by decide)) (g_mod (g_intI (g_var 3) hint) g_int (by decide))) g_int) hint) g_int (by decide)) ?_
      have := mod_lt (a := z * 48611 + c % 2147483249 + 7) (n := 2147483587) (by decide)
      exact turn_nx ⟨⟨_, this.1, by omega⟩, _, rfl⟩
  · obtain ⟨⟨z, z0, z1⟩, u, rfl⟩ := hΔ
    refine b_cons fun σ H1 e1 t1 => toS (ps_ret (pe _)) (tE_retr (toE (pe_lst (pa _)) ?_))
    refine (ga_cons (g_var 1) (ga_cons g_int (ga_cons g_int (ga_cons (g_var 2) ga_nil)))) σ H1 t1 _ fun vs H2 e2 h2 => ⟨by rw [← h2.len]; show 4 ≤ sizeLine; decide, fun b hb => ?_⟩
    obtain ⟨v0, v1, v2, v3, rfl, ⟨row, ws, ev, hrow, hws⟩, h1, h2, h3⟩ := all2_4 h2
    · skip
      have h1' : v1 = V.int 0 := h1
      have h2' : v2 = V.int 0 := h2
      have h3' : v3 = V.int z := h3
      subst ev; subst h1'; subst h2'; subst h3'
      have hws' : ws = (ns.take 63).map V.int := All2.vals (H := H2) (by rw [List.map_map]; exact hws)
      subst hws'
      refine ⟨b, _, bagH b row, upd_same, ⟨trivial, bag_close (z := ⟨0, 0, z⟩) ⟨Int.le_refl _, Int.le_refl _, z0, z1⟩⟩, ?_⟩
      rw [upd_upd]
      refine hD _ _ (Bs.up e1 (e2.trans (Ex.new hb))) ⟨b, row, ns.take 63, rfl, upd_same, ?_⟩
      obtain ⟨o, ho⟩ := hrow
      exact ⟨o, by rw [upd_ne (ne_of_none ho hb)]; exact ho⟩
end
end K03

set_option Elab.async false
set_option linter.all false
set_option maxRecDepth 100000
set_option maxHeartbeats 8000000
namespace K03
open PySem PySem.Spec PyProof.Rows L2 RL NM StX
section
variable {P : Program} {w : World} {K : PySem.W.Frag} {mg : Str → Option Value} {base : Heap}
theorem g_number1 (T : Tx fa fn ex K mg) {X : Cx} (hX : X.K = K ∧ X.mg = mg) {Γ : RL.Ctx} {e : Expr} {q : Int × Int} {p pos : Pos} (hq : PairsOk [q]) (he : G X Γ e (pT K q)) (hr : Room 4 X.A) (hg : Gl X "Number" := by rfl) (hs : starEach [e] X.env = (false, eval e X.env) :: starEach [] X.env := by rfl) :
    G X Γ (.Call (.Name "Number" p) [e] [] pos) (numT K [q]) := fun σ H t Q k => by
  obtain ⟨rfl, rfl⟩ := hX
  obtain ⟨f, M, F⟩ := r_init (P := X.prog) (w := X.w) (base := X.base) T hq
  refine toE (pe_makeR M F hr hg (T.glo _ q_glo_Number) pass0 (pa_cons (pe e) pa_nil hs) (he := hs)) (he σ H t _ fun v H1 e1 hv => ?_)
  intro x dx nx ndx nex
  have e2 : Ex H1 (upd (upd H1 dx (.own x)) x (.ins (He.ga X.K "Number") dx [])) := (Ex.new ndx).trans (Ex.new (by rw [upd_ne (Ne.symm nex)]; exact nx))
  refine ⟨x, _, dx, [v], rfl, upd_same, ⟨_, by simp [numCs], rfl⟩, ⟨(pT X.K q).up e2 hv, trivial⟩, fun H' d o e3 hd => ⟨rfl, ?_⟩⟩
  obtain ⟨h1, h2⟩ := num_made nx ndx nex ⟨"Number", by simp [numCs], rfl⟩ e3 hd
  exact k _ _ (e1.trans h1) h2
theorem sc_primesL : FnScope [] [] (defScope s__law_primes) := ⟨rfl, rfl, rfl, by decide +kernel, rfl, by decide +kernel, by decide +kernel⟩
def primesL : List Int := [2, 3, 5, 7, 11, 13, 101, 499, 997]
theorem f_primes (T : Tx fa fn ex K mg) : FnG P w K mg base 1 "_law_primes" [] (spG (fun _ : Unit => []) fun _ => lstT (primesL.map fun z => intT z)) := by
  refine T.fn d__law_primes i__law_primes "_law_primes" rfl q_glo__law_primes rfl (fun _ _ _ _ _ _ us hl => match us, hl with | [], _ => rfl) fun f fd F => ?_
  refine fn_G F sc_primesL (fun _ => rfl) fun z cdv Ar outer s H E hr nd D hD _ => ?_
  exact b_ret (g_lst (ga_cons g_int (ga_cons g_int (ga_cons g_int (ga_cons g_int (ga_cons g_int (ga_cons g_int (ga_cons g_int (ga_cons g_int (ga_cons g_int ga_nil)))))))))) hD
abbrev Top99 := { n : Int // 0 < n ∧ n < 2 ^ 99 }
structure PowOk (l : NK) : Prop where
  ok : PairsOk l
  few : l.length ≤ 9
  low : ∀ q ∈ l, q.2 < 2 ^ 99
abbrev Pows := { l : NK // PowOk l }
structure PwI (i : Nat) (l : NK) : Prop where
  asc : (l.map (·.1)).Pairwise (· < ·)
  low : ∀ q ∈ l, 0 < q.2 ∧ q.2 < 2 ^ 99
  sub : ∀ q ∈ l, q.1 ∈ primesL.take i
  few : l.length ≤ i
theorem primesL_asc : primesL.Pairwise (· < ·) := by decide
theorem primesL_pr : ∀ p ∈ primesL, 0 < p ∧ p < 1000 ∧ isPB p = true := by decide +kernel
theorem PwI.next {i : Nat} {l : NK} (h : PwI i l) : PwI (i + 1) l := ⟨h.asc, h.low, fun q hq => by
  rw [List.take_succ]
  exact List.mem_append_left _ (h.sub q hq), Nat.le_succ_of_le h.few⟩
theorem PwI.lt {i : Nat} {l : NK} {p : Int} (h : PwI i l) (hp : primesL[i]? = some p) : ∀ q ∈ l, q.1 < p := fun q hq => by
  have hs : primesL.take i ++ primesL.drop i = primesL := List.take_append_drop i primesL
  have hd : p ∈ primesL.drop i := by
    have : (primesL.drop i)[0]? = some p := by rw [List.getElem?_drop]; simpa using hp
    exact List.mem_of_getElem? this
  have ha := primesL_asc
  rw [← hs] at ha
  exact (List.pairwise_append.mp ha).2.2 q.1 (h.sub q hq) p hd
theorem PwI.put {i : Nat} {l : NK} {p e : Int} (h : PwI i l) (hp : primesL[i]? = some p) (he : 0 < e ∧ e < 2 ^ 99) : PwI (i + 1) (l ++ [(p, e)]) := by
  have hlt := h.lt hp
  refine ⟨?_, fun q hq => ?_, fun q hq => ?_, ?_⟩
  · rw [List.map_append]
    refine List.pairwise_append.mpr ⟨h.asc, by simp, fun a ha b hb => ?_⟩
    obtain ⟨q, hq, rfl⟩ := List.mem_map.mp ha
    simp only [List.map_cons, List.map_nil, List.mem_singleton] at hb
    subst hb
    exact hlt q hq
  · rcases List.mem_append.mp hq with hq | hq
    · exact h.low q hq
    · rw [List.mem_singleton.mp hq]; exact he
  · rw [List.take_succ, hp]
    rcases List.mem_append.mp hq with hq | hq
    · exact List.mem_append_left _ (h.sub q hq)
    · rw [List.mem_singleton.mp hq]
      exact List.mem_append_right _ (by simp)
  · rw [List.length_append]
    have := h.few
    simp only [List.length_cons, List.length_nil]
    omega
theorem PwI.ok {i : Nat} {l : NK} (h : PwI i l) (hi : i ≤ 9) : PowOk l := by
  have hf := h.few
  refine ⟨⟨h.asc, fun q hq => (h.low q hq).1, fun q hq => primesL_pr _ (List.mem_of_mem_take (h.sub q hq)), by omega⟩, by omega, fun q hq => (h.low q hq).2⟩
theorem sc_powers : FnScope ["_law_bag_here", "_law_most", "_law_top", "_law_found", "_law_prime"] ["_law_bag_here", "_law_most", "_law_top"] (defScope s__law_some_powers) := ⟨rfl, rfl, rfl, by decide +kernel, rfl, by decide +kernel, by decide +kernel⟩
theorem f_powers (T : Tx fa fn ex K mg) : FnG P w K mg base 3 "_law_some_powers" ["_law_bag_here", "_law_most", "_law_top"] (spG (fun z : Int × Top99 => [bagT, intT z.1, intT z.2.1]) fun _ => exT fun l : Pows => dicT (kvN l.1)) := by
  have FT : FnG P w K mg base 1 "_law_take" ["_law_bag_here", "_law_many"] _ := f_take T
  have FO : FnG P w K mg base 2 "_law_of" ["_law_bag_here", "_law_things"] _ := f_of T
  have FP : FnG P w K mg base 1 "_law_primes" [] _ := f_primes T
  refine T.fn d__law_some_powers i__law_some_powers "_law_some_powers" rfl q_glo__law_some_powers rfl (fun _ _ _ _ _ _ us hl => match us, hl with | [_, _, _], _ => rfl) fun f fd F => ?_
  refine fn_G F sc_powers (fun _ => rfl) fun z cdv Ar outer s H E hr nd D hD _ => ?_
  obtain ⟨most, top, t0, t1⟩ := z
  refine b_newD 3 fun a ha => ?_
  refine b_forX (β := { i : Int // 0 ≤ i }) (Ts := fun z => cutT (primesL.map fun z => intT z) none (some z.1)) (g := gName 4)
    (fun z i Δ => ∃ (l : NK) (u : Option RL.Ty), PwI i l ∧ Δ = [some bagT, some (intT most), some (intT top), some (mdT a (kvN l)), u]) (gix_list (hS := fun z => by rw [cutT_to z.2, ← List.map_take]; infer_instance) (g_cutTo (g_call0 FP (hr.mono (by decide)) ()).rl ?_)) (pg_name nd rfl (Or.inl rfl))
    (fun z => ⟨[], none, ⟨by simp, by simp, by simp, Nat.le_refl _⟩, rfl⟩) (fun z H1 i T1 Δ b1 hT hΔ => ?_) fun z Δ hΔ => ?_
  · exact G.imp (g_call FO hr ⟨([2, 3, 4, 9] : List Int).map fun z => intT z, by decide, by decide⟩ (ga_cons (g_var 0) (ga_cons (g_lst (ga_cons g_int (ga_cons g_int (ga_cons g_int (ga_cons g_int ga_nil))))) ga_nil))) fun v H hv => one_in (p := fun i => 0 ≤ i) (by decide) hv
  · obtain ⟨l, u, hl, rfl⟩ := hΔ
    have hT' : ((primesL.take z.1.toNat).map fun z => intT z)[i]? = some T1 := by rw [← hT, cutT_to z.2, List.map_take]
    rw [List.getElem?_map] at hT'
    cases hq : (primesL.take z.1.toNat)[i]? with
    | none => rw [hq] at hT'; cases hT'
    | some p =>
      rw [hq] at hT'
      cases hT'
      have hp : primesL[i]? = some p := by
        rw [List.getElem?_take] at hq
        split at hq
        · exact hq
        · cases hq
      have hi : i < 9 := (List.getElem?_eq_some_iff.mp hp).1
      refine ⟨_, tgt_name, ?_⟩
      have hr1 := hr.mono (j := 1) (by decide)
      refine b_ifP (p := fun _ => True) ((gp_and2 (gt_lt (g_lenR (g_var 3).rdm (T.free _ q_free_len)) (g_var 1)).gp fun _ => gp_gt (k := fun _ => True) (g_call FT hr1 ⟨3, by decide⟩ (ga_cons (g_var 0) (ga_cons g_int ga_nil))) (g_int.ofI (p := fun _ => True) trivial) (fun _ _ _ _ => trivial)).any) (fun _ => ?_) fun _ => (by
        refine b_skip ?_
        exact turn_nx ⟨l, _, hl.next, rfl⟩)
      refine b_dputX (β := { e : Int // 0 < e ∧ e < 2 ^ 99 }) (F := fun e => .int e.1) 3 (kk := Sum.inl p) (by exact rfl) (by exact g_var 4) (by exact gx_add (g_int.ofI (p := fun i => i = 1) rfl) (g_call FT hr1 ⟨top, t0, Int.lt_trans t1 (by decide)⟩ (ga_cons (g_var 0) (ga_cons (g_var 2) ga_nil))) (fun i j hi hj => by
        have hj2 : j < top := hj.2
        omega)) (by exact ha) ?_ (by repeat (first | exact stbC_nil | refine stbC_none ?_ | refine stbC_some inferInstance ?_)) (by exact hu_of hr) fun e => ?_
      · unfold kvN
        rw [List.length_map]
        exact Nat.lt_of_le_of_lt hl.few (Nat.lt_trans hi (by decide))
      refine b_skip ?_
      refine turn_nx ⟨l ++ [(p, e.1)], some (intT p), hl.put hp ⟨e.2.1, ?_⟩, ?_⟩
      · exact e.2.2
      · rw [← put_kvN (l := l) (q := (p, e.1)) fun hm => by
          obtain ⟨q, hq, e⟩ := List.mem_map.mp hm
          have := hl.lt hp q hq
          omega]
        rfl
  · obtain ⟨l, u, hl, rfl⟩ := hΔ
    refine b_weak (Δ := [some bagT, some (intT most), some (intT top), some (mdT a (kvN l)), none]) ?_ fun σ H1 t1 => t1.drop 4
    refine b_frzD 3 rfl ha (by repeat (first | exact stbC_nil | refine stbC_none ?_ | refine stbC_some inferInstance ?_)) ?_
    refine b_ret ((g_var 3).ex ⟨l, hl.ok ?_⟩) hD
    have : (cutT (primesL.map fun z => intT z) none (some z.1)).length ≤ 9 := by
      rw [cutT_to z.2, List.length_take]
      exact Nat.min_le_right _ _
    exact this
theorem sc_madeL : FnScope ["_law_powers", "_law_found", "_law_prime"] ["_law_powers"] (defScope s__law_made) := ⟨rfl, rfl, rfl, by decide +kernel, rfl, by decide +kernel, by decide +kernel⟩
theorem pairsOk_take {l : NK} (h : PairsOk l) (i : Nat) : PairsOk (l.take i) := ⟨by rw [List.map_take]; exact (h.asc.take), fun q hq => h.pos q (List.mem_of_mem_take hq), fun q hq => h.pr q (List.mem_of_mem_take hq), Nat.lt_of_le_of_lt (by rw [List.length_take]; exact Nat.min_le_right _ _) h.len⟩
theorem pairsOk_one {l : NK} (h : PairsOk l) {q : Int × Int} (hq : q ∈ l) : PairsOk [q] := ⟨by simp, fun r hr => by rw [List.mem_singleton.mp hr]; exact h.pos q hq, fun r hr => by rw [List.mem_singleton.mp hr]; exact h.pr q hq, by show 1 < 64; decide⟩
theorem f_made (T : Tx fa fn ex K mg) : FnG P w K mg base 5 "_law_made" ["_law_powers"] (spG (fun l : { l : NK // PairsOk l } => [dicT (kvN l.1)]) fun l => numT K l.1) := by
  refine T.fn d__law_made i__law_made "_law_made" rfl q_glo__law_made rfl (fun _ _ _ _ _ _ us hl => match us, hl with | [_], _ => rfl) fun f fd F => ?_
  refine fn_G F sc_madeL (fun _ => rfl) fun z cdv Ar outer s H E hr nd D hD _ => ?_
  obtain ⟨l, hl⟩ := z
  refine b_asg 1 (g_number0 T ⟨rfl, rfl⟩ hr) ?_
  refine b_for (Ts := (l.map (·.1)).map fun z => intT z) (g := gName 2) (fun i Δ => ∃ u, Δ = [some (dicT (kvN l)), some (numT K (l.take i)), u]) (gi_list (g_sortedL (ks := l.map (·.1)) ((g_listD (g_var 0) (T.free _ q_free_list)).is (by unfold kvN; rw [List.map_map, List.map_map]; rfl)) (T.free _ q_free_sorted) (l.map (·.1)) fun zs hp hs => (sortU_perm hp hs hl.canon.nodup).trans (sortU_is hl.asc (fun _ => Iff.rfl)).symm)) (pg_name nd rfl (Or.inl rfl)) ⟨none, rfl⟩ (fun H1 i T1 Δ b1 hT hΔ => ?_) fun Δ hΔ => ?_
  · obtain ⟨u, rfl⟩ := hΔ
    rw [List.map_map, List.getElem?_map] at hT
    cases hq : l[i]? with
    | none => rw [hq] at hT; cases hT
    | some q =>
      rw [hq] at hT
      cases hT
      have hmem : q ∈ l := List.mem_of_getElem? hq
      have hlook : valV (kvN l) (Sum.inl q.1 : Key) = some (.int q.2) := by rw [kvN_val' (List.mem_map_of_mem hmem), look_mem hl.canon.nodup hmem]
      have htake : l.take (i + 1) = l.take i ++ [q] := by rw [List.take_succ, hq]; rfl
      have hil : i < l.length := (List.getElem?_eq_some_iff.mp hq).1
      refine ⟨_, tgt_name, ?_⟩
      refine b_if ((gt_gt (g_ixd (k := Sum.inl q.1) (hu_of hr) (g_var 0) (g_var 2) hlook) g_int).is (b' := true) (by simpa using hl.pos q hmem)) (fun _ => ?_) fun h => by cases h
      refine b_asg 1 (g_mulN (x := l.take i) (y := [q]) T ⟨rfl, rfl⟩ hr (by rw [List.length_take]; have := hl.len; simp only [List.length_cons, List.length_nil]; omega) (g_var 1) (g_number1 T ⟨rfl, rfl⟩ (pairsOk_one hl hmem) (g_tup (ga_cons (g_var 2) (ga_cons (g_ixd (k := Sum.inl q.1) (hu_of hr) (g_var 0) (g_var 2) hlook) ga_nil)) (hl := by show 2 ≤ sizeLine; decide)) hr)) ?_
      refine b_skip ?_
      refine turn_nx ⟨some (intT q.1), ?_⟩
      rw [opK_snoc (pairsOk_take hl i).canon (pairsOk_one hl hmem).canon (by rw [← htake]; exact (pairsOk_take hl (i + 1)).canon), ← htake]
      rfl
  · obtain ⟨u, rfl⟩ := hΔ
    rw [List.length_map, List.length_map, List.take_length]
    exact b_ret (g_var 1) hD
end
end K03

set_option Elab.async false
set_option linter.all false
set_option maxRecDepth 100000
set_option maxHeartbeats 2000000
/-! RLch: i <= j <= k -/
namespace RL
open PySem PySem.Spec PyProof.Rows L2
section
variable {X : Cx} {Γ : Ctx} {a b c : Expr} {pos : Pos} {i j k : Int}
theorem gt_le2 (ha : G X Γ a (intT i)) (hb : G X Γ b (intT j)) (hc : G X Γ c (intT k)) (hm : lastMarks [.LtE, .LtE] [b, c] = false := by with_unfolding_all rfl) : GT X Γ (.Compare a [.LtE, .LtE] [b, c] pos) (decide (i ≤ j) && decide (j ≤ k)) := fun σ H t Q q =>
  toT (pt_chain op_le op_le (pe a) (pe b) (pe c) hm) (ha σ H t _ fun v H1 e1 h1 => hb σ H1 (t.up e1) _ fun u H2 e2 h2 => ⟨i, j, h1, h2, decide (i ≤ j), rfl, by
    cases hd : decide (i ≤ j) with
    | false =>
      have z := q H2 (e1.trans e2)
      rw [hd, Bool.false_and] at z
      exact iteF ⟨false, rfl, z⟩
    | true => exact iteT (hc σ H2 (t.up (e1.trans e2)) _ fun w H3 e3 h3 => ⟨j, k, h2, h3, decide (j ≤ k), rfl, by
        have z := q H3 (e1.trans (e2.trans e3))
        rw [hd, Bool.true_and] at z
        exact z⟩)⟩)
end
end RL

set_option Elab.async false
set_option linter.all false
set_option maxRecDepth 100000
set_option maxHeartbeats 2000000
/-! RLword: for over a text, len of a text, a sign in a text -/
namespace RL
open PySem PySem.Spec PyProof.Rows L2
section
variable {X : Cx} {Γ : Ctx} {e a b : Expr} {pos p : Pos}
def signs (y : Str) : List Str := y.cps.toList.map fun c => ⟨#[c]⟩
theorem gi_str {y : Str} {tg it : Expr} (h : G X Γ it (strT y)) : GI X Γ tg it (y.cps.toList.map fun c => strT ⟨#[c]⟩) := fun σ H t Q q => toI (pi_str (pe it)) (h σ H t _ fun v H1 e1 hv => by
  have hv' : v = .str y := hv
  refine ⟨y, hv', q _ H1 e1 fun i H' e => ⟨fun hi => ?_, fun hi => ?_⟩⟩
  · rw [List.length_map, Array.length_toList] at hi
    refine ⟨hi, fun x H2 hy => ?_⟩
    obtain ⟨eH, c, hc, hx⟩ := hy
    subst eH
    refine ⟨Ex.refl _, strT ⟨#[c]⟩, ?_, hx⟩
    rw [List.getElem?_map, Array.getElem?_toList, hc]
    rfl
  · rw [hi, List.length_map, Array.length_toList]
    exact Nat.le_refl _)
theorem g_lenS {y : Str} (h : G X Γ e (strT y)) (hz : y.length ≤ sizeLine) (hm : X.mg "len" = none) (hg : Gl X "len" := by rfl) (he : starEach [e] X.env = (false, eval e X.env) :: starEach [] X.env := by first | exact se_cons rfl | exact se_one rfl) : G X Γ (.Call (.Name "len" p) [e] [] pos) (intT y.length) :=
  g_callB call_len hm (by decide +kernel) (ga_cons h ga_nil he) (fun vs H h2 Q q => by
    obtain ⟨v, ev, hv⟩ := one2 h2
    have hv' : v = .str y := hv
    subst hv'
    exact ⟨_, y.length, ev, ⟨hz, rfl⟩, q _ H (Ex.refl H) rfl⟩) hg (he := he)
/-- a sign in a text -/
theorem g_inSign {c : Nat} {z : Str} (ha : G X Γ a (strT ⟨#[c]⟩)) (hb : G X Γ b (strT z)) (hm : behindInMarks .In b = false := by rfl) : G X Γ (.Compare a [.In] [b] pos) (blT (decide (c ∈ z.cps.toList))) :=
  g_cmp op_in_sign ha hb (fun v w H hv hw Q q => ⟨c, z, hv, hw, q _ H (Ex.refl H) rfl⟩) hm
/-- all([sign in z for sign in y]) -/
theorem g_allSigns {x : Str} {i : Nat} {b it : Expr} {scope : Scope} {px pa pb pc pd pe' : Pos} {y z : Str} (hit : G X Γ it (strT y)) (hz : y.length ≤ sizeLine)
    (hv : ∀ c : Nat, GC X scope ((Γ.set i none).set i (some (strT ⟨#[c]⟩))) b (strT z)) (hx : ∀ c : Nat, GC X scope ((Γ.set i none).set i (some (strT ⟨#[c]⟩))) (.Name x pa) (strT ⟨#[c]⟩)) (hm : X.mg "all" = none) (ok : BlkOk X.N X.env.scope scope [(x, i)] := by first | exact blkOk_by rfl | exact blkOk_by (by decide +kernel))
    (hg : ∀ (s : Shared) (H : Hp) (C : Addr) (cl : List (Str × Addr)) (fp : List Addr), PG (X.blk s H scope (compEnvC scope cl C X.env) fp) (.Name x px) (gName i) := by exact fun _ _ _ _ _ => pg_name (by assumption) rfl (Or.inl rfl))
    (hmk : behindInMarks .In b = false := by rfl) (hc : X.calm = true := by rfl) (hN : X.N.Nodup := by first | assumption | decide) (hf : ∀ x, foldedSetIterable it X.env x = pure x := by intro _; rfl) (hgl : Gl X "all" := by rfl)
    (he : starEach [.ListComp (.Compare (.Name x pa) [.In] [b] pb) [⟨.Name x px, it, [], 0⟩] scope pc] X.env = (false, eval (.ListComp (.Compare (.Name x pa) [.In] [b] pb) [⟨.Name x px, it, [], 0⟩] scope pc) X.env) :: starEach [] X.env := by exact se_cons rfl) :
    G X Γ (.Call (.Name "all" pd) [.ListComp (.Compare (.Name x pa) [.In] [b] pb) [⟨.Name x px, it, [], 0⟩] scope pc] [] pe') (blT (y.cps.toList.all fun c => decide (c ∈ z.cps.toList))) := by
  have key : G X Γ (.ListComp (.Compare (.Name x pa) [.In] [b] pb) [⟨.Name x px, it, [], 0⟩] scope pc) (lstT ((y.cps.toList.map fun c => decide (c ∈ z.cps.toList)).map fun k => blT k)) := by
    rw [List.map_map]
    exact g_lcM (i := i) y.cps.toList (fun c => strT ⟨#[c]⟩) (fun c => blT (decide (c ∈ z.cps.toList))) (gi_str hit) (by rw [Array.length_toList]; exact hz) (fun c hc s H C cl fp => g_inSign (hx c s H C cl fp) (hv c s H C cl fp) hmk) ok hg (hc := hc) (hN := hN) (hf := hf)
  refine (g_all key hm hc hgl he).is ?_
  rw [List.all_map]
  rfl
end
end RL

set_option Elab.async false
set_option linter.all false
set_option maxRecDepth 100000
set_option maxHeartbeats 4000000
/-! RLlcf: [e for x in it for y1, y2 in it1] -/
namespace RL
open PySem PySem.Spec PyProof.Rows L2
def tCI (X : Cx) (scope : Scope) (tg it : Expr) : TI := fun σ H1 Q => ∀ (s : Shared) (H : Hp) (C : Addr) (cl : List (Str × Addr)) (fp : List Addr), tI (X.blk s H scope (compEnvC scope cl C X.env) fp) tg it σ H1 Q
section
variable {X : Cx} {Γ : Ctx} {pos tpos px p1 p2 : Pos}
theorem g_lcF {α β : Type} {x y1 y2 : Str} {j k1 k2 : Nat} {elt iter iter1 : Expr} {scope : Scope} {kk : Nat} (ks : List α) (A : α → Ty) (m : α → List β) (B1 B2 R : β → Ty) [hSA : ∀ a, Stb (A a)] [hSR : ∀ b, Stb (R b)]
    (hi : GI X Γ (.Name x px) iter (ks.map A)) (hz : (ks.flatMap m).length ≤ sizeLine)
    (hi1 : ∀ a ∈ ks, ∀ (s : Shared) (H : Hp) (C : Addr) (cl : List (Str × Addr)) (fp : List Addr), GI (X.blk s H scope (compEnvC scope cl C X.env) fp) ((((Γ.set k2 none).set k1 none).set j none).set j (some (A a))) (.Tuple [.Name y1 p1, .Name y2 p2] kk tpos) iter1 ((m a).map fun b => tupT X.K [B1 b, B2 b]))
    (hv : ∀ a ∈ ks, ∀ b ∈ m a, GC X scope ((((((((Γ.set k2 none).set k1 none).set j none).set j (some (A a))).set k2 none).set k1 none).set k1 (some (B1 b))).set k2 (some (B2 b))) elt (R b)) {T' : Ty} (hR : lstT ((ks.flatMap m).map R) = T' := by rfl)
    (hd : j ≠ k1 ∧ j ≠ k2 ∧ k1 ≠ k2 := by decide) (ok : BlkOk X.N X.env.scope scope [(x, j), (y1, k1), (y2, k2)] := by first | exact blkOk_by rfl | exact blkOk_by (by decide +kernel))
    (hg : ∀ (s : Shared) (H : Hp) (C : Addr) (cl : List (Str × Addr)) (fp : List Addr), PG (X.blk s H scope (compEnvC scope cl C X.env) fp) (.Name x px) (gName j) := by exact fun _ _ _ _ _ => pg_name (by assumption) rfl (Or.inl rfl))
    (hg1 : ∀ (s : Shared) (H : Hp) (C : Addr) (cl : List (Str × Addr)) (fp : List Addr), PG (X.blk s H scope (compEnvC scope cl C X.env) fp) (.Tuple [.Name y1 p1, .Name y2 p2] kk tpos) (gTup X.K 2 (gCons (gName k1) (gCons (gName k2) gNil))) := by exact fun _ _ _ _ _ => pg_tup rfl (pgs_cons (pg_name (by assumption) rfl (Or.inl rfl)) (pgs_cons (pg_name (by assumption) rfl (Or.inl rfl)) pgs_nil)))
    (hc : X.calm = true := by rfl) (hN : X.N.Nodup := by first | assumption | decide) (hf : ∀ x, foldedSetIterable iter X.env x = pure x := by intro _; rfl) (hf1 : ∀ env x, foldedSetIterable iter1 env x = pure x := by intro _ _; rfl) :
    G X Γ (.ListComp elt [⟨.Name x px, iter, [], 0⟩, ⟨.Tuple [.Name y1 p1, .Name y2 p2] kk tpos, iter1, [], 0⟩] scope pos) T' := hR ▸ fun σ H t Q q => by
  refine tE_frz (toE (pe_lc2 (wi1 := tCI X scope (.Tuple [.Name y1 p1, .Name y2 p2] kk tpos) iter1) (te := tCE X scope elt) (tt := tCT X scope []) (tt1 := tCT X scope []) (own := [(x, j), (y1, k1), (y2, k2)]) (vs1 := [k1, k2]) hc hN pi ok (by simp) hg
    (fun s H C cl fp => ⟨fun pins s' σ H1 Q I h => (h s H C cl fp).run pins s' I⟩) (fun s H C cl fp => ⟨fun pins s' σ H1 Q I h => (h s H C cl fp).run pins s' I⟩) hg1 (fun s H C cl fp => ⟨fun pins s' σ H1 Q I h => (h s H C cl fp).run pins s' I⟩) (fun s H C cl fp => ⟨fun pins s' σ H1 Q I h => (h s H C cl fp).run pins s' I⟩) hf hf1) ?_)
  refine hi σ H t _ fun J H1 e1 tn => ?_
  intro Da hD
  have e1D : Ex H1 (upd H1 Da (.lst [])) := Ex.new hD
  have hsub : ∀ i, ((ks.take i).flatMap m).length ≤ (ks.flatMap m).length := fun i => by
    have z : ks.flatMap m = (ks.take i).flatMap m ++ (ks.drop i).flatMap m := by rw [← List.flatMap_append, List.take_append_drop]
    rw [z, List.length_append]; omega
  refine ⟨fun i n H' => i ≤ ks.length ∧ n = ks.length - i ∧ Ex H1 H' ∧ ∃ acc, H' Da = some (.lst acc) ∧ All2 (((ks.take i).flatMap m).map R) acc H', ⟨_, Nat.zero_le _, rfl, e1D, [], upd_same, by simp [All2]⟩, ?_⟩
  rintro i n H' ⟨hi', rfl, e2, acc, hacc, hA⟩
  obtain ⟨t3, t4⟩ := tn i H' e2.le
  rw [List.length_map] at t3 t4
  by_cases c : i < ks.length
  · obtain ⟨go, yl⟩ := t3 c
    refine .inr ⟨go, fun H' => Ex H1 H' ∧ ∃ acc, H' Da = some (.lst acc) ∧ All2 (((ks.take (i + 1)).flatMap m).map R) acc H', fun H' h => ⟨ks.length - (i + 1), by omega, by omega, rfl, h⟩, fun v Hy hy => ?_⟩
    obtain ⟨ey, T, hT, hvT⟩ := yl v Hy hy
    rw [List.getElem?_map, List.getElem?_eq_getElem c] at hT
    cases hT
    generalize ha : ks[i] = a at hvT
    have hmem : a ∈ ks := ha ▸ List.getElem_mem c
    have htake : (ks.take (i + 1)).flatMap m = (ks.take i).flatMap m ++ m a := by
      rw [List.take_add_one, List.getElem?_eq_getElem c, ha, List.flatMap_append]
      simp
    show (L2.wipe ((L2.wipe σ [j, k1, k2]).set j (some v)) [j, k1, k2] = L2.wipe σ [j, k1, k2]) ∧ tCT X scope [] ((L2.wipe σ [j, k1, k2]).set j (some v)) Hy (fun b H3 => if b = true then tCI X scope (.Tuple [.Name y1 p1, .Name y2 p2] kk tpos) iter1 ((L2.wipe σ [j, k1, k2]).set j (some v)) H3 _ else _)
    refine ⟨?_, ?_⟩
    · show (((((((σ.set k2 none).set k1 none).set j none).set j (some v)).set k2 none).set k1 none).set j none) = (((σ.set k2 none).set k1 none).set j none)
      apply List.ext_getElem?
      intro n
      simp only [List.getElem?_set, List.length_set]
      by_cases h1 : j = n <;> by_cases h2 : k1 = n <;> by_cases h3 : k2 = n <;> simp_all
    have tσ2 : ∀ {Hz : Hp}, Ex H1 Hz → Le Hy Hz → Typed ((L2.wipe σ [j, k1, k2]).set j (some v)) ((((Γ.set k2 none).set k1 none).set j none).set j (some (A a))) Hz := fun {Hz} ez lz => by
      exact (Typed.wipe [j, k1, k2] (t.up (e1.trans ez))).set j ((hSA a).le lz hvT)
    intro s0 H0 C cl fp
    have gn : ∀ Δ, GCTs X scope Δ [] true := fun _ => gct_nil
    refine gn _ s0 H0 C cl fp ((L2.wipe σ [j, k1, k2]).set j (some v)) Hy (tσ2 (e2.trans ey) (Le.refl _)) _ fun H3 e3 => iteT ?_
    intro s1 H1' C1 cl1 fp1
    refine hi1 a hmem s1 H1' C1 cl1 fp1 ((L2.wipe σ [j, k1, k2]).set j (some v)) H3 (tσ2 ((e2.trans ey).trans e3) e3.le) _ fun J1 H4 e4 tn1 => ?_
    have ey4 := ey.trans (e3.trans e4)
    refine ⟨fun i1 n H' => i1 ≤ (m a).length ∧ n = (m a).length - i1 ∧ Ex H1 H' ∧ Le H4 H' ∧ ∃ acc, H' Da = some (.lst acc) ∧ All2 (((ks.take i).flatMap m ++ (m a).take i1).map R) acc H', ⟨_, Nat.zero_le _, rfl, e2.trans ey4, Le.refl _, acc, ey4 _ _ hacc, by simpa using hA.up ey4⟩, ?_⟩
    rintro i1 n H5 ⟨hi1', rfl, e5, l5, acc5, hacc5, hA5⟩
    obtain ⟨t5, t6⟩ := tn1 i1 H5 l5
    rw [List.length_map] at t5 t6
    by_cases c1 : i1 < (m a).length
    · obtain ⟨go1, yl1⟩ := t5 c1
      refine .inr ⟨go1, fun H' => Ex H1 H' ∧ Le H4 H' ∧ ∃ acc, H' Da = some (.lst acc) ∧ All2 (((ks.take i).flatMap m ++ (m a).take (i1 + 1)).map R) acc H', fun H' h => ⟨(m a).length - (i1 + 1), by omega, by omega, rfl, h⟩, fun u Hu hu => ?_⟩
      obtain ⟨eu, T, hT, huT⟩ := yl1 u Hu hu
      rw [List.getElem?_map, List.getElem?_eq_getElem c1] at hT
      cases hT
      generalize hb : (m a)[i1] = b at huT
      have hmemb : b ∈ m a := hb ▸ List.getElem_mem c1
      have tU : Typed (L2.wipe ((L2.wipe σ [j, k1, k2]).set j (some v)) [k1, k2]) ((((((Γ.set k2 none).set k1 none).set j none).set j (some (A a))).set k2 none).set k1 none) Hu := Typed.wipe [k1, k2] (tσ2 (e5.trans eu) ((e3.trans e4).le.trans (l5.trans eu.le)))
      refine own_tup2 (y := y1) (z := y2) hd.2.2 u ((L2.wipe σ [j, k1, k2]).set j (some v)) Hu _ (tgts2 u _ Hu _ huT tU fun σ3 t3' => ?_)
      intro s6 H6 C6 cl6 fp6
      refine gn _ s6 H6 C6 cl6 fp6 σ3 Hu t3' _ fun H7 e7 => iteT ?_
      intro s8 H8 C8 cl8 fp8
      have hlen : acc5.length < sizeLine := by
        rw [← hA5.len, List.length_map, List.length_append, List.length_take]
        have z := hsub (i + 1)
        rw [htake, List.length_append] at z
        omega
      refine hv a hmem b hmemb s8 H8 C8 cl8 fp8 σ3 H7 (t3'.up e7) _ fun y H9 e9 hy => ?_
      have eU := eu.trans (e7.trans e9)
      have h9 := eU _ _ hacc5
      have hm := Le.mut (o := .lst (acc5 ++ [y])) h9 trivial
      refine ⟨acc5, h9, hlen, (e5.trans eU).mut hD h9, l5.trans (eU.le.trans hm), acc5 ++ [y], upd_same, ?_⟩
      have ht1 : (m a).take (i1 + 1) = (m a).take i1 ++ [b] := by rw [List.take_add_one, List.getElem?_eq_getElem c1, hb]; rfl
      rw [ht1, ← List.append_assoc, List.map_append]
      have hst : Stbs (((ks.take i).flatMap m ++ (m a).take i1).map R) := stbs_of fun U hU => by
        obtain ⟨z, _, e⟩ := List.mem_map.mp hU
        subst e
        exact hSR z
      exact All2.append (hst.le (eU.le.trans hm) hA5) ⟨(hSR b).le hm hy, trivial⟩
    · have hi2 : i1 = (m a).length := by omega
      refine .inl ⟨t6 hi2, e5, acc5, hacc5, ?_⟩
      rw [hi2, List.take_length] at hA5
      rw [htake]
      exact hA5
  · have hi2 : i = ks.length := by omega
    refine .inl ⟨t4 hi2, Da, _, hacc, trivial, fun od => ?_⟩
    rw [hi2, List.take_length] at hA
    have hst : Stbs ((ks.flatMap m).map R) := stbs_of fun U hU => by
      obtain ⟨z, _, e⟩ := List.mem_map.mp hU
      subst e
      exact hSR z
    exact q _ _ ((e1.trans e2).mut (e1.free hD) hacc) ⟨Da, acc, rfl, ⟨od, upd_same⟩, hst.le (Le.mut hacc trivial) hA⟩
end
end RL

set_option Elab.async false
set_option linter.all false
set_option maxRecDepth 100000
set_option maxHeartbeats 1000000
/-! SayMore: what a saying is by its word; its inner sayings, parts, names -/
namespace RL
open PySem PySem.Spec PyProof.Rows L2
abbrev SayAt (d : Nat) := { s : Say // SayOk d s }
/-- a saying is a tuple of its word and more -/
theorem G.say {X : Cx} {Γ : Ctx} {e : Expr} {s : Say} (h : G X Γ e (sayT X.K s)) : G X Γ e (tupT X.K (strT s.word :: tailT X.K s)) := h.is (by rw [sayT_eq])
theorem at0 {T0 : Ty} {Ts : List Ty} : L2.atI (T0 :: Ts) 0 = some T0 := by
  rw [atI_one (by decide) (by rw [List.length_cons]; omega)]
  rfl
def isCmp : Say → Bool
  | .cmp _ _ _ => true
  | _ => false
def isCnt : Say → Bool
  | .cnt _ _ => true
  | _ => false
def isUse : Say → Bool
  | .use _ _ => true
  | _ => false
def isNeg : Say → Bool
  | .neg _ => true
  | _ => false
def isQu : Say → Bool
  | .qu _ _ _ => true
  | _ => false
theorem ok_cmp {d : Nat} {e : Bool} {t1 t2 : Trm} (h : SayOk d (.cmp e t1 t2)) : TrmOk t1 ∧ TrmOk t2 := by
  cases h with
  | cmp a b => exact ⟨a, b⟩
theorem ok_cnt {d : Nat} {rows : List Cmpn} {way : Way} (h : SayOk d (.cnt rows way)) : (1 ≤ rows.length ∧ rows.length ≤ 2) ∧ (∀ r ∈ rows, CmpnOk r) ∧ WayOk way := by
  cases h with
  | cnt a b c => exact ⟨a, b, c⟩
theorem ok_neg {d : Nat} {s : Say} (h : SayOk d (.neg s)) : ∃ d', d = d' + 1 ∧ SayOk d' s := by
  cases h with
  | neg a => exact ⟨_, rfl, a⟩
theorem ok_con {d : Nat} {c : Bool} {l : List Say} (h : SayOk d (.con c l)) : ∃ d', d = d' + 1 ∧ (2 ≤ l.length ∧ l.length ≤ 3) ∧ ∀ s ∈ l, SayOk d' s := by
  cases h with
  | con a b => exact ⟨_, rfl, a, b⟩
theorem ok_qu {d : Nat} {e : Bool} {x : Str} {s : Say} (h : SayOk d (.qu e x s)) : ∃ d', d = d' + 1 ∧ x ∈ allNames ∧ SayOk d' s := by
  cases h with
  | qu a b => exact ⟨_, rfl, a, b⟩
theorem ok_use {d : Nat} {n : Str} {xs : List Str} (h : SayOk d (.use n xs)) : n ∈ allUses ∧ xs.length ≤ 3 ∧ ∀ x ∈ xs, x ∈ allNames := by
  cases h with
  | use a b c => exact ⟨a, b, c⟩
theorem of_cmp {s : Say} (h : isCmp s = true) : ∃ e t1 t2, s = .cmp e t1 t2 := by
  cases s with
  | cmp e t1 t2 => exact ⟨e, t1, t2, rfl⟩
  | cnt _ _ => cases h
  | neg _ => cases h
  | con _ _ => cases h
  | qu _ _ _ => cases h
  | use _ _ => cases h
theorem of_cnt {s : Say} (h : isCnt s = true) : ∃ r y, s = .cnt r y := by
  cases s with
  | cmp _ _ _ => cases h
  | cnt r y => exact ⟨r, y, rfl⟩
  | neg _ => cases h
  | con _ _ => cases h
  | qu _ _ _ => cases h
  | use _ _ => cases h
theorem of_neg {s : Say} (h : isNeg s = true) : ∃ r, s = .neg r := by
  cases s with
  | cmp _ _ _ => cases h
  | cnt _ _ => cases h
  | neg r => exact ⟨r, rfl⟩
  | con _ _ => cases h
  | qu _ _ _ => cases h
  | use _ _ => cases h
theorem of_con {s : Say} (h1 : isCmp s = false) (h2 : isCnt s = false) (h3 : isUse s = false) (h4 : isNeg s = false) (h5 : isQu s = false) : ∃ c l, s = .con c l := by
  cases s with
  | cmp _ _ _ => cases h1
  | cnt _ _ => cases h2
  | neg _ => cases h4
  | con c l => exact ⟨c, l, rfl⟩
  | qu _ _ _ => cases h5
  | use _ _ => cases h3
theorem of_qu {s : Say} (h : isQu s = true) : ∃ e x r, s = .qu e x r := by
  cases s with
  | cmp _ _ _ => cases h
  | cnt _ _ => cases h
  | neg _ => cases h
  | con _ _ => cases h
  | qu e x r => exact ⟨e, x, r, rfl⟩
  | use _ _ => cases h
theorem of_use {s : Say} (h : isUse s = true) : ∃ n xs, s = .use n xs := by
  cases s with
  | cmp _ _ _ => cases h
  | cnt _ _ => cases h
  | neg _ => cases h
  | con _ _ => cases h
  | qu _ _ _ => cases h
  | use n xs => exact ⟨n, xs, rfl⟩
theorem t_cmp (s : Say) : (([("equal" : Str), "divides"]).any fun z => z == s.word) = isCmp s := by
  cases s with
  | cmp e _ _ => simp only [Say.word, isCmp]; cases e <;> decide +kernel
  | cnt _ _ => simp only [Say.word, isCmp]; decide +kernel
  | neg _ => simp only [Say.word, isCmp]; decide +kernel
  | con c _ => simp only [Say.word, isCmp]; cases c <;> decide +kernel
  | qu e _ _ => simp only [Say.word, isCmp]; cases e <;> decide +kernel
  | use _ _ => simp only [Say.word, isCmp]; decide +kernel
theorem t_qu (s : Say) : (([("some" : Str), "all"]).any fun z => z == s.word) = isQu s := by
  cases s with
  | cmp e _ _ => simp only [Say.word, isQu]; cases e <;> decide +kernel
  | cnt _ _ => simp only [Say.word, isQu]; decide +kernel
  | neg _ => simp only [Say.word, isQu]; decide +kernel
  | con c _ => simp only [Say.word, isQu]; cases c <;> decide +kernel
  | qu e _ _ => simp only [Say.word, isQu]; cases e <;> decide +kernel
  | use _ _ => simp only [Say.word, isQu]; decide +kernel
theorem t_cnt (s : Say) : decide (s.word = "count") = isCnt s := by
  cases s with
  | cmp e _ _ => (show decide ((if e then ("equal" : Str) else "divides") = "count") = false; cases e <;> decide +kernel)
  | cnt _ _ => (show decide (("count" : Str) = "count") = true; decide +kernel)
  | neg _ => (show decide (("not" : Str) = "count") = false; decide +kernel)
  | con c _ => (show decide ((if c then ("and" : Str) else "or") = "count") = false; cases c <;> decide +kernel)
  | qu e _ _ => (show decide ((if e then ("some" : Str) else "all") = "count") = false; cases e <;> decide +kernel)
  | use _ _ => (show decide (("use" : Str) = "count") = false; decide +kernel)
theorem t_use (s : Say) : decide (s.word = "use") = isUse s := by
  cases s with
  | cmp e _ _ => (show decide ((if e then ("equal" : Str) else "divides") = "use") = false; cases e <;> decide +kernel)
  | cnt _ _ => (show decide (("count" : Str) = "use") = false; decide +kernel)
  | neg _ => (show decide (("not" : Str) = "use") = false; decide +kernel)
  | con c _ => (show decide ((if c then ("and" : Str) else "or") = "use") = false; cases c <;> decide +kernel)
  | qu e _ _ => (show decide ((if e then ("some" : Str) else "all") = "use") = false; cases e <;> decide +kernel)
  | use _ _ => (show decide (("use" : Str) = "use") = true; decide +kernel)
theorem t_neg (s : Say) : decide (s.word = "not") = isNeg s := by
  cases s with
  | cmp e _ _ => (show decide ((if e then ("equal" : Str) else "divides") = "not") = false; cases e <;> decide +kernel)
  | cnt _ _ => (show decide (("count" : Str) = "not") = false; decide +kernel)
  | neg _ => (show decide (("not" : Str) = "not") = true; decide +kernel)
  | con c _ => (show decide ((if c then ("and" : Str) else "or") = "not") = false; cases c <;> decide +kernel)
  | qu e _ _ => (show decide ((if e then ("some" : Str) else "all") = "not") = false; cases e <;> decide +kernel)
  | use _ _ => (show decide (("use" : Str) = "not") = false; decide +kernel)
theorem g_eqS {X : Cx} {Γ : Ctx} {a b : Expr} {pos : Pos} {y z : Str} (ha : G X Γ a (strT y)) (hb : G X Γ b (strT z)) : G X Γ (.Compare a [.Eq] [b] pos) (blT (decide (y = z))) := (g_cmp op_eq ha hb (r_Eq rfl) (nomark _)).is (by simp)
def isCon' : Say → Bool
  | .con _ _ => true
  | _ => false
theorem t_ncon (s : Say) : (([("not" : Str), "and", "or"]).any fun z => z == s.word) = (isNeg s || isCon' s) := by
  cases s with
  | cmp e _ _ => simp only [Say.word, isCon', isNeg]; cases e <;> decide +kernel
  | cnt _ _ => simp only [Say.word, isCon', isNeg]; decide +kernel
  | neg _ => simp only [Say.word, isCon', isNeg]; decide +kernel
  | con c _ => simp only [Say.word, isCon', isNeg]; cases c <;> decide +kernel
  | qu e _ _ => simp only [Say.word, isCon', isNeg]; cases e <;> decide +kernel
  | use _ _ => simp only [Say.word, isCon', isNeg]; decide +kernel
/-- the sayings just below -/
def Say.inner : Say → List Say
  | .neg s => [s]
  | .con _ l => l
  | .qu _ _ s => [s]
  | _ => []
theorem inner_ok {d : Nat} {s : Say} (h : SayOk d s) : ∀ t ∈ s.inner, ∃ d', d = d' + 1 ∧ SayOk d' t := by
  cases h with
  | neg a => intro t ht; simp only [Say.inner, List.mem_singleton] at ht; subst ht; exact ⟨_, rfl, a⟩
  | con a b => intro t ht; exact ⟨_, rfl, b t ht⟩
  | qu a b => intro t ht; simp only [Say.inner, List.mem_singleton] at ht; subst ht; exact ⟨_, rfl, b⟩
  | cmp _ _ => intro t ht; simp [Say.inner] at ht
  | cnt _ _ _ => intro t ht; simp [Say.inner] at ht
  | use _ _ _ => intro t ht; simp [Say.inner] at ht
theorem inner_few {d : Nat} {s : Say} (h : SayOk d s) : s.inner.length ≤ 3 := by
  cases h with
  | con a b => exact a.2
  | _ => simp [Say.inner]
/-- its own names -/
def Say.own : Say → List Str
  | .cmp _ t1 t2 => t1.1.map (·.1) ++ t2.1.map (·.1)
  | .cnt rows _ => rows.flatMap fun r => r.1.map (·.1)
  | .use _ xs => xs
  | _ => []
theorem own_few {d : Nat} {s : Say} (h : SayOk d s) : s.own.length ≤ 6 := by
  cases h with
  | @cmp _ _ t1 t2 a b =>
    have h1 := a.few
    have h2 := b.few
    simp only [Say.own, List.length_append, List.length_map]
    omega
  | @cnt _ rows _ a b _ =>
    obtain ⟨a1, a2⟩ := a
    match rows, a1, a2, b with
    | [r], _, _, b =>
      have := (b r (by simp)).few
      simp [Say.own]
      omega
    | [r, r'], _, _, b =>
      have := (b r (by simp)).few
      have := (b r' (by simp)).few
      simp [Say.own]
      omega
  | use _ a _ => simp only [Say.own]; omega
  | _ => simp [Say.own]
theorem own_ok {d : Nat} {s : Say} (h : SayOk d s) : ∀ x ∈ s.own, x ∈ allNames := by
  cases h with
  | cmp a b =>
    intro x hx
    rcases List.mem_append.mp hx with hx | hx
    · obtain ⟨q, hq, rfl⟩ := List.mem_map.mp hx
      exact (a.pw q hq).1
    · obtain ⟨q, hq, rfl⟩ := List.mem_map.mp hx
      exact (b.pw q hq).1
  | cnt a b _ =>
    intro x hx
    obtain ⟨r, hr, hx⟩ := List.mem_flatMap.mp hx
    obtain ⟨q, hq, rfl⟩ := List.mem_map.mp hx
    exact ((b r hr).pw q hq).1
  | use _ _ a => exact a
  | neg _ => intro x hx; simp [Say.own] at hx
  | con _ _ => intro x hx; simp [Say.own] at hx
  | qu _ _ => intro x hx; simp [Say.own] at hx
end RL

set_option Elab.async false
set_option linter.all false
set_option maxRecDepth 100000
set_option maxHeartbeats 1000000
/-! SayFree: the free variables of a saying, in order; the sorted list of some texts is one alone -/
namespace RL
open PySem PySem.Spec PyProof.Rows L2
def leS (x y : Str) : Prop := ¬ y.cps.toList < x.cps.toList
theorem leS_of {x y : Str} (h : ltCps y.cps.toList x.cps.toList = false) : leS x y := by
  rw [ltCps_eq] at h
  exact of_decide_eq_false h
theorem leS_trans {x y z : Str} (a : leS x y) (b : leS y z) : leS x z := fun h => by
  have a' : x.cps.toList ≤ y.cps.toList := List.not_lt.mp a
  have b' : y.cps.toList ≤ z.cps.toList := List.not_lt.mp b
  exact absurd (List.le_trans a' b') (List.not_le.mpr h)
theorem leS_anti {x y : Str} (a : leS x y) (b : leS y x) : x = y := by
  have a' : x.cps.toList ≤ y.cps.toList := List.not_lt.mp a
  have b' : y.cps.toList ≤ x.cps.toList := List.not_lt.mp b
  have e := List.le_antisymm a' b'
  obtain ⟨⟨x⟩⟩ := x
  obtain ⟨⟨y⟩⟩ := y
  have e' : x = y := e
  rw [e']
theorem rising_pw : ∀ (l : List Str) (p : Str), risingS p l = true → (p :: l).Pairwise leS
  | [], p, _ => by simp
  | x :: l, p, h => by
    rw [risingS, Bool.and_eq_true, Bool.not_eq_true'] at h
    have ih := rising_pw l x h.2
    have hp := leS_of h.1
    refine List.pairwise_cons.mpr ⟨fun y hy => ?_, ih⟩
    rcases List.mem_cons.mp hy with e | hy
    · rw [e]; exact hp
    · exact leS_trans hp ((List.pairwise_cons.mp ih).1 y hy)
theorem sorted_pw : ∀ (l : List Str), sortedS l = true → l.Pairwise leS
  | [], _ => List.Pairwise.nil
  | x :: l, h => rising_pw l x h
theorem sorted_one : ∀ (l m : List Str), l.Pairwise leS → m.Pairwise leS → l.Nodup → m.Nodup → (∀ k, k ∈ l ↔ k ∈ m) → l = m
  | [], [], _, _, _, _, _ => rfl
  | [], y :: m, _, _, _, _, h => absurd ((h y).mpr List.mem_cons_self) (by simp)
  | x :: l, [], _, _, _, _, h => absurd ((h x).mp List.mem_cons_self) (by simp)
  | x :: l, y :: m, a, b, c, d, h => by
    obtain ⟨a1, a2⟩ := List.pairwise_cons.mp a
    obtain ⟨b1, b2⟩ := List.pairwise_cons.mp b
    obtain ⟨c1, c2⟩ := List.nodup_cons.mp c
    obtain ⟨d1, d2⟩ := List.nodup_cons.mp d
    have e : x = y := by
      rcases List.mem_cons.mp ((h x).mp List.mem_cons_self) with e | hx
      · exact e
      · rcases List.mem_cons.mp ((h y).mpr List.mem_cons_self) with e | hy
        · exact e.symm
        · exact leS_anti (a1 y hy) (b1 x hx)
    subst e
    rw [sorted_one l m a2 b2 c2 d2 fun k => ?_]
    constructor
    · intro hk
      rcases List.mem_cons.mp ((h k).mp (List.mem_cons_of_mem _ hk)) with e | hk'
      · rw [e] at hk; exact absurd hk c1
      · exact hk'
    · intro hk
      rcases List.mem_cons.mp ((h k).mpr (List.mem_cons_of_mem _ hk)) with e | hk'
      · rw [e] at hk; exact absurd hk d1
      · exact hk'
def SortOf (l zs : List Str) : Prop := sortedS zs = true ∧ zs.Nodup ∧ ∀ k, k ∈ zs ↔ k ∈ l
open Classical in
/-- sorted, each once -/
noncomputable def sortT (l : List Str) : List Str := if h : ∃ zs, SortOf l zs then Classical.choose h else []
theorem sortT_is {l zs : List Str} (h1 : sortedS zs = true) (h2 : zs.Nodup) (h3 : ∀ k, k ∈ zs ↔ k ∈ l) : zs = sortT l := by
  have h : ∃ zs, SortOf l zs := ⟨zs, h1, h2, h3⟩
  unfold sortT
  rw [dif_pos h]
  obtain ⟨g1, g2, g3⟩ := Classical.choose_spec h
  exact sorted_one _ _ (sorted_pw _ h1) (sorted_pw _ g1) h2 g2 fun k => (h3 k).trans (g3 k).symm
theorem sortT_sub {l : List Str} : ∀ k ∈ sortT l, k ∈ l := by
  unfold sortT
  split
  · rename_i h
    exact fun k hk => ((Classical.choose_spec h).2.2 k).mp hk
  · intro k hk; simp at hk
theorem sortT_nodup {l : List Str} : (sortT l).Nodup := by
  unfold sortT
  split
  · rename_i h
    exact (Classical.choose_spec h).2.1
  · exact List.nodup_nil
theorem nodup_len : ∀ (l m : List Str), l.Nodup → (∀ x ∈ l, x ∈ m) → l.length ≤ m.length
  | [], m, _, _ => Nat.zero_le _
  | x :: l, m, h, k => by
    obtain ⟨h1, h2⟩ := List.nodup_cons.mp h
    have hx := k x List.mem_cons_self
    have ih := nodup_len l (m.erase x) h2 fun y hy => (List.mem_erase_of_ne (fun e => h1 (by rw [← e]; exact hy))).mpr (k y (List.mem_cons_of_mem _ hy))
    rw [List.length_erase_of_mem hx] at ih
    have : 0 < m.length := List.length_pos_of_mem hx
    rw [List.length_cons]
    omega
/-- which names of the inner ones stay free -/
def keepV : Say → Str → Bool
  | .qu _ y _, x => !(x == y)
  | _, _ => true
mutual
noncomputable def freeS : Say → List Str
  | .neg t => sortT (freeS t)
  | .con _ l => sortT (freeSL l)
  | .qu _ y t => sortT ((freeS t).filter fun x => !(x == y))
  | .cmp e t1 t2 => sortT (Say.own (.cmp e t1 t2))
  | .cnt r y => sortT (Say.own (.cnt r y))
  | .use n xs => sortT (Say.own (.use n xs))
noncomputable def freeSL : List Say → List Str
  | [] => []
  | s :: l => freeS s ++ freeSL l
end
theorem freeSL_map (l : List Say) : freeSL l = l.flatMap freeS := by
  induction l with
  | nil => rw [freeSL]; rfl
  | cons s l ih => rw [freeSL, ih, List.flatMap_cons]
/-- what the names of a saying are taken from -/
noncomputable def freeW (s : Say) : List Str := s.own ++ s.inner.flatMap fun t => (freeS t).filter (keepV s)
theorem filter_all {l : List Str} : l.filter (fun _ => true) = l := List.filter_eq_self.mpr fun _ _ => rfl
theorem freeS_eq (s : Say) : freeS s = sortT (freeW s) := by
  cases s with
  | neg t =>
    rw [freeS]
    have : keepV (.neg t) = fun _ => true := rfl
    simp only [freeW, Say.own, Say.inner, this, filter_all, List.flatMap_cons, List.flatMap_nil, List.append_nil, List.nil_append]
  | con c l =>
    rw [freeS, freeSL_map]
    have : keepV (.con c l) = fun _ => true := rfl
    simp only [freeW, Say.own, Say.inner, this, filter_all, List.nil_append]
  | qu e y t =>
    rw [freeS]
    have : keepV (.qu e y t) = fun x => !(x == y) := rfl
    simp only [freeW, Say.own, Say.inner, this, List.flatMap_cons, List.flatMap_nil, List.append_nil, List.nil_append]
  | cmp e t1 t2 => rw [freeS]; simp [freeW, Say.inner]
  | cnt r y => rw [freeS]; simp [freeW, Say.inner]
  | use n xs => rw [freeS]; simp [freeW, Say.inner]
theorem freeS_names : ∀ {d : Nat} {s : Say}, SayOk d s → ∀ x ∈ freeS s, x ∈ allNames := by
  intro d
  induction d with
  | zero =>
    intro s h x hx
    rw [freeS_eq] at hx
    rcases List.mem_append.mp (sortT_sub x hx) with hx | hx
    · exact own_ok h x hx
    · obtain ⟨t, ht, _⟩ := List.mem_flatMap.mp hx
      obtain ⟨d', e, _⟩ := inner_ok h t ht
      omega
  | succ d ih =>
    intro s h x hx
    rw [freeS_eq] at hx
    rcases List.mem_append.mp (sortT_sub x hx) with hx | hx
    · exact own_ok h x hx
    · obtain ⟨t, ht, hx⟩ := List.mem_flatMap.mp hx
      obtain ⟨d', e, k⟩ := inner_ok h t ht
      have : d' = d := by omega
      subst this
      exact ih k x (List.mem_filter.mp hx).1
theorem freeS_few {d : Nat} {s : Say} (h : SayOk d s) : (freeS s).length ≤ 15 := nodup_len (freeS s) allNames (by rw [freeS_eq]; exact sortT_nodup) (freeS_names h)
theorem flat_few {n : Nat} {f : Say → List Str} : ∀ (l : List Say), (∀ t ∈ l, (f t).length ≤ n) → (l.flatMap f).length ≤ l.length * n
  | [], _ => Nat.zero_le _
  | s :: l, h => by
    have h1 := h s List.mem_cons_self
    have h2 := flat_few l fun t ht => h t (List.mem_cons_of_mem _ ht)
    rw [List.flatMap_cons, List.length_append, List.length_cons, Nat.succ_mul]
    omega
theorem freeW_names {d : Nat} {s : Say} (h : SayOk d s) : ∀ x ∈ freeW s, x ∈ allNames := fun x hx => by
  rcases List.mem_append.mp hx with hx | hx
  · exact own_ok h x hx
  · obtain ⟨t, ht, hx⟩ := List.mem_flatMap.mp hx
    obtain ⟨d', e, k⟩ := inner_ok h t ht
    exact freeS_names k x (List.mem_filter.mp hx).1
theorem freeW_part {d : Nat} {s : Say} (h : SayOk d s) (i : Nat) : (s.own ++ (s.inner.take i).flatMap fun t => (freeS t).filter (keepV s)).length ≤ 51 := by
  have h1 := own_few h
  have h2 := inner_few h
  have h3 := flat_few (n := 15) (f := fun t => (freeS t).filter (keepV s)) (s.inner.take i) fun t ht => by
    obtain ⟨d', e, k⟩ := inner_ok h t (List.mem_of_mem_take ht)
    exact Nat.le_trans (List.length_filter_le _ _) (freeS_few k)
  have h4 : (s.inner.take i).length ≤ 3 := by rw [List.length_take]; omega
  have h5 : (s.inner.take i).length * 15 ≤ 3 * 15 := Nat.mul_le_mul_right _ h4
  rw [List.length_append]
  omega
theorem freeW_few {d : Nat} {s : Say} (h : SayOk d s) : (freeW s).length ≤ 51 := by
  have z := freeW_part h s.inner.length
  rw [List.take_length] at z
  exact z
end RL

set_option Elab.async false
set_option linter.all false
set_option maxRecDepth 100000
set_option maxHeartbeats 4000000
/-! RLsortS: sorted lists of pairs of a text and an int -/
namespace RL
open PySem PySem.Spec PyProof.Rows L2
def ltS (x y : Str) : Bool := decide (x.cps.toList < y.cps.toList)
theorem leS_refl (x : Str) : leS x x := fun h => absurd h (List.lt_irrefl _)
theorem ltS_no {x y : Str} : ltS x y = false ↔ leS y x := by
  unfold ltS leS
  exact ⟨fun h => of_decide_eq_false h, fun h => decide_eq_false h⟩
def lexS (p q : Str × Int) : Bool := if p.1 = q.1 then decide (p.2 < q.2) else ltS p.1 q.1
theorem lexS_no {p q : Str × Int} : lexS p q = false ↔ leS q.1 p.1 ∧ (p.1 = q.1 → q.2 ≤ p.2) := by
  unfold lexS
  by_cases e : p.1 = q.1
  · rw [if_pos e, decide_eq_false_iff_not]
    constructor
    · intro h
      exact ⟨by rw [e]; exact leS_refl _, fun _ => by omega⟩
    · intro h
      have := h.2 e
      omega
  · rw [if_neg e, ltS_no]
    exact ⟨fun h => ⟨h, fun z => absurd z e⟩, fun h => h.1⟩
theorem lexS_asym {p q : Str × Int} (h : lexS p q = true) : lexS q p = false := by
  unfold lexS at h
  by_cases e : p.1 = q.1
  · rw [if_pos e, decide_eq_true_eq] at h
    exact lexS_no.mpr ⟨by rw [e]; exact leS_refl _, fun _ => by omega⟩
  · rw [if_neg e] at h
    have h' : p.1.cps.toList < q.1.cps.toList := of_decide_eq_true h
    exact lexS_no.mpr ⟨fun z => absurd z (List.lt_asymm h'), fun z => absurd z.symm e⟩
theorem lexS_tr {x y z : Str × Int} (h1 : lexS x y = false) (h2 : lexS y z = false) : lexS x z = false := by
  obtain ⟨a1, a2⟩ := lexS_no.mp h1
  obtain ⟨b1, b2⟩ := lexS_no.mp h2
  refine lexS_no.mpr ⟨leS_trans b1 a1, fun e => ?_⟩
  have e1 : x.1 = y.1 := leS_anti (by rw [e]; exact b1) a1
  have e2 : y.1 = z.1 := e1.symm.trans e
  have := a2 e1
  have := b2 e2
  omega
theorem swo_lexS {α : Type} (k : α → Str × Int) : SrtO.Swo fun v u => lexS (k v) (k u) := ⟨fun _ _ h => lexS_asym h, fun _ _ _ h1 h2 => lexS_tr h2 h1⟩
/-- v is a tuple of a text and an int in the heap -/
def IsPairS (h : Heap) (v : Value) (x : Str) (y : Int) : Prop := ∃ a o t u n, v = .ref a ∧ h.get? a = some o ∧ o.cls = .type "tuple" ∧ o.data = .seq #[.str x t, .int y u] n
theorem IsPairS.keeps {h h' : Heap} {v : Value} {x : Str} {y : Int} (p : IsPairS h v x y) (k : ∀ b o, h.get? b = some o → o.cls = .type "tuple" → h'.get? b = some o) : IsPairS h' v x y := by
  obtain ⟨a, o, t, u, n, e, ho, hc, hd⟩ := p
  exact ⟨a, o, t, u, n, e, k _ _ ho hc, hc, hd⟩
section
variable {prog : Program} {w : World} {A : Around} {E : Value → Shared → Prop} {s : Shared}
theorem pair_cmpS {vs : List Value} {k : Value → Str × Int} (hp : ∀ v ∈ vs, IsPairS s.heap v (k v).1 (k v).2) : SrtO.Cmp prog w A s (tuples' true) (fun p => p.1 ∈ vs) (SrtO.lt2 fun v u => lexS (k v) (k u)) := by
  intro p q hm hm'
  have h1 := hp _ hm
  have h2 := hp _ hm'
  show wpAny (model prog w) A (keyLt' (tuples' true) p.1 q.1) (fun r s' => s' = s ∧ r = lexS (k p.1) (k q.1)) (fun _ _ => False) s
  unfold lexS
  generalize (k p.1).1 = x at h1 ⊢
  generalize (k p.1).2 = y at h1 ⊢
  generalize (k q.1).1 = x' at h2 ⊢
  generalize (k q.1).2 = y' at h2 ⊢
  obtain ⟨a, o, t, u, n, e, ho, hc, hd⟩ := h1
  obtain ⟨a', o', t', u', n', e', ho', hc', hd'⟩ := h2
  rw [e, e']
  refine PySem.W.kat_lt ho hd ho' hd' ?_
  show PySem.W.KatLex prog w A true (decide (2 < 2)) _ [(.str x t, .str x' t'), (.int y u, .int y' u')] 0 s
  refine PySem.W.kat_cons (SeqAt.EqAt.str_str x t x' t' prog w _ _ ?_)
  refine PySem.W.kat_go (fun e1 => ?_) (fun e1 => ?_)
  · have ex : x = x' := by simpa using e1
    refine PySem.W.kat_yes (PySem.W.kat_cons (SeqAt.EqAt.int_int y u y' u' prog w _ _ ?_))
    refine PySem.W.kat_go (fun e2 => ?_) (fun e2 => ?_)
    · have ey : y = y' := by simpa using e2
      have e3 : (if x = x' then decide (y < y') else ltS x x') = false := by
        rw [if_pos ex, ey]
        exact decide_eq_false (Int.lt_irrefl _)
      exact PySem.W.kat_yes (PySem.W.kat_nil ⟨rfl, e3.symm⟩)
    · have e3 : (if x = x' then decide (y < y') else ltS x x') = decide (y < y') := if_pos ex
      refine PySem.W.kat_no (PySem.W.kat_one _ _ (PyProof.Rows.lt_int ?_))
      exact (show s = s ∧ decide (y < y') = (if x = x' then decide (y < y') else ltS x x') from ⟨rfl, e3.symm⟩)
  · have ex : ¬ x = x' := by simpa using e1
    have e3 : (if x = x' then decide (y < y') else ltS x x') = ltS x x' := if_neg ex
    exact PySem.W.kat_no (oneLt_str ⟨rfl, e3.symm⟩)
theorem firsts_ofS {h : Heap} : ∀ {vs : List Value}, (∀ v ∈ vs, ∃ x y, IsPairS h v x y) → ∃ fs : List Value, PySem.W.KatTups h vs fs ∧ fs.length = vs.length ∧ ∀ f ∈ fs, ∃ x t, f = Value.str x t
  | [], _ => ⟨[], PySem.W.KatTups.nil, rfl, fun _ hm => by simp at hm⟩
  | v :: vs, hp => by
    obtain ⟨fs, h1, h2, h3⟩ := firsts_ofS (vs := vs) fun v' hm => hp v' (List.mem_cons_of_mem _ hm)
    obtain ⟨x, y, a, o, t, u, n, e, ho, hc, hd⟩ := hp v (List.mem_cons_self ..)
    subst e
    refine ⟨.str x t :: fs, PySem.W.KatTups.cons ho hc hd rfl h1, by rw [List.length_cons, List.length_cons, h2], fun f hm => ?_⟩
    rcases List.mem_cons.mp hm with rfl | hm
    · exact ⟨x, t, rfl⟩
    · exact h3 f hm
theorem pairs_sortableS {a : Addr} {vs : List Value} {k : Value → Str × Int} (h0 : 0 < vs.length) (hp : ∀ v ∈ vs, IsPairS s.heap v (k v).1 (k v).2) (ha : ∀ o, s.heap.get? a = some o → o.cls ≠ .type "tuple") : SrtO.SortableO prog w A s a vs fun v u => lexS (k v) (k u) := by
  intro h' keep
  have hp' : ∀ v ∈ vs, IsPairS h' v (k v).1 (k v).2 := fun v hm => (hp v hm).keeps fun b o e c => keep b o (fun z => by subst z; exact ha o e c) e
  obtain ⟨fs, h1, h2, h3⟩ := firsts_ofS fun v hm => ⟨_, _, hp' v hm⟩
  refine ⟨tuples' true, fun Q E hq => ?_, pair_cmpS hp'⟩
  refine PySem.W.kat_kind (T := .type "str") h1 (by omega) (fun f hm => ?_) (by rfl) ?_
  · obtain ⟨x, t, rfl⟩ := h3 f hm
    exact PySem.W.Looks.now
  · have e : (Value.type "str" != Value.type "tuple") = true := by first | decide +kernel | rfl | decide
    rw [e]
    exact hq
theorem sorted_pairsS {l : Addr} {vs : List Value} {k : Value → Str × Int} {Q : Value → Shared → Prop} (hl : s.heap.IsList l vs.toArray) (hz : vs.length ≤ sizeLine) (hp : ∀ v ∈ vs, IsPairS s.heap v (k v).1 (k v).2)
    (h : ∀ (h' : Heap) (d : Addr) (out : List Value), SrtO.Srtd (fun v u => lexS (k v) (k u)) out → SrtO.Stb (fun v u => lexS (k v) (k u)) out vs → (∀ b o, s.heap.get? b = some o → h'.get? b = some o) → s.heap.objs.size ≤ d → (∃ n, h'.get? d = some (seqObj "list" out.toArray n)) → Q (.ref d) { s with heap := h' }) :
    wpAny (model prog w) A (call (.builtin "sorted") [.ref l]) Q E s := by
  refine SrtO.sorted_ord (swo_lexS k) hl hz (fun h2 h₁ a ha kk => ?_) fun out hs hb => ?_
  · refine pairs_sortableS (s := { s with heap := h₁ }) (by omega) (fun v hm => (hp v hm).keeps fun b o e _ => (kk b o e).2) fun o e => ?_
    have e' : some o = some (seqObj "list" vs.toArray 0) := e.symm.trans ha
    cases e'
    intro c
    exact absurd (Value.type.inj c) (by decide)
  · exact h _ _ out hs hb (fun b o e => sortedAll_old e) (Nat.le_succ _) (sortedAll_at s.heap vs out.toArray)
end
abbrev ltPS (k : V → Str × Int) (x y : V) : Bool := lexS (k x) (k y)
section
variable {X : Cx}
/-- sorted(xs), xs a list of pairs of a text and an int (k says which) -/
theorem cr_sortedPS : CallR X (.builtin "sorted") (fun vs H Q => ∃ (a : Addr) (xs : List V) (k : V → Str × Int), vs = [V.ref a] ∧ SqL X.K H a xs ∧ (∀ x ∈ xs, ∃ t, x = V.ref t ∧ SqT X.K H t [.str (k x).1, .int (k x).2]) ∧
    ∀ ys p, SrtO.Srtd (ltPS k) ys → SrtO.Stb (ltPS k) ys xs → H p = none → Q (.ref p) (upd H p (.lst ys))) := by
  intro pins s σ H vs us Q I r h
  obtain ⟨a, xs, k, rfl, hs, hx, q⟩ := h
  obtain ⟨its, rv, hl, hz⟩ := I.list hs
  obtain ⟨u, rfl, ru⟩ := vals1 r
  obtain rfl : u = Value.ref a := ru
  obtain ⟨e1, e2⟩ := refs_back rv fun x m => by
    obtain ⟨t, e, _⟩ := hx x m
    exact ⟨t, e⟩
  refine sorted_pairsS (k := fun u => k (backV u)) hl.isList (by rw [← rv.length]; exact hz) (fun v hv => ?_) fun h' d out h1 h2 kp hd hn => ?_
  · obtain ⟨t, rfl⟩ := e2 v hv
    have hm : V.ref t ∈ xs := by rw [e1]; exact List.mem_map.mpr ⟨_, hv, rfl⟩
    obtain ⟨t', e, ht⟩ := hx _ hm
    cases e
    obtain ⟨its2, r2, ⟨o, ho, hc, n, hd⟩, _⟩ := I.tuple ht
    obtain ⟨u1, u2, rfl, ri, rj⟩ := L2.vals2 r2
    obtain ⟨t1, rfl⟩ := ri
    obtain ⟨t2, rfl⟩ := rj
    exact ⟨t, o, t1, t2, n, rfl, ho, hc, hd⟩
  · have h3 : ∀ u ∈ out, ∃ a, u = Value.ref a := fun u hu => e2 u (h2.perm.mem_iff.mp hu)
    obtain ⟨n, hn⟩ := hn
    have hb : SrtO.Stb (ltPS k) (out.map backV) xs := by
      rw [e1]
      exact SrtO.Stb.map (swo_lexS k) backV h2
    refine ⟨.ref d, upd H d (.lst (out.map backV)), I.laid (t' := s.toks) kp hd ⟨?_, out, n, vals_back h3, hn⟩, rfl, q _ d (SrtO.srtd_map h1) hb (I.hok.fresh hd)⟩
    rw [hb.len]
    exact hz
end
/-! what comes, as a list -/
def LeP (p q : Str × Int) : Prop := lexS q p = false
theorem leP_anti {p q : Str × Int} (a : LeP p q) (b : LeP q p) : p = q := by
  obtain ⟨a1, a2⟩ := lexS_no.mp a
  obtain ⟨b1, b2⟩ := lexS_no.mp b
  have e : p.1 = q.1 := leS_anti a1 b1
  have := a2 e.symm
  have := b2 e
  exact Prod.ext e (by omega)
theorem sortP_one : ∀ (l m : List (Str × Int)), l.Pairwise LeP → m.Pairwise LeP → l.Perm m → l = m
  | [], m, _, _, h => by rw [List.nil_perm.mp h]
  | x :: l, [], _, _, h => absurd h.length_eq (by simp)
  | x :: l, y :: m, a, b, h => by
    obtain ⟨a1, a2⟩ := List.pairwise_cons.mp a
    obtain ⟨b1, b2⟩ := List.pairwise_cons.mp b
    have e : x = y := by
      rcases List.mem_cons.mp (h.mem_iff.mp (List.mem_cons_self (a := x) (l := l))) with e | hx
      · exact e
      · rcases List.mem_cons.mp (h.mem_iff.mpr (List.mem_cons_self (a := y) (l := m))) with e | hy
        · exact e.symm
        · exact leP_anti (a1 y hy) (b1 x hx)
    subst e
    rw [sortP_one l m a2 b2 (List.Perm.cons_inv h)]
open Classical in
/-- sorted pairs -/
noncomputable def sortP (l : List (Str × Int)) : List (Str × Int) := if h : ∃ zs : List (Str × Int), zs.Pairwise LeP ∧ zs.Perm l then Classical.choose h else l
theorem sortP_is {l zs : List (Str × Int)} (h1 : zs.Pairwise LeP) (h2 : zs.Perm l) : zs = sortP l := by
  have h : ∃ zs : List (Str × Int), zs.Pairwise LeP ∧ zs.Perm l := ⟨zs, h1, h2⟩
  unfold sortP
  rw [dif_pos h]
  obtain ⟨g1, g2⟩ := Classical.choose_spec h
  exact sortP_one _ _ h1 g1 (h2.trans g2.symm)
theorem sortP_perm (l : List (Str × Int)) : (sortP l).Perm l := by
  unfold sortP
  split
  · rename_i h
    exact (Classical.choose_spec h).2
  · exact .refl _
theorem sortP_len (l : List (Str × Int)) : (sortP l).length = l.length := (sortP_perm l).length_eq
/-- a pair that was made here -/
def tupS (q : Str × Int) : Ty := ⟨fun v H => ∃ t, v = .ref t ∧ H t = some (.tup [.str q.1, .int q.2]), fun {v H H'} e ⟨t, h1, h2⟩ => ⟨t, h1, e _ _ h2⟩⟩
instance (q : Str × Int) : Stb (tupS q) := ⟨fun e ⟨t, h1, h2⟩ => ⟨t, h1, e _ _ (fun z => z) h2⟩⟩
theorem tupS_T {K : PySem.W.Frag} {q : Str × Int} {v : V} {H : Hp} (h : tupS q v H) : tupT K [strT q.1, intT q.2] v H := by
  obtain ⟨t, rfl, h⟩ := h
  exact ⟨t, _, rfl, .inl h, rfl, rfl, trivial⟩
theorem tupsS_T {K : PySem.W.Frag} {H : Hp} : ∀ {l : List (Str × Int)} {vs : List V}, All2 (l.map tupS) vs H → All2 (l.map fun q => tupT K [strT q.1, intT q.2]) vs H
  | [], [], _ => trivial
  | q :: l, v :: vs, ⟨h, hs⟩ => ⟨tupS_T h, tupsS_T hs⟩
/-- which pair stands there -/
def pairS (H : Hp) : V → Str × Int
  | .ref t => match H t with
    | some (.tup [.str i, .int j]) => (i, j)
    | _ => ("", 0)
  | _ => ("", 0)
theorem pairS_is {H : Hp} {q : Str × Int} {v : V} (h : tupS q v H) : pairS H v = q := by
  obtain ⟨t, rfl, h⟩ := h
  unfold pairS
  simp only [h]
theorem pairS_map {H : Hp} : ∀ {l : List (Str × Int)} {vs : List V}, All2 (l.map tupS) vs H → vs.map (pairS H) = l
  | [], [], _ => rfl
  | q :: l, v :: vs, ⟨h, hs⟩ => by
    rw [List.map_cons, pairS_is h, pairS_map hs]
theorem pairS_all {H : Hp} : ∀ {l : List (Str × Int)} {vs : List V}, All2 (l.map tupS) vs H → ∀ x ∈ vs, tupS (pairS H x) x H
  | [], [], _, x, hx => by cases hx
  | q :: l, v :: vs, ⟨h, hs⟩, x, hx => by
    rcases List.mem_cons.mp hx with e | e
    · subst e
      rw [pairS_is h]
      exact h
    · exact pairS_all hs x e
theorem all2_self {H : Hp} : ∀ {ys : List V}, (∀ x ∈ ys, tupS (pairS H x) x H) → All2 ((ys.map (pairS H)).map tupS) ys H
  | [], _ => trivial
  | y :: ys, h => ⟨h y List.mem_cons_self, all2_self fun x hx => h x (List.mem_cons_of_mem _ hx)⟩
section
variable {X : Cx} {Γ : Ctx} {e a b : Expr} {p pos : Pos} {l : List (Str × Int)}
/-- (x, i), as it is made -/
theorem g_tupS {x : Str} {i : Int} {k : Nat} (ha : G X Γ a (strT x)) (hb : G X Γ b (intT i)) (hs : starEach [a, b] X.env = (false, eval a X.env) :: starEach [b] X.env := by exact se_cons rfl) (hs2 : starEach [b] X.env = (false, eval b X.env) :: starEach [] X.env := by exact se_cons rfl) : G X Γ (.Tuple [a, b] k pos) (tupS (x, i)) := fun σ H t Q q =>
  toE (pe_tup (RL.pa [a, b])) (ga_cons ha (ga_cons hb ga_nil hs2) hs σ H t _ fun vs H1 e1 h1 => by
    match vs, h1 with
    | [v, u], ⟨h2, h3, _⟩ =>
      have h2' : v = .str x := h2
      have h3' : u = .int i := h3
      subst h2'; subst h3'
      exact ⟨by show 2 ≤ sizeLine; decide, fun p hp => q _ _ (e1.trans (Ex.new hp)) ⟨p, rfl, upd_same⟩⟩)
theorem g_sortedPS (h : G X Γ e (lstT (l.map tupS))) (hm : X.mg "sorted" = none) (hg : Gl X "sorted" := by rfl) (he : starEach [e] X.env = (false, eval e X.env) :: starEach [] X.env := by exact se_cons rfl) :
    G X Γ (.Call (.Name "sorted" p) [e] [] pos) (lstT ((sortP l).map tupS)) := fun σ H t Q q =>
  tE_frz (toE (pe_callB cr_sortedPS hg hm (by decide +kernel) (pa_cons (pe e) pa_nil he) (he := he)) (h σ H t _ fun v H1 e1 ⟨a, vs, ev, hf, h2⟩ => by
    subst ev
    have hall := pairS_all h2
    refine ⟨a, vs, pairS H1, rfl, hf.sq, fun x hx => ?_, fun ys d hs hb hn => ⟨d, _, upd_same, trivial, fun od => ?_⟩⟩
    · obtain ⟨t, e, ht⟩ := hall x hx
      exact ⟨t, e, .inl (.inl ht)⟩
    · rw [upd_upd]
      have hp : (ys.map (pairS H1)).Perm l := by
        have z := hb.perm.map (pairS H1)
        rwa [pairS_map h2] at z
      have hsrt : (ys.map (pairS H1)).Pairwise LeP := List.pairwise_map.mpr hs
      have hz := all2_self (H := H1) (ys := ys) fun x hx => hall x (hb.perm.mem_iff.mp hx)
      rw [sortP_is hsrt hp] at hz
      exact q _ _ (e1.trans (Ex.new hn)) ⟨d, ys, rfl, ⟨od, upd_same⟩, hz.up (Ex.new hn)⟩))
end
end RL

set_option Elab.async false
set_option linter.all false
set_option maxRecDepth 100000
set_option maxHeartbeats 2000000
/-! RLdget: d.get(k, x) of a dict that is read; the dict of a count -/
namespace RL
open PySem PySem.Spec PyProof.Rows L2 NM
section
variable {X : Cx} {Γ : Ctx} {e o : Expr} {pos p apos : Pos}
theorem g_get2R {kvs : List (Key × V)} {k : Key} {f : Expr} {y : V} {cpos : Pos} (hu : X.A.units + 1 < cLine) (ho : G X Γ o (rdT kvs)) (hk : G X Γ e (valT (kV k))) (hf : G X Γ f (valT y)) (m : M2 X o "get" apos e f cpos) : G X Γ (.Call (.Attribute o "get" apos) [e, f] [] cpos) (valT ((valV kvs k).getD y)) := fun σ H t Q q =>
  toE (pe_dget2 hu (pe o) (pe e) (pe f) m) (ho σ H t _ fun v H1 e1 h1 => by
    obtain ⟨a, ev, ha⟩ := h1
    refine ⟨a, ev, .inl ⟨kvs, ha⟩, hk σ H1 (t.up e1) _ fun u H2 e2 h2 => hf σ H2 (t.up (e1.trans e2)) _ fun z H3 e3 h3 => ?_⟩
    obtain ⟨a', ev', ha'⟩ := (rdT kvs).up (e2.trans e3) (⟨a, ev, ha⟩ : rdT kvs v H1)
    rw [ev] at ev'; cases ev'
    have hz : z = y := h3
    subst hz
    exact ⟨_, .inl ⟨kvs, k, ha', h2, rfl⟩, q _ H3 (e1.trans (e2.trans e3)) rfl⟩)
end
/-- f, then p found c times -/
def tailK (f : NK) (p : Int) (c : Nat) : NK := if c = 0 then f else f ++ [(p, (c : Int))]
theorem tail_look {f : NK} {p : Int} {c : Nat} (h : p ∉ f.map (·.1)) : look (tailK f p c) p = c := by
  unfold tailK
  by_cases z : c = 0
  · rw [if_pos z, look_none h, z]
    rfl
  · rw [if_neg z]
    induction f with
    | nil => rw [List.nil_append, look_cons, if_pos rfl]
    | cons q f ih =>
      rw [List.map_cons, List.mem_cons, not_or] at h
      rw [List.cons_append, look_cons, if_neg (fun e => h.1 e.symm)]
      exact ih h.2
theorem tail_put {f : NK} {p : Int} {c : Nat} (h : p ∉ f.map (·.1)) : putK (kvN (tailK f p c)) (Sum.inl p : Key) (.int (c + 1)) = kvN (tailK f p (c + 1)) := by
  have hn : ∀ kv ∈ kvN f, ¬ kv.1 = (Sum.inl p : Key) := fun kv hk e => by
    obtain ⟨q, hq, rfl⟩ := List.mem_map.mp hk
    have : q.1 = p := Sum.inl.inj e
    exact h (this ▸ List.mem_map_of_mem hq)
  have hany : ((kvN f).any fun kv => decide (kv.1 = (Sum.inl p : Key))) = false := by
    rw [List.any_eq_false]
    intro kv hk
    simpa using hn kv hk
  have hmap : (kvN f).map (fun kv => if kv.1 = (Sum.inl p : Key) then (kv.1, V.int (c + 1)) else kv) = kvN f := by
    refine (List.map_congr_left fun kv hk => if_neg (hn kv hk)).trans (List.map_id' _)
  unfold tailK
  rw [if_neg (Nat.succ_ne_zero c)]
  by_cases z : c = 0
  · subst z
    rw [if_pos rfl]
    unfold putK
    rw [hany, if_neg (by decide)]
    unfold kvN
    rw [List.map_append]
    rfl
  · rw [if_neg z]
    have e : kvN (f ++ [(p, (c : Int))]) = kvN f ++ [((Sum.inl p : Key), V.int c)] := by unfold kvN; rw [List.map_append]; rfl
    have e2 : kvN (f ++ [(p, ((c + 1 : Nat) : Int))]) = kvN f ++ [((Sum.inl p : Key), V.int (c + 1))] := by unfold kvN; rw [List.map_append]; rfl
    rw [e, e2]
    unfold putK
    rw [List.any_append, if_pos (by simp), List.map_append, hmap]
    simp
end RL

set_option Elab.async false
set_option linter.all false
set_option maxRecDepth 100000
set_option maxHeartbeats 2000000
/-! RLren: (a, *b), comprehensions with three names, dicts of texts; sayings with other names -/
namespace RL
open PySem PySem.Spec PyProof.Rows L2
theorem own_tup3 {K : PySem.W.Frag} {x y z : Str} {i j l : Nat} (hij : i ≠ j) (hil : i ≠ l) (hjl : j ≠ l) : OwnTgt (gTup K 3 (gCons (gName i) (gCons (gName j) (gCons (gName l) gNil)))) [(x, i), (y, j), (z, l)] := fun v σ H Q h => by
  obtain ⟨a, xs, ev, ht, hl, v1, r1, e1, v2, r2, e2, v3, r3, e3, e4, q⟩ := h
  refine ⟨a, xs, ev, ht, hl, v1, r1, e1, v2, r2, e2, v3, r3, e3, e4, ?_, q⟩
  show ((((((((σ.set l none).set j none).set i none).set i (some v1)).set j (some v2)).set l (some v3)).set l none).set j none).set i none = ((σ.set l none).set j none).set i none
  apply List.ext_getElem?
  intro n
  simp only [List.getElem?_set, List.length_set]
  by_cases h1 : i = n <;> by_cases h2 : j = n <;> by_cases h3 : l = n <;> simp_all
section
variable {X : Cx} {Γ : Ctx} {e a b c : Expr} {T U : Ty} {Ts : List Ty} {pos p tpos : Pos}
/-- [e for x, y, z in it] -/
theorem g_lc3 {α : Type} {x1 x2 x3 : Str} {j k l : Nat} {elt iter : Expr} {scope : Scope} {px1 px2 px3 : Pos} {kk : Nat} (ks : List α) (A B C R : α → Ty) [hSt : ∀ a, Stb (R a)] (hi : GI X Γ (.Tuple [.Name x1 px1, .Name x2 px2, .Name x3 px3] kk tpos) iter (ks.map fun p => tupT X.K [A p, B p, C p])) (hz : ks.length ≤ sizeLine)
    (hv : ∀ p ∈ ks, GC X scope ((((((Γ.set l none).set k none).set j none).set j (some (A p))).set k (some (B p))).set l (some (C p))) elt (R p)) (hjk : j ≠ k := by decide) (hjl : j ≠ l := by decide) (hkl : k ≠ l := by decide) (ok : BlkOk X.N X.env.scope scope [(x1, j), (x2, k), (x3, l)] := by first | exact blkOk_by rfl | exact blkOk_by (by decide +kernel))
    (hg : ∀ (s : Shared) (H : Hp) (C : Addr) (cl : List (Str × Addr)) (fp : List Addr), PG (X.blk s H scope (compEnvC scope cl C X.env) fp) (.Tuple [.Name x1 px1, .Name x2 px2, .Name x3 px3] kk tpos) (gTup X.K 3 (gCons (gName j) (gCons (gName k) (gCons (gName l) gNil)))) := by exact fun _ _ _ _ _ => pg_tup rfl (pgs_cons (pg_name (by assumption) rfl (Or.inl rfl)) (pgs_cons (pg_name (by assumption) rfl (Or.inl rfl)) (pgs_cons (pg_name (by assumption) rfl (Or.inl rfl)) pgs_nil))))
    {T' : Ty} (hR : lstT (ks.map R) = T' := by rfl) (hc : X.calm = true := by rfl) (hN : X.N.Nodup := by first | assumption | decide) (hf : ∀ x, foldedSetIterable iter X.env x = pure x := by intro _; rfl) : G X Γ (.ListComp elt [⟨.Tuple [.Name x1 px1, .Name x2 px2, .Name x3 px3] kk tpos, iter, [], 0⟩] scope pos) T' := by
  subst hR
  refine g_lc (ks.map fun p => some (R p)) hi ok hg (by rw [List.length_map, List.length_map]) (by rw [List.length_map]; exact hz) (fun i T hT => ?_) (fun U hU => by obtain ⟨a, _, e⟩ := List.mem_map.mp hU; cases e; exact hSt a) (own_tup3 hjk hjl hkl) (by unfold keptT; rw [kept_all]) hc hN hf
  rw [List.getElem?_map] at hT
  cases hp : ks[i]? with
  | none => rw [hp] at hT; cases hT
  | some q =>
    rw [hp] at hT
    cases hT
    exact ⟨_, tgts3, .inr ⟨R q, by rw [List.getElem?_map, hp]; rfl, gct_nil, hv q (List.mem_of_getElem? hp)⟩⟩
/-- (a, *b), b a list -/
theorem g_tupStarL {k : Nat} (ha : G X Γ a T) (hb : G X Γ b (lstT Ts)) (hl : Ts.length + 1 ≤ sizeLine) (hs : starEach [a, .Starred b p] X.env = (false, eval a X.env) :: starEach [.Starred b p] X.env := by exact se_cons rfl) : G X Γ (.Tuple [a, .Starred b p] k pos) (tupT X.K (T :: Ts)) := fun σ H t Q q =>
  toE (pe_tup (pa_cons (pe a) (StX.pa_star (pe b) pa_nil se_star) hs)) (ha σ H t _ fun v H1 e1 h1 => hb σ H1 (t.up e1) _ fun w H2 e2 ⟨l, vs, ev, hf, h2⟩ => ⟨l, vs, ev, .inr hf.sq, by rw [List.append_nil, List.length_cons, ← h2.len]; exact hl, fun d hd => q _ _ ((e1.trans e2).trans (Ex.new hd)) ⟨d, v :: vs, rfl, .inl (by rw [upd_same, List.append_nil]), T.up (Ex.new hd) (T.up e2 h1), h2.up (Ex.new hd)⟩⟩)
/-- (a, b, *c), c a tuple -/
theorem g_tupStarT {k : Nat} (ha : G X Γ a T) (hb : G X Γ b U) (hc : G X Γ c (tupT X.K Ts)) (hl : Ts.length + 2 ≤ sizeLine) (hs : starEach [a, b, .Starred c p] X.env = (false, eval a X.env) :: starEach [b, .Starred c p] X.env := by exact se_cons rfl) (hs2 : starEach [b, .Starred c p] X.env = (false, eval b X.env) :: starEach [.Starred c p] X.env := by exact se_cons rfl) : G X Γ (.Tuple [a, b, .Starred c p] k pos) (tupT X.K (T :: U :: Ts)) := fun σ H t Q q =>
  toE (pe_tup (pa_cons (pe a) (pa_cons (pe b) (StX.pa_star (pe c) pa_nil se_star) hs2) hs)) (ha σ H t _ fun v H1 e1 h1 => hb σ H1 (t.up e1) _ fun u H2 e2 h2 => hc σ H2 (t.up (e1.trans e2)) _ fun w H3 e3 ⟨l, vs, ev, hf, h3⟩ => ⟨l, vs, ev, .inl hf.sq, by rw [List.append_nil, List.length_cons, List.length_cons, ← h3.len]; exact hl, fun d hd => q _ _ (((e1.trans e2).trans e3).trans (Ex.new hd)) ⟨d, v :: u :: vs, rfl, .inl (by rw [upd_same, List.append_nil]), T.up (Ex.new hd) (T.up (e2.trans e3) h1), U.up (Ex.new hd) (U.up e3 h2), h3.up (Ex.new hd)⟩⟩)
/-- tuple(l) -/
theorem g_tuple1 (h : G X Γ e (lstT Ts)) (hm : X.mg "tuple" = none) (hg : Gl X "tuple" := by rfl) (he : starEach [e] X.env = (false, eval e X.env) :: starEach [] X.env := by exact se_cons rfl) : G X Γ (.Call (.Name "tuple" p) [e] [] pos) (tupT X.K Ts) :=
  (g_tupleL (α := Unit) (Ts := fun _ => Ts) (G.un h) hm hg he).one
/-! ### dicts of texts -/
def kvS (l : List (Str × Str)) : List (Key × V) := l.map fun q => (Sum.inr q.1, V.str q.2)
theorem kvS_val (l : List (Str × Str)) (x : Str) : valV (kvS l) (Sum.inr x : Key) = (l.lookup x).map V.str := by
  induction l with
  | nil => rfl
  | cons q l ih =>
    show valV (((Sum.inr q.1 : Key), V.str q.2) :: kvS l) _ = _
    rw [List.lookup_cons]
    by_cases h : q.1 = x
    · rw [valV_pos (by rw [h]), show (x == q.1) = true from by rw [h]; exact beq_self_eq_true x]
      rfl
    · rw [valV_neg (fun z => h (Sum.inr.inj z)), show (x == q.1) = false from beq_false_of_ne fun z => h z.symm, ih]
/-- what stands for a name -/
def nmD (l : List (Str × Str)) (x : Str) : Str := (l.lookup x).getD x
theorem nmD_val (l : List (Str × Str)) (x : Str) : (valV (kvS l) (Sum.inr x : Key)).getD (V.str x) = V.str (nmD l x) := by
  rw [kvS_val]
  unfold nmD
  cases l.lookup x <;> rfl
variable {o f : Expr} {apos cpos : Pos} {x : Str} {l : List (Str × Str)}
/-- d.get(x, x) -/
theorem g_getN (hu : X.A.units + 1 < cLine) (ho : G X Γ o (dicT (kvS l))) (hk : G X Γ e (strT x)) (hf : G X Γ f (strT x)) (m : M2 X o "get" apos e f cpos := by exact ⟨rfl, rfl, rfl, rfl⟩) : G X Γ (.Call (.Attribute o "get" apos) [e, f] [] cpos) (strT (nmD l x)) :=
  G.is (g_get2 (k := (Sum.inr x : Key)) (y := .str x) hu ho hk hf m) (by rw [nmD_val])
end
section
variable {X : Cx} {Γ : Ctx} {a b : Expr} {pos : Pos}
/-- k in d, d a frozen dict, as a test -/
theorem gt_inD {kvs : List (Key × V)} {kk : Key} (hu : X.A.units + 1 < cLine) (ha : G X Γ a (valT (kV kk))) (hb : G X Γ b (dicT kvs)) (hm : behindInMarks .In b = false := by rfl) : GT X Γ (.Compare a [.In] [b] pos) (valV kvs kk).isSome := fun σ H t Q q =>
  toT (pt_cmp (pc_din hu (pe a) (pe b)) hm) (ha σ H t _ fun v H1 e1 h1 => hb σ H1 (t.up e1) _ fun w H2 e2 h2 => by
    obtain ⟨d, ev, hd⟩ := rd_dict h2
    exact ⟨d, _, ev, .inl ⟨kvs, kk, hd, h1, rfl⟩, _, rfl, q H2 (e1.trans e2)⟩)
theorem gt_inS {l : List (Str × Str)} {x : Str} {r : Bool} (hu : X.A.units + 1 < cLine) (ha : G X Γ a (strT x)) (hb : G X Γ b (dicT (kvS l))) (hr : (l.lookup x).isSome = r) (hm : behindInMarks .In b = false := by rfl) : GT X Γ (.Compare a [.In] [b] pos) r :=
  GT.is (gt_inD (kk := (Sum.inr x : Key)) hu ha hb hm) (by rw [kvS_val, ← hr]; cases l.lookup x <;> rfl)
end
/-! ### sayings with other names -/
section
variable (f : Str → Str)
noncomputable def renP (l : PowL) : PowL := sortP (l.map fun q => (f q.1, q.2))
noncomputable def renT (t : Trm) : Trm := (renP f t.1, t.2)
noncomputable def renC (r : Cmpn) : Cmpn := (renP f r.1, r.2)
mutual
noncomputable def renS : Say → Say
  | .cmp e a b => .cmp e (renT f a) (renT f b)
  | .cnt rows way => .cnt (rows.map (renC f)) way
  | .neg s => .neg (renS s)
  | .con c l => .con c (renSL l)
  | .qu e x s => .qu e x (renS s)
  | .use n xs => .use n (xs.map f)
noncomputable def renSL : List Say → List Say
  | [] => []
  | s :: l => renS s :: renSL l
end
theorem renSL_map (l : List Say) : renSL f l = l.map (renS f) := by
  induction l with
  | nil => rw [renSL]; rfl
  | cons s l ih => rw [renSL, ih, List.map_cons]
end
end RL

set_option Elab.async false
set_option linter.all false
set_option maxRecDepth 100000
set_option maxHeartbeats 2000000
/-! RLown: own `__contains__`, `__bool__`, `__repr__`, properties -/
namespace RL
open PySem PySem.Spec PyProof.Rows L2
section
variable {P : Program} {w : World} {A : Around} {E : Value → Shared → Prop} {s : Shared} {K : PySem.W.Frag} {a C f : Addr} {ob : Obj} {od : Option Obj} {v : Value}
theorem own_in {Q : Value → Shared → Prop} (KX : K.In s.heap) (J : PySem.W.InstAt s.heap a ob C od) (at_ : PySem.W.findIn K (.ref C) "__contains__" = some (some (.ref f))) (fn : PySem.W.isFn K (.ref f) = true)
    (run : wpAny (model P w) A (call (.ref f) [.ref a, v]) (fun r s' => ∃ b, r = .bool b ∧ Q (.bool b) s') E s) : wpAny (model P w) A (compareOp .In v (.ref a)) Q E s := by
  have key : wpAny (model P w) A (contains (.ref a) v) (fun b s' => Q (.bool b) s') E s := by
    unfold contains
    refine wpAny_holding (wpAny_bind (wpAny_bind (J.type.here ((PySem.W.looks_findIn KX at_).here ?_))))
    rw [if_neg (fun z => by simp at z)]
    exact wpAny_bind (PySem.W.unlessNone_K KX J at_ fn (wpAny_mono run (fun r s' ⟨b, e, q⟩ => by
      subst e
      exact wpAny_truthy_bool q) fun _ _ z => z))
  exact wpAny_bind (wpAny_mono key (fun _ _ q => wpAny_pure q) fun _ _ z => z)
theorem own_truth {Q : Bool → Shared → Prop} (KX : K.In s.heap) (J : PySem.W.InstAt s.heap a ob C od) (at_ : PySem.W.findIn K (.ref C) "__bool__" = some (some (.ref f))) (fn : PySem.W.isFn K (.ref f) = true)
    (run : wpAny (model P w) A (call (.ref f) [.ref a]) (fun r s' => ∃ b, r = .bool b ∧ Q b s') E s) : wpAny (model P w) A (truthy (.ref a)) Q E s := by
  unfold truthy
  refine wpAny_bind (m := callSpecial? (.ref a) (Str.ofString "__bool__")) (PySem.W.special_fn KX J at_ (beq_iff_eq.mp fn) (wpAny_mono run (fun r s' ⟨b, e, q⟩ => ?_) fun _ _ z => z))
  subst e
  exact wpAny_pure q
theorem own_repr {Q : Value → Shared → Prop} (hu : A.in1.units < cLine) (KX : K.In s.heap) (J : PySem.W.InstAt s.heap a ob C od) (at_ : PySem.W.findIn K (.ref C) "__repr__" = some (some (.ref f))) (fn : PySem.W.isFn K (.ref f) = true)
    (run : wpAny (model P w) A.in1 (call (.ref f) [.ref a]) (fun r s' => ∃ y t, r = .str y t ∧ Q (.str y t) s') E s) : wpAny (model P w) A (call (.builtin "repr") [.ref a]) Q E s := by
  refine Calls.call_function_entry PySem.F.kind_repr PySem.F.plain_repr PySem.F.entry_repr (PySem.F.args_repr1 _) ?_
  unfold Builtin.«repr»
  refine wpAny_bind (m := oneArg "repr" _) (wpAny_pure (wpAny_bind (wpAny_cRoomFor hu (wpAny_bind (wpAny_bind (J.type.here ((PySem.W.looks_findIn KX at_).here ?_)))))))
  show wpAny _ _ (if (some (Value.ref f)).isNone = true then _ else _) _ _ _
  rw [if_neg (fun z => by simp at z)]
  refine wpAny_bind (m := callSpecialIfBound? (.ref a) (Str.ofString "__repr__") _) (PySem.W.ifBound_K KX J at_ fn (wpAny_mono run (fun r s' ⟨y, t, e, q⟩ => ?_) fun _ _ z => z))
  subst e
  refine wpAny_bind (wpAny_isInstance (typeIs_str _ _ _) isSubtype_str_str ?_)
  first
    | exact wpAny_pure ⟨_, rfl, q⟩
    | (rw [if_pos rfl]; exact wpAny_pure ⟨_, rfl, q⟩)
    | (simp only [if_true]; exact wpAny_pure ⟨_, rfl, q⟩)
end
section
variable {X : Cx} {Γ : Ctx} {Cs : Addr → Prop} {k : Nat} {ps : List Str} {sp : Sp} {C p g : Addr} {m : Str}
theorem op_inO (F : MtG X.prog X.w X.K X.mg X.base k Cs "__contains__" ps sp) (hr : Room k X.A) : OpR X (compareOp .In) (fun v w H Q => InsAny Cs w H ∧ sp [w, v] H (fun r H' => ∃ b, r = .bl b ∧ Q (.bl b) H') E0) := by
  intro pins s σ H v w u1 u2 Q I r1 r2 h
  obtain ⟨⟨a, C, dx, fs, ew, ha, hC⟩, q⟩ := h
  subst ew
  cases r2
  obtain ⟨ob, od, J⟩ := inst_of I ha
  obtain ⟨f, fd, F1, _, M, B⟩ := F.ex C hC
  refine own_in I.kIn J M.at_ M.fn (wpAny_mono (run_fn (us := [.ref a, u1]) (vs := [.ref a, v]) F1 hr B .nil pass0 I (.cons rfl (.cons r1 .nil)) q) (fun r s' ⟨v', H', I', r', b, e, q'⟩ => ?_) fun _ _ z => z)
  subst e
  obtain rfl : r = .bool b := r'
  exact ⟨b, rfl, .bl b, H', I', rfl, q'⟩
/-- a def's call two frames further in -/
theorem run_fn2 {f : Addr} {fd : FuncData} {pins : List (Addr × Obj)} {σ : L2.St} {H : Hp} {s : Shared} {Q : VK} {us : List Value} {vs : List V} (F : FnOk X.prog X.w X.K X.mg X.base CX0 k f fd ps sp) (hr : Room (k + 2) X.A) (hb : Binds X.K fd ps [])
    (I : Inv X pins σ H s) (r : Vals vs us) (h : sp vs H Q E0) : wpAny (model X.prog X.w) X.A.in1.in1 (call (.ref f) us) (EP X pins σ Q) X.xe s := by
  have b := hb s us I.kIn (by
    rw [List.append_nil, ← r.length, F.len _ _ _ _ h])
  rw [List.append_nil] at b
  refine wpAny_call (codeAny_mono (F.run X.A.in1.in1 X.stack s H ⟨us, []⟩ us vs Q E0 hr.in1.in1 I.env0.in1.in1 b r h) fun r s' hq => ?_)
  cases r with
  | error e => exact False.elim hq
  | ok fl =>
    cases fl with
    | ret u => exact I.after hq
    | next => exact False.elim hq
    | brk => exact False.elim hq
    | cont => exact False.elim hq
theorem own_bool {A : Around} {E : Value → Shared → Prop} {s : Shared} {P : Program} {w : World} {v : Value} {Q : Value → Shared → Prop} (run : wpAny (model P w) A.in1.in1 (truthy v) (fun b s' => Q (.bool b) s') E s) : wpAny (model P w) A (call (.type "bool") [v]) Q E s := by
  refine callType_codes (T := "bool") (Bi := Builtin.«object.__init__») (Q₁ := fun r s1 => ∃ b, r = .bool b ∧ Q (.bool b) s1) PySem.F.called_bool (PySem.F.typeCall_bool_1 _) PySem.F.entry_object_init ?_ ?_
  · refine codeAny_of_tree ?_
    show wpAny _ A.in1.in1 (do checkBuiltinCall "bool.__new__" ⟨[.type "bool", v], []⟩; again (.builtin "bool.__new__" ⟨[.type "bool", v], []⟩)) _ _ s
    refine wpAny_bind (wpAny_of_eq (PySem.F.newCall_bool_1 _) (wpAny_pure ⟨plainId_quiet (by decide +kernel) _, codeAny_builtin PySem.F.entry_bool_new ?_⟩))
    rw [Around.under_plainId (by decide +kernel) _]
    have tree : Builtin.«bool.__new__» ⟨[.type "bool", v], []⟩ = (do
      if !(← isType (.type "bool")) then
        rule "bool.__new__.no-type"; raiseError "TypeError" s!"bool.__new__(X): X is not a type object ({← PySem.typeNameOf (.type "bool")})"
      if !(← isSubtype (.type "bool") (.type "bool")) then
        rule "bool.__new__.no-subtype"; raiseError "TypeError" s!"bool.__new__({← PySem.typeName (.type "bool")}): {← PySem.typeName (.type "bool")} is not a subtype of bool"
      ret (.bool (← truthy v))) := rfl
    rw [tree]
    refine wpAny_bind (wpAny_pure ?_)
    refine wpAny_bind (wpAny_of_eq PySem.F.conv_sub_bool ?_)
    exact wpAny_bind (wpAny_mono run (fun b s' q => wpAny_pure ⟨b, rfl, q⟩) fun _ _ z => z)
  · rintro obj s1 ⟨b, rfl, q⟩
    exact ⟨PySem.typeIs_bool _ _, PySem.F.args_object_init_2 _ _, object_init_meets PySem.F.called_bool.init.lookup PySem.F.called_bool.made (by decide) P w A.in1 _ s1 ⟨PySem.typeIs_bool _ _, rfl, q⟩⟩
theorem call_boolO (F : MtG X.prog X.w X.K X.mg X.base k Cs "__bool__" ps sp) (hr : Room (k + 2) X.A) : CallR X (.type "bool") (fun xs H Q => ∃ x, xs = [x] ∧ InsAny Cs x H ∧ sp [x] H (fun v H' => ∃ b, v = .bl b ∧ Q (.bl b) H') E0) := by
  intro pins s σ H xs us Q I r h
  obtain ⟨x, rfl, ⟨a, C, dx, fs, ex, ha, hC⟩, q⟩ := h
  subst ex
  obtain ⟨u, rfl, ru⟩ := vals1 r
  obtain rfl : u = Value.ref a := ru
  obtain ⟨ob, od, J⟩ := inst_of I ha
  obtain ⟨f, fd, F1, _, M, B⟩ := F.ex C hC
  refine own_bool (own_truth I.kIn J M.at_ M.fn (wpAny_mono (run_fn2 (us := [.ref a]) (vs := [.ref a]) F1 hr B I (.cons rfl .nil) q) (fun v s' ⟨v', H', I', r', b, e, q'⟩ => ?_) fun _ _ z => z))
  subst e
  obtain rfl : v = .bool b := r'
  exact ⟨b, rfl, .bl b, H', I', rfl, q'⟩
theorem call_reprO (F : MtG X.prog X.w X.K X.mg X.base k Cs "__repr__" ps sp) (hr : Room (k + 1) X.A) : CallR X (.builtin "repr") (fun xs H Q => ∃ x, xs = [x] ∧ InsAny Cs x H ∧ sp [x] H (fun v H' => ∃ y, v = .str y ∧ Q (.str y) H') E0) := by
  intro pins s σ H xs us Q I r h
  obtain ⟨x, rfl, ⟨a, C, dx, fs, ex, ha, hC⟩, q⟩ := h
  subst ex
  obtain ⟨u, rfl, ru⟩ := vals1 r
  obtain rfl : u = Value.ref a := ru
  obtain ⟨ob, od, J⟩ := inst_of I ha
  obtain ⟨f, fd, F1, _, M, B⟩ := F.ex C hC
  refine own_repr hr.in1.units0 I.kIn J M.at_ M.fn (wpAny_mono (run_fn1 (us := [.ref a]) (vs := [.ref a]) F1 hr B I (.cons rfl .nil) q) (fun v s' ⟨v', H', I', r', y, e, q'⟩ => ?_) fun _ _ z => z)
  subst e
  obtain ⟨t, rfl⟩ := r'
  exact ⟨y, t, rfl, .str y, H', I', ⟨_, rfl⟩, q'⟩
end
end RL
namespace RL
open PySem PySem.Spec PyProof.Rows L2
/-- what the classes in Cs have in common: the property m, its getter keeps a promise -/
structure PrG (P : Program) (w : World) (K : PySem.W.Frag) (mg : Str → Option Value) (base : Heap) (k : Nat) (Cs : Addr → Prop) (m : Str) (sp : Sp) : Prop where
  ex : ∀ C, Cs C → ∃ p g fd, FnOk P w K mg base CX0 k g fd ["self"] sp ∧ Cls K C ∧ PropOf K C m p g ∧ Binds K fd ["self"] []
section
variable {X : Cx} {Γ : Ctx} {o e c : Expr} {T : Ty} {α : Type} {A : α → List Ty} {R : α → Ty} {k : Nat} {Cs : Addr → Prop} {m : Str} {ps : List Str} {pos p : Pos}
theorem g_prop (F : PrG X.prog X.w X.K X.mg X.base k Cs m (spG A R)) (hr : Room (k + 1) X.A) (i : α) (ho : G X Γ o T) (hI : ∀ v H, T v H → InsAny Cs v H) (hT : ∀ v H, T v H → All2 (A i) [v] H := by exact fun _ _ h => ⟨h, trivial⟩)
    (hb : attributeBase o m X.env (eval o X.env) = eval o X.env := by rfl) {T' : Ty} (hR : R i = T' := by rfl) : G X Γ (.Attribute o m pos) T' := fun σ H t Q q => ⟨fun pins s I => by
  subst hR
  refine attr_of hb (thn ((ho σ H t (fun v H1 => Ex H H1 ∧ T v H1) fun v H1 e1 h1 => ⟨e1, h1⟩).run pins s I) fun u s1 ⟨v, H1, I1, rx, e1, h1⟩ => ?_)
  obtain ⟨a, C, dx, fs, ev, ea, hC⟩ := hI v H1 h1
  subst ev
  obtain rfl : u = .ref a := rx
  obtain ⟨p, g, fd, F1, cl, hp, B⟩ := F.ex C hC
  exact getprop_ok I1 ea cl hp F1 hr B .nil pass0 ⟨i, hT _ _ h1, fun v H2 e2 h2 => q v H2 (e1.trans e2) h2⟩⟩
/-- x in o, o with an own `__contains__` that answers by a bool -/
theorem g_inO {b : α → Bool} (F : MtG X.prog X.w X.K X.mg X.base k Cs "__contains__" ps (spG A fun i => blT (b i))) (hr : Room k X.A) (i : α) {U : Ty} (he : G X Γ e U) (ho : G X Γ o T) (hI : ∀ v H, T v H → InsAny Cs v H) (hT : ∀ v w H, T v H → U w H → All2 (A i) [v, w] H := by exact fun _ _ _ h h' => ⟨h, h', trivial⟩) (hm : behindInMarks .In o = false := by rfl) : G X Γ (.Compare e [.In] [o] pos) (blT (b i)) :=
  g_cmp (op_inO F hr) he ho (fun v w H hv hw Q q => ⟨hI w H hw, i, hT w v H hw hv, fun r H' e' h' => ⟨b i, h', q _ H' e' rfl⟩⟩) hm
/-- bool(o), by an own `__bool__` -/
theorem g_boolO {b : α → Bool} (F : MtG X.prog X.w X.K X.mg X.base k Cs "__bool__" ps (spG A fun i => blT (b i))) (hr : Room (k + 2) X.A) (i : α) (ho : G X Γ o T) (hm : X.mg "bool" = none) (hI : ∀ v H, T v H → InsAny Cs v H) (hT : ∀ v H, T v H → All2 (A i) [v] H := by exact fun _ _ h => ⟨h, trivial⟩) (hg : Gl X "bool" := by rfl) (he : starEach [o] X.env = (false, eval o X.env) :: starEach [] X.env := by exact se_cons rfl) : G X Γ (.Call (.Name "bool" p) [o] [] pos) (blT (b i)) :=
  g_callTy (call_boolO F hr) hm (by decide +kernel) (ga_cons ho ga_nil he) (fun vs H h2 Q q => by
    obtain ⟨v, rfl, hv⟩ := one2 h2
    exact ⟨v, rfl, hI v H hv, i, hT v H hv, fun r H' e' h' => ⟨b i, h', q _ H' e' rfl⟩⟩) hg (he := he)
/-- repr(o), by an own `__repr__` -/
theorem g_reprO {y : α → Str} (F : MtG X.prog X.w X.K X.mg X.base k Cs "__repr__" ps (spG A fun i => strT (y i))) (hr : Room (k + 1) X.A) (i : α) (ho : G X Γ o T) (hm : X.mg "repr" = none) (hI : ∀ v H, T v H → InsAny Cs v H) (hT : ∀ v H, T v H → All2 (A i) [v] H := by exact fun _ _ h => ⟨h, trivial⟩) (hg : Gl X "repr" := by rfl) (he : starEach [o] X.env = (false, eval o X.env) :: starEach [] X.env := by exact se_cons rfl) : G X Γ (.Call (.Name "repr" p) [o] [] pos) (strT (y i)) :=
  g_callB (call_reprO F hr) hm (by decide +kernel) (ga_cons ho ga_nil he) (fun vs H h2 Q q => by
    obtain ⟨v, rfl, hv⟩ := one2 h2
    exact ⟨v, rfl, hI v H hv, i, hT v H hv, fun r H' e' h' => ⟨y i, h', q _ H' e' rfl⟩⟩) hg (he := he)
end
end RL

set_option Elab.async false
set_option linter.all false
set_option maxRecDepth 100000
set_option maxHeartbeats 2000000
/-! RLmore: list.insert, list.clear; methods that give new lists; an own == asked of another thing -/
namespace RL
open PySem PySem.Spec PyProof.Rows L2
section
variable {X : Cx}
theorem mt_clear : MtR X "list.clear" (fun x vs H Q => ∃ (l : Addr) (xs : List V), x = .ref l ∧ vs = [] ∧ H l = some (.lst xs) ∧ Q .non (upd H l (.lst []))) := by
  intro pins s σ H x vs v us Q I rx rv h
  obtain ⟨l, xs, rfl, rfl, hH, q⟩ := h
  cases rx
  cases rv
  obtain ⟨z, its, n, r, hl, e⟩ := I.lstM hH
  exact call_meets PySem.F.slot_list_clear ⟨_, e, rfl⟩ PySem.F.entry_list_clear (PySem.F.args_list_clear_1 _) (AutoSeq1.list_clear_list_0 l its.toArray n (by rw [List.size_toArray]; omega)) ⟨e, .non, _, I.lset (its' := []) hH e rfl .nil (Nat.zero_le _), rfl, q⟩
end
section
variable {X : Cx} {Γ : Ctx} {e o a b : Expr} {T U : Ty} {Ts : List Ty} {pos p apos cpos : Pos} {x : Str} {H0 : Bs} {D : Ends} {rest : List Stmt} {α : Type} {A : α → List Ty} {R : α → List Ty} {k : Nat} {ps : List Str} {m : Str} {Cs : Addr → Prop}
/-- e.clear(), e a new list -/
theorem b_clearNew (he : GM X Γ e Ts) (h : Bd X Γ rest H0 D) (hbase : attributeBase e "clear" X.env (eval e X.env) = eval e X.env := by rfl) (hline : (apos.endLine == cpos.line) = true := by rfl)
    (hsw : swapsWith (.Call (.Attribute e "clear" apos) [] [] cpos) none pos.line X.env = pure false := by rfl) : Bd X Γ (.Expr (.Call (.Attribute e "clear" apos) [] [] cpos) pos :: rest) H0 D :=
  b_cons fun σ H e0 t => toS (ps_expr (pe_bm0 PySem.F.plainAttrs_list PySem.F.slot_list_clear PySem.F.type_list_clear mt_clear (pe e) hbase hline) hsw) (he σ H t _ fun d ws H1 e1 hd hw h1 => by
    have e2 : Ex H (upd H1 d (.lst [])) := e1.mut hd hw
    exact ⟨.inl ⟨rfl, ws, .inl (.inl hw)⟩, d, ws, rfl, rfl, hw, h _ _ (e0.trans e2) (t.up e2)⟩)
/-- e.append(x), e a new list -/
theorem b_appNew (he : GM X Γ e Ts) (ha : G X Γ a U) (hl : Ts.length < sizeLine) (h : Bd X Γ rest H0 D) (hbase : attributeBase e "append" X.env (eval e X.env) = eval e X.env := by rfl)
    (hfew : ((backTo cpos (starEach [a] X.env)).all (fun x => !x.1) && (backToKw cpos (keywordEach [] X.env)).all (fun x => x.1.isSome)
      && decide ([a].length + ([] : List Keyword).length + (if ([] : List Keyword).isEmpty then 0 else 1) < 30)) = true := by first | rfl | (rw [se_one rfl]; rfl))
    (hline : (apos.endLine == cpos.line) = true := by rfl) (hs : starEach [a] X.env = (false, eval a X.env) :: starEach [] X.env := by exact se_cons rfl)
    (hsw : swapsWith (.Call (.Attribute e "append" apos) [a] [] cpos) none pos.line X.env = pure false := by rfl) : Bd X Γ (.Expr (.Call (.Attribute e "append" apos) [a] [] cpos) pos :: rest) H0 D :=
  b_cons fun σ H e0 t => toS (ps_expr (pe_bm PySem.F.plainAttrs_list PySem.F.slot_list_append PySem.F.type_list_append mt_append (pe e) (RL.pa [a]) hbase hfew hline hs (se_any rfl)) hsw) (he σ H t _ fun d ws H1 e1 hd hw h1 => by
    refine ⟨.inl ⟨rfl, ws, .inl (.inl hw)⟩, ga_cons ha ga_nil hs σ H1 (t.up e1) _ fun us H2 e2 h2 => ?_⟩
    obtain ⟨u, rfl, hu⟩ := one2 h2
    have hw2 := e2 _ _ hw
    have e3 : Ex H (upd H2 d (.lst (ws ++ [u]))) := (e1.trans e2).mut hd hw2
    exact ⟨d, ws, u, rfl, rfl, hw2, by rw [← h1.len]; exact hl, h _ _ (e0.trans e3) (t.up e3)⟩)
/-- x.insert(i, e) -/
theorem b_insert [hTs : Stbs Ts] [hSt : Stb T] (j : Nat) {aa : Addr} {i : Int} (hT : Γ[j]? = some (some (mlT aa Ts))) (hb : G X Γ b (intT i)) (he : G X Γ e T) (hi : 0 ≤ i ∧ i < 2 ^ 63) (hl : Ts.length < sizeLine) (ha : H0.e aa = none) (hS : StbC aa (Γ.set j none))
    (h : Bd X (Γ.set j (some (mlT aa (Ts.take i.toNat ++ [T] ++ Ts.drop i.toNat)))) rest H0 D) (hN : X.N[j]? = some x := by rfl) (hv : Vis X.env.scope x := by first | exact Or.inl rfl | exact Or.inr (Or.inl rfl) | exact Or.inr (Or.inr rfl)) (hd : (x == ("__debug__" : Str)) = false := by decide) (hcd : (x == ("__classdict__" : Str)) = false := by decide)
    (hbase : attributeBase (.Name x p) "insert" X.env (eval (.Name x p) X.env) = eval (.Name x p) X.env := by rfl)
    (hfew : ((backTo cpos (starEach [b, e] X.env)).all (fun x => !x.1) && (backToKw cpos (keywordEach [] X.env)).all (fun x => x.1.isSome)
      && decide ([b, e].length + ([] : List Keyword).length + (if ([] : List Keyword).isEmpty then 0 else 1) < 30)) = true := by first | rfl | (rw [se_two rfl rfl]; rfl))
    (hline : (apos.endLine == cpos.line) = true := by rfl) (hs : starEach [b, e] X.env = (false, eval b X.env) :: starEach [e] X.env := by exact se_cons rfl) (hs2 : starEach [e] X.env = (false, eval e X.env) :: starEach [] X.env := by exact se_cons rfl)
    (hpl : (backTo cpos (starEach [e] X.env)).any (·.1) = false := by exact se_any rfl) (hsw : swapsWith (.Call (.Attribute (.Name x p) "insert" apos) [b, e] [] cpos) none pos.line X.env = pure false := by rfl) : Bd X Γ (.Expr (.Call (.Attribute (.Name x p) "insert" apos) [b, e] [] cpos) pos :: rest) H0 D :=
  b_cons fun σ H e0 t => toS (ps_expr (pe_bm PySem.F.plainAttrs_list PySem.F.slot_list_insert PySem.F.type_list_insert mt_insert (pe_var (i := j) hN hv hd hcd) (RL.pa [b, e]) hbase hfew hline hs hpl) hsw) (by
    obtain ⟨w, hw, ew, vs, hH, h3⟩ := t.get j hT
    subst ew
    refine ⟨_, hw, .inl ⟨rfl, vs, .inl (.inl hH)⟩, ga_cons hb (ga_cons he ga_nil hs2) hs σ H t _ fun us H1 e1 h1 => ?_⟩
    obtain ⟨u, y, rfl, hu, hy⟩ : ∃ u y, us = [u, y] ∧ intT i u H1 ∧ T y H1 := by
      match us, h1 with
      | [u, y], ⟨h0, h1, _⟩ => exact ⟨u, y, rfl, h0, h1⟩
    have hu' : u = .int i := hu
    subst hu'
    have hH1 := e1 _ _ hH
    have hm := Le.mut (o := .lst (vs.take i.toNat ++ [y] ++ vs.drop i.toNat)) hH1 trivial
    refine ⟨aa, vs, i, y, rfl, rfl, hH1, by rw [← h3.len]; exact hl, hi.1, hi.2, h _ _ ((e0.trans e1).mut ha hH1 trivial) (Typed.put (((t.up e1).drop j).mut hS hH1 trivial) (List.getElem?_eq_some_iff.mp hT).1 hw ⟨rfl, _, upd_same, ?_⟩)⟩
    have h4 := All2.up e1 h3
    exact ((All2.take _ (hTs.le hm h4)).append (show All2 [T] [y] _ from ⟨hSt.le hm hy, trivial⟩)).append (All2.drop _ (hTs.le hm h4)))
/-- o.m(), a new list -/
theorem gm_meth0 {pl : Sem Bool} (F : MtG X.prog X.w X.K X.mg X.base k Cs m ps (spM A R)) (hr : Room k X.A) (i : α) (ho : G X Γ o T) (hI : ∀ v H, T v H → InsOf Cs m v H) (hT : ∀ v H, T v H → All2 (A i) [v] H := by exact fun _ _ h => ⟨h, trivial⟩)
    (ht : eval (.Call (.Attribute o m apos) [] [] pos) X.env = (do
      let ov ← eval o X.env
      standAt apos.atName
      let (f, first) ← holding [ov] (getMethod ov m pl)
      callWith pos f first (backTo pos (starEach [] X.env)) (backToKw pos (keywordEach [] X.env))) := by rfl) {T' : List Ty} (hR : R i = T' := by rfl) : GM X Γ (.Call (.Attribute o m apos) [] [] pos) T' := fun σ H t Q q => by
  subst hR
  exact e_meth0 F hr ht (ho σ H t _ fun v H1 e1 h1 => ⟨hI v H1 h1, i, hT v H1 h1, fun d ws H3 e3 hd hw h3 => q d ws H3 (e1.trans e3) (e1.free hd) hw h3⟩)
end
section
variable {X : Cx} {Γ : Ctx} {e : Expr} {pos p : Pos}
/-- [elt for x in it], the list new -/
theorem gm_lcM {α : Type} {x : Str} {i : Nat} {elt iter : Expr} {scope : Scope} {px : Pos} (ks : List α) (A R : α → Ty) [hSt : ∀ a, Stb (R a)] (hi : GI X Γ (.Name x px) iter (ks.map A)) (hz : ks.length ≤ sizeLine)
    (hv : ∀ p ∈ ks, GC X scope ((Γ.set i none).set i (some (A p))) elt (R p)) (ok : BlkOk X.N X.env.scope scope [(x, i)] := by first | exact blkOk_by rfl | exact blkOk_by (by decide +kernel))
    (hg : ∀ (s : Shared) (H : Hp) (C : Addr) (cl : List (Str × Addr)) (fp : List Addr), PG (X.blk s H scope (compEnvC scope cl C X.env) fp) (.Name x px) (gName i) := by exact fun _ _ _ _ _ => pg_name (by assumption) rfl (Or.inl rfl))
    (hc : X.calm = true := by rfl) (hN : X.N.Nodup := by first | assumption | decide) (hf : ∀ x, foldedSetIterable iter X.env x = pure x := by intro _; rfl) : GM X Γ (.ListComp elt [⟨.Name x px, iter, [], 0⟩] scope pos) (ks.map R) := fun σ H t Q q => by
  refine g_lcU (ks.map fun p => some (R p)) hi ok hg (by rw [List.length_map, List.length_map]) (by rw [List.length_map]; exact hz) (fun j T hT => ?_) (fun U hU => by obtain ⟨a, _, e⟩ := List.mem_map.mp hU; cases e; exact hSt a) own_name hc hN hf t fun D H' acc e hD hacc hA => q D acc H' e hD hacc (by
    unfold keptT at hA
    rw [kept_all] at hA
    exact hA)
  rw [List.getElem?_map] at hT
  cases hp : ks[j]? with
  | none => rw [hp] at hT; cases hT
  | some p =>
    rw [hp] at hT
    cases hT
    exact ⟨_, tgt_name, .inr ⟨R p, by rw [List.getElem?_map, hp]; rfl, gct_nil, hv p (List.mem_of_getElem? hp)⟩⟩
/-- list(d), new -/
theorem gm_listD {kvs : List (Key × V)} (h : G X Γ e (dicT kvs)) (hm : X.mg "list" = none) (hc : X.calm = true := by rfl) (hg : Gl X "list" := by rfl) (he : starEach [e] X.env = (false, eval e X.env) :: starEach [] X.env := by exact se_cons rfl) : GM X Γ (.Call (.Name "list" p) [e] [] pos) (kvs.map fun z => valT (kV z.1)) := fun σ H t Q q =>
  toE (pe_callTy (cr_listF hc) hg hm (by decide +kernel) (pa_cons (pe e) pa_nil he) (he := he)) (h σ H t _ fun v H1 e1 ⟨d, o, ev, hd⟩ => by
    subst ev
    refine ⟨d, o, kvs, rfl, hd, fun a ha => q a _ _ (e1.trans (Ex.new ha)) (e1.free ha) upd_same ?_⟩
    have z := All2.of_vals (H := upd H1 a (.lst (kvs.map fun z => kV z.1))) (ws := kvs.map fun z => kV z.1)
    rwa [List.map_map] at z)
end
section
variable {P : Program} {w : World} {A : Around} {E : Value → Shared → Prop} {s : Shared} {K : PySem.W.Frag} {a C f : Addr} {ob : Obj} {od : Option Obj} {v : Value} {T : String}
/-- a == v by a's own `__eq__`, v of a built-in type that is no subtype of a's class -/
theorem own_eqT {Q : Value → Shared → Prop} (KX : K.In s.heap) (hu : A.units < cLine) (J : PySem.W.InstAt s.heap a ob C od) (ty : s.TypeIs v T) (at_ : PySem.W.findIn K (.ref C) "__eq__" = some (some (.ref f))) (fn : PySem.W.isFn K (.ref f) = true)
    (sub : PySem.W.subIn K (.type T) (.ref C) = some false) (run : wpAny (model P w) A (call (.ref f) [.ref a, v]) (fun r s' => ∃ b, r = .bool b ∧ Q (.bool b) s') E s) : wpAny (model P w) A (richCompare .Eq (.ref a) v) Q E s := by
  have go : wpAny (model P w) A (tryCompare (.ref a) "__eq__" v) (fun r s' => ∃ b, r = some (.bool b) ∧ Q (.bool b) s') E s := by
    unfold tryCompare
    refine wpAny_bind (PySem.W.ifBound_K KX J at_ fn (wpAny_mono run (fun z s' ⟨b, e, q⟩ => ?_) fun _ _ e => e))
    subst e
    exact wpAny_pure ⟨b, rfl, q⟩
  unfold richCompare
  simp only [oneThing_ref]
  refine wpAny_holding (wpAny_bind (wpAny_cRoomFor hu (wpAny_bind (J.type.here (wpAny_bind (wpAny_typeOf ty ?_))))))
  have ne : (Value.ref C != Value.type T) = true := rfl
  rw [ne, if_pos rfl]
  refine wpAny_bind ((PySem.W.looks_subIn KX sub).here ?_)
  simp only [Bool.false_eq_true, if_false]
  refine wpAny_bind (wpAny_mono go (fun r s' ⟨b, e, q⟩ => ?_) fun _ _ e => e)
  subst e
  exact wpAny_pure q
end
end RL
namespace RL
open PySem PySem.Spec PyProof.Rows L2
section
variable {X : Cx} {Γ : Ctx} {e a b : Expr} {T U : Ty} {Ts : List Ty} {es : List Expr} {pos p : Pos} {x fld tag : Str} {α : Type} {A : α → List Ty} {k : Nat} {ps : List Str} {sp : Sp} {Cs : Addr → Prop} {C' : Addr} {Tn : String} {W : WX} {Tf : Ty}
theorem op_eqT (F : MtG X.prog X.w X.K X.mg X.base k Cs "__eq__" ps sp) (hr : Room k X.A) (hs : ∀ C, Cs C → PySem.W.subIn X.K (.type Tn) (.ref C) = some false) :
    OpR X (compareOp .Eq) (fun x y H Q => InsAny Cs x H ∧ tyV X.K Tn y H ∧ sp [x, y] H (fun r H' => ∃ c, r = .bl c ∧ Q (.bl c) H') E0) := by
  intro pins s σ H x y v u Q I rx ry h
  obtain ⟨⟨a, C, dx, fs, ex, ha, hC⟩, ty, q⟩ := h
  subst ex
  cases rx
  obtain ⟨ob, od, J⟩ := inst_of I ha
  obtain ⟨f, fd, F1, _, M, B⟩ := F.ex C hC
  show wpAny _ _ (richCompare .Eq (.ref a) u) _ _ _
  refine own_eqT I.kIn hr.units0 J (tyV_is I ry ty).1 M.at_ M.fn (hs C hC) (wpAny_mono (run_fn (us := [.ref a, u]) (vs := [.ref a, y]) F1 hr B .nil pass0 I (.cons rfl (.cons ry .nil)) q) (fun r s' ⟨v', H', I', r', c, e, q'⟩ => ?_) fun _ _ z => z)
  subst e
  obtain rfl : r = .bool c := r'
  exact ⟨c, rfl, .bl c, H', I', rfl, q'⟩
/-- o == x, x of a built-in type -/
theorem gt_eqT {c : α → Bool} (F : MtG X.prog X.w X.K X.mg X.base k Cs "__eq__" ps (spG A fun i => blT (c i))) (hr : Room k X.A) (hs : ∀ C, Cs C → PySem.W.subIn X.K (.type Tn) (.ref C) = some false) (i : α) (ha : G X Γ a T) (hb : G X Γ b U) (hI : ∀ v H, T v H → InsAny Cs v H) (hU : ∀ v H, U v H → tyV X.K Tn v H)
    (hT : ∀ v w H, T v H → U w H → All2 (A i) [v, w] H := by exact fun _ _ _ h h' => ⟨h, h', trivial⟩) (hm : behindInMarks .Eq b = false := by exact nomark _) : GT X Γ (.Compare a [.Eq] [b] pos) (c i) :=
  gt_cmp (op_eqT F hr hs) ha hb (fun v w H hv hw Q q => ⟨hI v H hv, hU w H hw, i, hT v w H hv hw, fun r H' e' h' => ⟨c i, h', q _ H' e' rfl⟩⟩) hm
end
end RL
namespace RL
open PySem PySem.Spec PyProof.Rows L2
section
variable {X : Cx} {Γ : Ctx} {a b : Expr} {pos : Pos}
/-- an int in a list of ints -/
theorem g_inI {y : Int} {zs : List Int} (ha : G X Γ a (intT y)) (hb : G X Γ b (lstT (zs.map fun z => intT z))) (hm : behindInMarks .In b = false := by rfl) : G X Γ (.Compare a [.In] [b] pos) (blT (zs.any fun z => z == y)) :=
  g_cmp op_in_seq ha hb (fun v w H hv hw Q q => by
    obtain ⟨l, ws, rfl, hl, h3⟩ := hw
    have z : ws = zs.map V.int := All2.vals (H := H) (by rw [List.map_map]; exact h3)
    subst z
    have hv' : v = .int y := hv
    subst hv'
    refine ⟨l, _, rfl, .inl hl.sq, rfl, by rw [List.all_map]; exact List.all_eq_true.mpr fun _ _ => rfl, q _ H (Ex.refl H) ?_⟩
    have e : L2.inV (V.int y) (zs.map V.int) = zs.any fun z => z == y := by
      unfold L2.inV
      rw [List.any_map]
      rfl
    show V.bl (L2.inV _ _) = V.bl _
    rw [e]) hm
end
end RL

set_option Elab.async false
set_option linter.all false
set_option maxRecDepth 100000
set_option maxHeartbeats 4000000
/-! RLgfn: a generator def of the module; what a private list keeps over a sleep -/
namespace RL
open PySem PySem.Spec PyProof.Rows L2
section
variable {qa : List He.Fa} {qn : List He.DefD} {ex : PySem.W.Frag → Bool} {K : PySem.W.Frag} {mg : Str → Option Value} {P : Program} {w : World} {base : Heap} {k : Nat} {ps : List Str} {sp : Sp}
theorem Tx.gen {α : Type} {A : α → List Ty} {items : α → List Ty} {ends : α → Bool} {N : List Str} (T : Tx qa qn ex K mg) (d : He.DefD) (h : d ∈ qn) (x : Str) (hx : d.at_ = (x, none)) (hg : He.Fa.glo x ∈ qa) (hz : d.dfl = [])
    (hb : ∀ (kV doc pm : Value) (an : Option Addr) (cdv ct : Value) (us : List Value), us.length = ps.length → bindArgs (PySem.W.fnOf d.name d.qual d.params d.body d.scope .none kV doc pm an cdv ct) ⟨us, []⟩ = pure (ps.zip us))
    (S : GScope N ps d.scope) (own : ∀ y ∈ d.scope.names, y.2 ≠ .cell) (hl : ∀ a, (A a).length = ps.length) (hSt : ∀ a, Stbs (A a))
    (ok : ∀ (f : Addr) (cd : Value) (a : α) (Ar : Around) (outer : List Env) (L : Addr), Room k (Ar.deeper (envOfC d.qual d.scope L f cd)) → YJ ⟨P, w, K, mg, base, N, d.qual, d.scope, f, cd, Ar, outer, L⟩ (ends a) (execs d.body (envOfC d.qual d.scope L f cd)) (gPre N A items a) (gEnd L)) : FnGen P w K mg base (k + 1) x ps A items ends := by
  obtain ⟨fd, F⟩ := T.def_ d h
  have e0 : d.dvs K = [] := by unfold He.DefD.dvs; rw [hz]; rfl
  rw [e0] at F
  refine ⟨hl, _, fd, ?_, F.kp, F.bindsN hb, fun Ar outer s H args us vs a hr e0 hb r hA => ?_⟩
  · have e : He.fAd K d.at_ = He.ga K x := by rw [hx]; rfl
    rw [e]
    exact T.glo x hg
  · refine gen_made F S own hl hSt (fun a D h1 h2 h3 h4 h5 h6 h7 h8 hr => ?_) a hr e0 hb r hA
    obtain ⟨P', w', K', mg', base', N', qual', scope', f', cd', A', outer', L'⟩ := D
    cases h1; cases h2; cases h3; cases h4; cases h5; cases h6; cases h7; cases h8
    exact ok f' cd' a A' outer' L' hr
end
/-- a context that no change of a list of one's own touches -/
class StbG (Γ : Ctx) : Prop where
  le : ∀ {i : Nat} {T : Ty}, Γ[i]? = some (some T) → Stb T
instance : StbG [] := ⟨fun h => by simp at h⟩
instance (Γ : Ctx) [k : StbG Γ] : StbG (none :: Γ) := ⟨fun {i T} h => by
  cases i with
  | zero => simp at h
  | succ i => exact k.le (i := i) (by simpa using h)⟩
instance (T : Ty) (Γ : Ctx) [h : Stb T] [k : StbG Γ] : StbG (some T :: Γ) := ⟨fun {i U} q => by
  cases i with
  | zero => simp at q; subst q; exact h
  | succ i => exact k.le (i := i) (by simpa using q)⟩
theorem Typed.ofLe {σ : L2.St} {Γ : Ctx} {H H' : Hp} (t : Typed σ Γ H) (S : StbG Γ) (l : Le H H') : Typed σ Γ H' := ⟨t.1, fun i T g => let ⟨v, e, h⟩ := t.2 i T g; ⟨v, e, (S.le g).le l h⟩⟩
theorem Typed.fewer {σ : L2.St} {Γ Δ : Ctx} {H : Hp} (t : Typed σ Γ H) (hl : Δ.length = Γ.length) (h : ∀ (i : Nat) (T : Ty), Δ[i]? = some (some T) → Γ[i]? = some (some T)) : Typed σ Δ H := ⟨t.1.trans hl.symm, fun i T g => t.2 i T (h i T g)⟩
theorem off_ex {pv : List Addr} {H : Hp} : Ex (off pv H) H := .of fun a o h => (off_some h).2
theorem Frm.upE {L : Addr} {ω : Om} {pv : List Addr} {H H' : Hp} (F : Frm L ω pv H) (e : Ex H H') : Frm L ω pv H' := ⟨F.ex.trans e, fun a ha => let ⟨vs, h⟩ := F.lst a ha; ⟨vs, e _ _ h⟩, F.own⟩
/-- woken: the frame anew -/
theorem Frm.wake {L L' : Addr} {ω ω' : Om} {pv : List Addr} {H : Hp} (F : Frm L ω pv H) (k : Wk pv H ω') : Frm L' ω' pv ω'.H := by
  refine ⟨?_, fun a ha => ?_, fun a ha => .inl (by rw [k.same]; exact ha)⟩
  · rw [k.same]
    exact off_ex
  · obtain ⟨vs, h⟩ := F.lst a ha
    exact ⟨vs, (k.own a ha).trans h⟩
/-- what a stretch keeps, as a statement's ground -/
def Frm.bs (ω : Om) (H : Hp) : Bs := ⟨off ω.pv ω.H, H⟩
theorem Frm.ok {L : Addr} {ω : Om} {pv : List Addr} {H : Hp} (F : Frm L ω pv H) : (Frm.bs ω H).ok H := ⟨F.ex, Le.refl H⟩
theorem Frm.free {L : Addr} {ω : Om} {pv : List Addr} {H : Hp} {a : Addr} (F : Frm L ω pv H) (ha : a ∈ pv) : (Frm.bs ω H).e a = none := by
  show off ω.pv ω.H a = none
  by_cases c : a ∈ ω.pv
  · exact off_in c
  · rw [off_ne c]
    rcases F.own a ha with h | h
    · exact absurd h c
    · exact h.1
/-- the private list at a slot has changed -/
theorem Frm.one {L : Addr} {ω : Om} {a : Addr} {H H' : Hp} {σ : L2.St} {Γ : Ctx} {Ts : List Ty} {i : Nat} (F : Frm L ω [a] H) (ok : (Frm.bs ω H).ok H') (t : Typed σ Γ H') (hi : Γ[i]? = some (some (mlT a Ts))) : Frm L ω [a] H' := by
  refine ⟨ok.1, fun b hb => ?_, F.own⟩
  rw [List.mem_singleton] at hb
  subst hb
  obtain ⟨v, _, _, vs, h, _⟩ := t.get i hi
  exact ⟨vs, h⟩
/-- a slot's private list over a sleep -/
theorem Typed.woken {σ : L2.St} {Γ : Ctx} {H : Hp} {ω' : Om} {pv : List Addr} {a : Addr} {Ts : List Ty} [hTs : Stbs Ts] (i : Nat) (t : Typed σ Γ H) (hi : Γ[i]? = some (some (mlT a Ts))) (S : StbG (Γ.set i none)) (k : Wk pv H ω') (ha : a ∈ pv) : Typed σ Γ ω'.H := by
  obtain ⟨v, hv, ev, vs, h1, h2⟩ := t.get i hi
  have z := Typed.put (T := mlT a Ts) ((t.drop i).ofLe S k.le) (List.getElem?_eq_some_iff.mp hi).1 hv ⟨ev, vs, (k.own a ha).trans h1, hTs.le k.le h2⟩
  have e : Γ.set i (some (mlT a Ts)) = Γ := by
    obtain ⟨h3, h4⟩ := List.getElem?_eq_some_iff.mp hi
    rw [← h4]
    exact List.set_getElem_self h3
  rwa [e] at z
section
variable {X : Cx} {Γ : Ctx} {e : Expr} {T : Ty} {st : Stmt} {B : Bs} {D : Ends} {σ : L2.St} {H : Hp}
theorem s_run (h : Sd X Γ st B D) (e0 : B.ok H) (t : Typed σ Γ H) : tS X st D σ H := h σ H e0 t
theorem e_run {Q : VK} (h : G X Γ e T) (t : Typed σ Γ H) (q : ∀ v H', Ex H H' → T v H' → Q v H') : tE X e σ H Q := h σ H t Q q
theorem t_run {Q : Bool → Hp → Prop} {k : Bool} (h : GT X Γ e k) (t : Typed σ Γ H) (q : ∀ H', Ex H H' → Q k H') : tT X e σ H Q := h σ H t Q q
end
end RL

set_option Elab.async false
set_option linter.all false
set_option maxRecDepth 100000
set_option maxHeartbeats 1000000
/-! RLmx3: not in, of a tuple, of a list that is read -/
namespace RL
open PySem PySem.Spec PyProof.Rows L2
section
variable {X : Cx} {Γ : Ctx} {e o a b c d : Expr} {es : List Expr} {T U : Ty} {Ts Us : List Ty} {pos p p2 p3 p4 pos2 apos : Pos} {x : Str} {H0 : Bs} {D : Ends} {rest : List Stmt}
theorem gt_notinR {y : Str} {zs : List Str} (ha : G X Γ a (strT y)) (hb : G X Γ b (rlT X.K (zs.map fun z => strT z))) (hm : behindInMarks .NotIn b = false := by rfl) : GT X Γ (.Compare a [.NotIn] [b] pos) (!(zs.any fun z => z == y)) :=
  gt_cmp op_notIn_seq ha hb (fun v w H hv hw Q q => by
    obtain ⟨l, ws, rfl, hl, h3⟩ := hw
    have z : ws = zs.map V.str := All2.vals (H := H) (by rw [List.map_map]; exact h3)
    subst z
    have hv' : v = .str y := hv
    subst hv'
    refine ⟨l, _, rfl, .inl hl, rfl, by rw [List.all_map]; exact List.all_eq_true.mpr fun _ _ => rfl, q _ H (Ex.refl H) ?_⟩
    show V.bl (if true then !L2.inV _ _ else _) = V.bl _
    rw [if_pos rfl]
    unfold L2.inV
    rw [List.any_map]
    rfl) hm
theorem gt_notinS {y : Str} {zs : List Str} (ha : G X Γ a (strT y)) (hb : G X Γ b (tupT X.K (zs.map fun z => strT z))) (hm : behindInMarks .NotIn b = false := by rfl) : GT X Γ (.Compare a [.NotIn] [b] pos) (!(zs.any fun z => z == y)) :=
  gt_cmp op_notIn_seq ha hb (fun v w H hv hw Q q => by
    obtain ⟨l, ws, rfl, hl, h3⟩ := hw
    have z : ws = zs.map V.str := All2.vals (H := H) (by rw [List.map_map]; exact h3)
    subst z
    have hv' : v = .str y := hv
    subst hv'
    refine ⟨l, _, rfl, .inr hl.sq, rfl, by rw [List.all_map]; exact List.all_eq_true.mpr fun _ _ => rfl, q _ H (Ex.refl H) ?_⟩
    show V.bl (if true then !L2.inV _ _ else _) = V.bl _
    rw [if_pos rfl]
    unfold L2.inV
    rw [List.any_map]
    rfl) hm
/-- a test's answer is known by its value -/
theorem b_ifV {k : Bool} {body orelse : List Stmt} (hc : GT X Γ c k) (h1 : k = true → Bd X Γ body H0 { D with nx := tB X rest D }) (h2 : k = false → Bd X Γ orelse H0 { D with nx := tB X rest D }) : Bd X Γ (.If c body orelse pos :: rest) H0 D := b_if hc h1 h2
/-- nothing is done -/
theorem b_turn {H1 : Bs} {Ok : Ctx → Prop} {D' : Ends} (h : Ok Γ) (hD : D'.nx = tB X [] (turnD D X rest H1 Ok) := by rfl) : Bd X Γ [] H1 D' := b_nil fun σ H e t => by
  rw [hD]
  exact toB pss_nil ⟨Γ, h, e, t⟩
theorem gt_neB {i j : Bool} (h : i = j) (ha : G X Γ a (blT i)) (hb : G X Γ b (blT j)) : GT X Γ (.Compare a [.NotEq] [b] pos) false :=
  gt_cmp op_ne ha hb (fun x y H hx hy Q q => by
    have hx' : x = .bl i := hx
    have hy' : y = .bl j := hy
    subst hx'; subst hy'; subst h
    exact ⟨rfl, q _ H (Ex.refl H) (by show V.bl _ = V.bl _; simp)⟩) (nomark _)
theorem g_eqB {i j : Bool} (ha : G X Γ a (blT i)) (hb : G X Γ b (blT j)) : G X Γ (.Compare a [.Eq] [b] pos) (blT (decide (i = j))) := (g_cmp op_eq ha hb (r_Eq rfl) (nomark _)).is (by simp)
theorem ty_str {K : PySem.W.Frag} {x : Str} : ∀ v H, strT x v H → TyX K H v (.type "str") := fun v H h => by
  have h' : v = .str x := h
  subst h'
  exact .base (.str x)
theorem ty_lst {K : PySem.W.Frag} {Ts : List Ty} : ∀ v H, lstT Ts v H → TyX K H v (.type "list") := fun v H ⟨a, vs, ev, ⟨o, hf⟩, _⟩ => by
  subst ev
  exact .base (.frz hf)
theorem GI.is {tg it : Expr} {Ts Us : List Ty} (h : GI X Γ tg it Ts) (e : Ts = Us) : GI X Γ tg it Us := e ▸ h
theorem str_non {x : Str} : ∀ v H, strT x v H → v ≠ .non := fun v H h => by
  have h' : v = .str x := h
  subst h'
  exact nofun
theorem lst_non {Ts : List Ty} : ∀ v H, lstT Ts v H → v ≠ .non := fun v H ⟨a, vs, ev, _, _⟩ => by
  subst ev
  exact nofun
end
end RL

set_option Elab.async false
set_option linter.all false
set_option maxRecDepth 100000
set_option maxHeartbeats 1000000
/-! RLdat: data of ints, texts, tuples and frozen lists, as types; zip of tuples -/
namespace RL
open PySem PySem.Spec PyProof.Rows L2
inductive Dat where
  | int (i : Int) | str (x : Str) | tup (l : List Dat) | lst (l : List Dat) | bl (b : Bool) | non
section
variable (K : PySem.W.Frag)
mutual
def datT : Dat → Ty
  | .int i => intT i
  | .str x => strT x
  | .tup l => tupT K (datTs l)
  | .lst l => lstT (datTs l)
  | .bl b => blT b
  | .non => nonT
def datTs : List Dat → List Ty
  | [] => []
  | d :: l => datT d :: datTs l
end
theorem datTs_map (l : List Dat) : datTs K l = l.map (datT K) := by
  induction l with
  | nil => rw [datTs]; rfl
  | cons s l ih => rw [datTs, ih, List.map_cons]
theorem datT_tup (l : List Dat) : datT K (.tup l) = tupT K (l.map (datT K)) := by rw [datT, datTs_map]
theorem datT_lst (l : List Dat) : datT K (.lst l) = lstT (l.map (datT K)) := by rw [datT, datTs_map]
theorem datT_bl (b : Bool) : datT K (.bl b) = blT b := by rw [datT]
theorem datT_non : datT K .non = nonT := by rw [datT]
theorem datT_int (i : Int) : datT K (.int i) = intT i := by rw [datT]
theorem datT_str (x : Str) : datT K (.str x) = strT x := by rw [datT]
mutual
theorem stb_dat : ∀ d : Dat, Stb (datT K d)
  | .int i => by rw [datT]; infer_instance
  | .str x => by rw [datT]; infer_instance
  | .tup l => by
    have := stb_dats l
    rw [datT]; infer_instance
  | .lst l => by
    have := stb_dats l
    rw [datT]; infer_instance
  | .bl b => by rw [datT]; infer_instance
  | .non => by rw [datT]; infer_instance
theorem stb_dats : ∀ l : List Dat, Stbs (datTs K l)
  | [] => by rw [datTs]; infer_instance
  | d :: l => by
    have := stb_dat d
    have := stb_dats l
    rw [datTs]; infer_instance
end
instance (d : Dat) : Stb (datT K d) := stb_dat K d
end
inductive DatOk : Nat → Dat → Prop
  | int {d : Nat} {i : Int} : DatOk d (.int i)
  | str {d : Nat} {x : Str} : DatOk d (.str x)
  | bl {d : Nat} {b : Bool} : DatOk d (.bl b)
  | non {d : Nat} : DatOk d .non
  | tup {d : Nat} {l : List Dat} : l.length ≤ 100 → (∀ x ∈ l, DatOk d x) → DatOk (d + 1) (.tup l)
  | lst {d : Nat} {l : List Dat} : l.length ≤ 100 → (∀ x ∈ l, DatOk d x) → DatOk (d + 1) (.lst l)
theorem DatOk.up {d : Nat} {x : Dat} (h : DatOk d x) : DatOk (d + 1) x := by
  induction h with
  | int => exact .int
  | str => exact .str
  | bl => exact .bl
  | non => exact .non
  | tup a _ ih => exact .tup a ih
  | lst a _ ih => exact .lst a ih
theorem DatOk.mono {d e : Nat} {x : Dat} (h : DatOk d x) (k : d ≤ e) : DatOk e x := by
  induction k with
  | refl => exact h
  | step _ ih => exact ih.up
/-! ### a saying as data -/
def powD (l : PowL) : Dat := .tup (l.map fun q => .tup [.str q.1, .int q.2])
def trmD (t : Trm) : Dat := .tup [powD t.1, .int t.2]
def cmpnD (r : Cmpn) : Dat := .tup [powD r.1, .str r.2.1, .int r.2.2]
def wayD : Way → List Dat
  | .least n => [.str "least", .int n]
  | .exact n => [.str "exact", .int n]
  | .rest m r => [.str "rest", .tup [.int m, .int r]]
mutual
def sayD : Say → Dat
  | .cmp e t1 t2 => .tup [.str (if e then "equal" else "divides"), trmD t1, trmD t2]
  | .cnt rows way => .tup (.str "count" :: .tup (rows.map cmpnD) :: wayD way)
  | .neg s => .tup [.str "not", sayD s]
  | .con c l => .tup (.str (if c then "and" else "or") :: saysD l)
  | .qu e x s => .tup [.str (if e then "some" else "all"), .str x, sayD s]
  | .use n xs => .tup [.str "use", .str n, .tup (xs.map Dat.str)]
def saysD : List Say → List Dat
  | [] => []
  | s :: l => sayD s :: saysD l
end
theorem saysD_map (l : List Say) : saysD l = l.map sayD := by
  induction l with
  | nil => rw [saysD]; rfl
  | cons s l ih => rw [saysD, ih, List.map_cons]
section
variable (K : PySem.W.Frag)
theorem powD_T (l : PowL) : datT K (powD l) = powT K l := by
  rw [powD, datT_tup, List.map_map]
  refine congrArg (tupT K) (List.map_congr_left fun q _ => ?_)
  show datT K (.tup [.str q.1, .int q.2]) = _
  rw [datT_tup]
  simp only [List.map_cons, List.map_nil, datT_str, datT_int]
theorem trmD_T (t : Trm) : datT K (trmD t) = trmT K t := by
  rw [trmD, datT_tup]
  simp only [List.map_cons, List.map_nil, datT_int, powD_T]
theorem cmpnD_T (t : Cmpn) : datT K (cmpnD t) = cmpnT K t := by
  rw [cmpnD, datT_tup]
  simp only [List.map_cons, List.map_nil, datT_int, datT_str, powD_T]
theorem wayD_T (y : Way) : (wayD y).map (datT K) = wayTs K y := by
  cases y <;> simp only [wayD, wayTs, List.map_cons, List.map_nil, datT_int, datT_str, datT_tup]
theorem strsD_T (xs : List Str) : (xs.map Dat.str).map (datT K) = xs.map fun z => strT z := by
  rw [List.map_map]
  refine List.map_congr_left fun q _ => ?_
  exact datT_str K q
mutual
theorem sayD_T : ∀ s : Say, datT K (sayD s) = sayT K s
  | .cmp e t1 t2 => by
    rw [sayD, sayT, datT_tup]
    simp only [List.map_cons, List.map_nil, datT_str, trmD_T]
  | .cnt rows way => by
    rw [sayD, sayT, datT_tup]
    simp only [List.map_cons, List.map_nil, datT_str, datT_tup, wayD_T, List.map_map]
    have e : rows.map (datT K ∘ cmpnD) = rows.map (cmpnT K) := List.map_congr_left fun q _ => cmpnD_T K q
    rw [e]
  | .neg s => by
    rw [sayD, sayT, datT_tup]
    simp only [List.map_cons, List.map_nil, datT_str, sayD_T s]
  | .con c l => by
    rw [sayD, sayT, datT_tup]
    simp only [List.map_cons, List.map_nil, datT_str, saysD_T l]
  | .qu e x s => by
    rw [sayD, sayT, datT_tup]
    simp only [List.map_cons, List.map_nil, datT_str, sayD_T s]
  | .use n xs => by
    rw [sayD, sayT, datT_tup]
    simp only [List.map_cons, List.map_nil, datT_str, datT_tup, strsD_T]
theorem saysD_T : ∀ l : List Say, (saysD l).map (datT K) = saysT K l
  | [] => by rw [saysD, saysT]; rfl
  | s :: l => by rw [saysD, saysT, List.map_cons, sayD_T s, saysD_T l]
end
end
theorem powD_ok {l : PowL} (h : l.length ≤ 3) : DatOk 2 (powD l) := .tup (by rw [List.length_map]; omega) fun x hx => by
  obtain ⟨q, _, rfl⟩ := List.mem_map.mp hx
  refine .tup (by simp) fun y hy => ?_
  rcases List.mem_cons.mp hy with rfl | hy
  · exact .str
  · rw [List.mem_singleton] at hy
    subst hy
    exact .int
theorem sayD_ok {d : Nat} {s : Say} (h : SayOk d s) : DatOk (d + 5) (sayD s) := by
  induction h with
  | @cmp d e t1 t2 a b =>
    rw [sayD]
    have z : ∀ {t : Trm}, TrmOk t → DatOk (d + 4) (trmD t) := fun {t} h => DatOk.mono (d := 3) (.tup (by simp) fun y hy => by
      rcases List.mem_cons.mp hy with rfl | hy
      · exact powD_ok h.few
      · rw [List.mem_singleton] at hy
        subst hy
        exact .int) (by omega)
    refine .tup (by simp) fun y hy => ?_
    simp only [List.mem_cons, List.not_mem_nil, or_false] at hy
    rcases hy with rfl | rfl | rfl
    · exact .str
    · exact z a
    · exact z b
  | @cnt d rows way a b c =>
    rw [sayD]
    have z : ∀ r ∈ rows, DatOk 3 (cmpnD r) := fun r hr => .tup (by simp) fun y hy => by
      simp only [List.mem_cons, List.not_mem_nil, or_false] at hy
      rcases hy with rfl | rfl | rfl
      · exact powD_ok (by have := (b r hr).few; omega)
      · exact .str
      · exact .int
    refine .tup ?_ fun y hy => ?_
    · cases way <;> simp [wayD]
    · rcases List.mem_cons.mp hy with rfl | hy
      · exact .str
      · rcases List.mem_cons.mp hy with rfl | hy
        · exact DatOk.mono (d := 4) (.tup (by rw [List.length_map]; omega) fun y hy => by
            obtain ⟨r, hr, rfl⟩ := List.mem_map.mp hy
            exact z r hr) (by omega)
        · cases way with
          | least n =>
            simp only [wayD, List.mem_cons, List.not_mem_nil, or_false] at hy
            rcases hy with rfl | rfl
            · exact .str
            · exact .int
          | exact n =>
            simp only [wayD, List.mem_cons, List.not_mem_nil, or_false] at hy
            rcases hy with rfl | rfl
            · exact .str
            · exact .int
          | rest m r =>
            simp only [wayD, List.mem_cons, List.not_mem_nil, or_false] at hy
            rcases hy with rfl | rfl
            · exact .str
            · exact DatOk.mono (d := 1) (.tup (by simp) fun y hy => by
                simp only [List.mem_cons, List.not_mem_nil, or_false] at hy
                rcases hy with rfl | rfl
                · exact .int
                · exact .int) (by omega)
  | @neg d s _ ih =>
    rw [sayD]
    refine .tup (by simp) fun y hy => ?_
    simp only [List.mem_cons, List.not_mem_nil, or_false] at hy
    rcases hy with rfl | rfl
    · exact .str
    · exact ih
  | @con d c l a _ ih =>
    rw [sayD, saysD_map]
    refine .tup (by rw [List.length_cons, List.length_map]; omega) fun y hy => ?_
    rcases List.mem_cons.mp hy with rfl | hy
    · exact .str
    · obtain ⟨s, hs, rfl⟩ := List.mem_map.mp hy
      exact ih s hs
  | @qu d e x s _ _ ih =>
    rw [sayD]
    refine .tup (by simp) fun y hy => ?_
    simp only [List.mem_cons, List.not_mem_nil, or_false] at hy
    rcases hy with rfl | rfl | rfl
    · exact .str
    · exact .str
    · exact ih
  | @use d n xs _ a _ =>
    rw [sayD]
    refine .tup (by simp) fun y hy => ?_
    simp only [List.mem_cons, List.not_mem_nil, or_false] at hy
    rcases hy with rfl | rfl | rfl
    · exact .str
    · exact .str
    · exact DatOk.mono (d := 1) (.tup (by rw [List.length_map]; omega) fun y hy => by
        obtain ⟨s, _, rfl⟩ := List.mem_map.mp hy
        exact .str) (by omega)
/-! ### zip of tuples -/
section
variable {X : Cx} {Γ : Ctx} {a b e : Expr} {T U : Ty} {Ts Us : List Ty} {pos p p1 p2 p3 tp tpos : Pos} {x y : Str} {elts : List Expr} {kk : Nat}
theorem gi_zipT [hS : Stbs Ts] [hS2 : Stbs Us] (ha : G X Γ a (tupT X.K Ts)) (hb : G X Γ b (tupT X.K Us)) (hl : Ts.length = Us.length) (hm : X.mg "zip" = none) (hg : L2.Gl X "zip" := by rfl)
    (hs : starEach [a, b] X.env = (false, eval a X.env) :: starEach [b] X.env := by exact se_cons rfl) (hs2 : starEach [b] X.env = (false, eval b X.env) :: starEach [] X.env := by exact se_cons rfl) (hpl : (backTo pos (starEach [b] X.env)).any (·.1) = false := by first | exact se_any rfl | rfl) :
    GI X Γ (.Tuple elts kk tpos) (.Call (.Name "zip" p) [a, b] [] pos) (zipTy X.K Ts Us) := fun σ H t Q q =>
  toI (RZ.pi_zipA hg hm (pa_cons (pe a) (pa_cons (pe b) pa_nil hs2) hs) hs hpl) (ha σ H t _ fun v H1 e1 h1 => hb σ H1 (t.up e1) _ fun w H2 e2 h2 => by
    obtain ⟨l, vs, ev, hf, h3⟩ := (tupT X.K Ts).up e2 h1
    obtain ⟨m, ws, ew, hf2, h4⟩ := h2
    subst ev; subst ew
    refine ⟨l, m, vs, ws, rfl, .inr ⟨hf.sq, hf2.sq, q _ H2 (e1.trans e2) fun i H' e => ⟨fun hi => ?_, fun hi => ?_⟩⟩⟩
    · have hz : (zipTy X.K Ts Us).length = Ts.length := by simp [zipTy, hl]
      rw [hz] at hi
      obtain ⟨y1, hy1, ty1⟩ := (hS.le e h3).get (List.getElem?_eq_getElem hi)
      obtain ⟨y2, hy2, ty2⟩ := (hS2.le e h4).get (List.getElem?_eq_getElem (hl ▸ hi))
      refine ⟨⟨vs, ws, y1, y2, (hf.le e).sq, (hf2.le e).sq, hy1, hy2⟩, fun x H3 hy => ?_⟩
      obtain ⟨A, z1, z2, ex, hn, eH, k1, k2⟩ := hy
      subst ex; subst eH
      have k1' := k1 vs (hf.le e).sq
      have k2' := k2 ws (hf2.le e).sq
      rw [hy1] at k1'
      rw [hy2] at k2'
      cases k1'; cases k2'
      exact ⟨Ex.new hn, _, zipTy_get (List.getElem?_eq_getElem hi) (List.getElem?_eq_getElem (hl ▸ hi)), A, _, rfl, .inl upd_same, Ty.up _ (Ex.new hn) ty1, Ty.up _ (Ex.new hn) ty2, trivial⟩
    · have hz : (zipTy X.K Ts Us).length = Ts.length := by simp [zipTy, hl]
      exact ⟨vs, ws, (hf.le e).sq, (hf2.le e).sq, .inl (by rw [hi, hz, h3.len]; exact Nat.le_refl _)⟩)
theorem zip_self {K : PySem.W.Frag} {l : List Dat} : zipTy K (l.map (datT K)) (l.map (datT K)) = l.map fun z => tupT K [datT K z, datT K z] := by
  unfold zipTy
  rw [List.zipWith_map, List.zipWith_self]
theorem ty_tup {K : PySem.W.Frag} {Ts : List Ty} : ∀ v H, tupT K Ts v H → TyX K H v (.type "tuple") := fun v H ⟨a, vs, ev, hp, _⟩ => by
  subst ev
  rcases hp with h | ⟨o, h⟩ | h
  · exact .base (.tup h)
  · exact .fTuple h
  · rcases h (fun _ => none) with z | ⟨o, its, n, h1, h2, _⟩
    · rcases z with z | ⟨o, z⟩ <;> cases z
    · exact .kTuple h1 h2
theorem ty_int {K : PySem.W.Frag} {i : Int} : ∀ v H, intT i v H → TyX K H v (.type "int") := fun v H h => by
  have h' : v = .int i := h
  subst h'
  exact .base (.int i)
theorem ty_bl {K : PySem.W.Frag} {b : Bool} : ∀ v H, blT b v H → TyX K H v (.type "bool") := fun v H h => by
  have h' : v = .bl b := h
  subst h'
  exact .base (.bl b)
theorem bl_non {b : Bool} : ∀ v H, blT b v H → v ≠ .non := fun v H h => by
  have h' : v = .bl b := h
  subst h'
  exact nofun
theorem ty_non {K : PySem.W.Frag} : ∀ v H, nonT v H → TyX K H v (.type "NoneType") := fun v H h => by
  have h' : v = .non := h
  subst h'
  exact .base .non
theorem gt_isN1 {k : Nat} {X : Cx} {Γ : Ctx} {a : Expr} {pos p2 : Pos} (ha : G X Γ a nonT) : GT X Γ (.Compare a [.Is] [.Constant .none k p2] pos) true :=
  gt_cmp op_isN ha g_non (fun v w H hv hw Q q => ⟨hw, q _ H (Ex.refl H) (by
    show V.bl _ = V.bl _
    have h' : v = .non := hv
    simp [h'])⟩)
theorem g_isN1 {k : Nat} {X : Cx} {Γ : Ctx} {a : Expr} {pos p2 : Pos} (ha : G X Γ a nonT) : G X Γ (.Compare a [.Is] [.Constant .none k p2] pos) (blT true) :=
  g_cmp op_isN ha g_non (fun v w H hv hw Q q => ⟨hw, q _ H (Ex.refl H) (by
    show V.bl _ = V.bl _
    have h' : v = .non := hv
    simp [h'])⟩)
theorem int_non {i : Int} : ∀ v H, intT i v H → v ≠ .non := fun v H h => by
  have h' : v = .int i := h
  subst h'
  exact nofun
theorem tup_non {K : PySem.W.Frag} {Ts : List Ty} : ∀ v H, tupT K Ts v H → v ≠ .non := fun v H ⟨a, vs, ev, _, _⟩ => by
  subst ev
  exact nofun
end
end RL

set_option Elab.async false
set_option linter.all false
set_option maxRecDepth 100000
set_option maxHeartbeats 2000000
/-! RLyif: `if` with a yield inside, `while True` -/
namespace RL
open PySem PySem.Spec PyProof.Rows L2
section
variable {M : Model} {A : Around} {Φ : End → Shared → Prop} {c : Code} {fs : List Frame} {s : Shared} {env : Env} {K : Flow → Sem PySem.Fin} {J : Value → Sem PySem.Fin} {gd : Bool → Bool} {lv : List Value → List Value}
theorem sgm_if {test : Expr} {body orelse : List Stmt} {pos : Pos}
    (h : wpAny M (A.over c fs) (isTrue test env (eval test env)) (fun b s1 => if b = true then SegP M A Φ c ((execs body env).wrap K J gd lv) fs s1 else SegP M A Φ c ((execs orelse env).wrap K J gd lv) fs s1) (fun x s1 => SegP M A Φ c (J x) fs s1) s) :
    SegP M A Φ c ((exec (.If test body orelse pos) env).wrap K J gd lv) fs s := by
  rw [exec_If]
  refine sgm_at (p' := pos) ?_
  show SegP M A Φ c ((isTrue test env (eval test env) >>= fun b => if b = true then execs body env else execs orelse env).wrap K J gd lv) fs s
  rw [Sem.bind_eq_wrap', Sem.wrap_wrap]
  refine sgm_wrap (wpAny_mono h (fun b s1 hb => ?_) fun x s1 hx => hx)
  cases b with
  | false => exact hb
  | true => exact hb
end
section
variable {D : GD} {ends : Bool} {Pre Tr : GA'} {E : GE} {body orelse : List Stmt}
theorem yj_if {test : Expr} {pos : Pos} (Tr Fa : GA') (ht : ∀ rem ω σ H, Pre rem ω σ H → tT (D.X ω) test σ H fun b H1 => if b = true then Tr rem ω σ H1 else Fa rem ω σ H1)
    (hb : YJ D ends (execs body D.env) Tr E) (ho : YJ D ends (execs orelse D.env) Fa E) : YJ D ends (exec (.If test body orelse pos) D.env) Pre E := ⟨fun c fs K J gd lv g k rem ω σ H s I p => by
  refine sgm_if ?_
  rw [g.over]
  refine wpAny_mono ((ht rem ω σ H p).run ω.pins s I) (fun b s1 hb1 => ?_) fun _ _ z => False.elim z
  obtain ⟨H1, I1, q⟩ := hb1
  cases b with
  | false =>
    rw [if_neg Bool.false_ne_true] at q ⊢
    exact ho.run c fs K J gd lv g k rem ω σ H1 s1 I1 q
  | true =>
    rw [if_pos rfl] at q ⊢
    exact hb.run c fs K J gd lv g k rem ω σ H1 s1 I1 q⟩
end
section
variable {X : Cx} {Γ : Ctx} {e a b : Expr} {T : Ty} {pos : Pos} {x : Str} {H0 : Bs} {D : Ends}
theorem s_asg (i : Nat) (he : G X Γ e T) (h : ∀ σ' H', H0.ok H' → Typed σ' (Γ.set i (some T)) H' → D.nx σ' H') {p' : Pos} (hN : X.N.Nodup := by first | assumption | decide) (hi : X.N[i]? = some x := by rfl) (hx : Loc X.env.scope x := by first | exact Or.inl rfl | exact Or.inr rfl)
    (hs : swapsWith e (some (.Name x p')) pos.line X.env = pure false := by rfl) (hf : X.fn x = true ∨ X.env.scope.names.lookup x = some .local := by first | exact .inl rfl | exact .inr rfl) : Sd X Γ (.Assign [.Name x p'] e pos) H0 D := fun σ H e0 t =>
  toS (ps_set (i := i) hN hi hx (pe e) hs hf) (he σ H t _ fun v H1 e1 h1 => h _ _ (e0.trans e1) ((t.up e1).set i h1))
theorem s_augI {i : Nat} {n k : Int} (hx : Γ[i]? = some (some (intT n))) (he : G X Γ e (intT k)) (h : ∀ σ' H', H0.ok H' → Typed σ' (Γ.set i (some (intT (n + k)))) H' → D.nx σ' H') {p' : Pos} (hN : X.N.Nodup := by first | assumption | decide) (hi : X.N[i]? = some x := by rfl) (hl : Loc X.env.scope x := by first | exact Or.inl rfl | exact Or.inr rfl)
    (hf : X.fn x = true ∨ X.env.scope.names.lookup x = some .local := by first | exact .inl rfl | exact .inr rfl) : Sd X Γ (.AugAssign (.Name x p') .Add e pos) H0 D := fun σ H e0 t =>
  toS (ps_aug (i := i) hN hi hl (pe e) ip_add hf) (by
    obtain ⟨v, hv, tv⟩ := t.get i hx
    have tv' : v = .int n := tv
    subst tv'
    exact ⟨_, hv, he σ H t _ fun w H1 e1 hw => ⟨n, k, rfl, hw, h _ _ (e0.trans e1) ((t.up e1).set i rfl)⟩⟩)
/-- an int is not in the empty list -/
theorem gt_notin0 {y : Int} (ha : G X Γ a (intT y)) (hb : G X Γ b (lstT [])) (hm : behindInMarks .NotIn b = false := by rfl) : GT X Γ (.Compare a [.NotIn] [b] pos) true :=
  gt_cmp op_notIn_seq ha hb (fun v w H hv hw Q q => by
    obtain ⟨l, ws, rfl, hl, h3⟩ := hw
    have z : ws = [] := List.length_eq_zero_iff.mp h3.len.symm
    subst z
    have hv' : v = .int y := hv
    subst hv'
    refine ⟨l, _, rfl, .inl hl.sq, rfl, rfl, q _ H (Ex.refl H) ?_⟩
    show V.bl (if true then !L2.inV _ _ else _) = V.bl _
    rw [if_pos rfl]
    rfl) hm
end
end RL

set_option Elab.async false
set_option linter.all false
set_option maxRecDepth 100000
set_option maxHeartbeats 2000000
/-! RLfnx: a def that may raise, by its body; statements that raise nothing, first; types of data -/
namespace RL
open PySem PySem.Spec PyProof.Rows L2
theorem execs_one (st : Stmt) (env : Env) : execs [st] env = exec st env := by
  rw [execs_cons]
  show (exec st env).bind (fun f => match f with | .next => execs [] env | f => pure f) = exec st env
  have e : (fun f : Flow => (match f with | .next => execs [] env | f => pure f : Sem Flow)) = Sem.pure := funext fun f => by cases f <;> rfl
  rw [e]
  exact Sem.bind_pure _
section
variable {X : Cx} {Γ : Ctx} {st : Stmt} {rest : List Stmt} {B : Bs} {D : Ends} {σ : L2.St} {H : Hp}
theorem s_of_b (h : tB X [st] D σ H) : tS X st D σ H := ⟨fun pins s I => by
  have z := h.run pins s I
  rwa [execs_one] at z⟩
theorem b_nox {sts : List Stmt} (h : tB X.nox sts D σ H) : tB X sts D σ H := toB (pb (X := X.nox) sts).nox h
/-- a first statement that raises nothing -/
theorem b_front (h : Bd X.nox Γ [st] B { D with nx := fun σ H => tB X rest D σ H }) : Bd X Γ (st :: rest) B D := b_cons fun σ H e0 t => s_of_b (b_nox (h σ H e0 t))
/-- .. known by the context behind it -/
theorem b_fin (Fin : Ctx) (h : Bd X.nox Γ [st] B { D with nx := fun σ H => B.ok H ∧ Typed σ Fin H }) (tail : Bd X Fin rest B D) : Bd X Γ (st :: rest) B D := b_cons fun σ H e0 t => ⟨fun pins s I => wpAny_mono ((s_of_b (b_nox (h σ H e0 t))).run pins s I) (fun f s1 hs => by
  cases f with
  | next =>
    obtain ⟨σ', H', I', q⟩ := hs
    exact ⟨σ', H', I', tail σ' H' q.1 q.2⟩
  | brk => exact hs
  | cont => exact hs
  | ret u => exact hs) fun _ _ z => z⟩
/-- the rest raises nothing -/
theorem b_quiet {sts : List Stmt} (h : Bd X.nox Γ sts B D) : Bd X Γ sts B D := fun σ H e0 t => b_nox (h σ H e0 t)
end
section
variable {P : Program} {w : World} {K : PySem.W.Frag} {mg : Str → Option Value} {base : Heap} {x qual : Str} {params : Arguments} {body : List Stmt} {scope : Scope} {dvs : List V} {kws : List (Str × V)} {f : Addr} {fd : FuncData} {N ps : List Str} {k : Nat}
abbrev OX (P : Program) (w : World) (K : PySem.W.Frag) (mg : Str → Option Value) (base : Heap) (N : List Str) (qual : Str) (scope : Scope) (f : Addr) (cd : Value) (A : Around) (outer : List Env) (s : Shared) (H : Hp) (E : XK) : Cx := cxOf (L2.CX P w) P w K mg base N qual scope f cd A outer s H E
theorem fn_O {α : Type} {A : α → List Ty} {R : α → Out} (F : FunD K x qual params body scope dvs kws f fd) (S : FnScope N ps scope) (hl : ∀ a, (A a).length = ps.length)
    (h : ∀ a cdv Ar outer s H Q E, Room k (Ar.deeper (envOfC qual scope s.heap.objs.size f cdv)) → N.Nodup → (R a).is H Q E → Takes (OX P w K mg base N qual scope f cdv Ar outer s H E) (fun cls d _ H => E cls d H) → Bd (OX P w K mg base N qual scope f cdv Ar outer s H E) (ctx0 N (A a)) body (Bs.of H) { nx := fun _ H' => Q .non H', rt := Q }) :
    FnOk P w K mg base (L2.CX P w) (k + 1) f fd ps (spO A R) :=
  F.ok S (fun vs H Q E ⟨a, h2, _⟩ => by rw [← h2.len]; exact hl a) fun cdv Ar outer s H vs Q E hr ⟨a, h2, q⟩ => ⟨_, pb body, h a cdv Ar outer s H Q E hr S.nd q (takes_of rfl rfl rfl rfl) _ H (Bs.refl H) (typed0 h2)⟩
end
/-! types of data -/
def dtName : Dat → String
  | .int _ => "int"
  | .str _ => "str"
  | .tup _ => "tuple"
  | .lst _ => "list"
  | .bl _ => "bool"
  | .non => "NoneType"
theorem ty_dat {K : PySem.W.Frag} : ∀ {d : Dat} v H, datT K d v H → TyX K H v (.type (dtName d))
  | .int i, v, H, h => ty_int v H (by rw [datT_int] at h; exact h)
  | .str i, v, H, h => ty_str v H (by rw [datT_str] at h; exact h)
  | .tup l, v, H, h => ty_tup v H (by rw [datT_tup] at h; exact h)
  | .lst l, v, H, h => ty_lst v H (by rw [datT_lst] at h; exact h)
  | .bl b, v, H, h => ty_bl v H (by rw [datT_bl] at h; exact h)
  | .non, v, H, h => ty_non v H (by rw [datT_non] at h; exact h)
def isIB : Dat → Bool
  | .int _ => true
  | .bl _ => true
  | _ => false
def isBB : Dat → Bool
  | .bl _ => true
  | _ => false
def isI : Dat → Bool
  | .int _ => true
  | _ => false
theorem kit_int (d : Dat) : kitB (dtName d) "int" = some (isIB d) := by
  cases d with
  | int i =>
    show kitB "int" "int" = some true
    decide +kernel
  | str i =>
    show kitB "str" "int" = some false
    decide +kernel
  | tup l =>
    show kitB "tuple" "int" = some false
    decide +kernel
  | lst l =>
    show kitB "list" "int" = some false
    decide +kernel
  | bl b =>
    show kitB "bool" "int" = some true
    decide +kernel
  | non =>
    show kitB "NoneType" "int" = some false
    decide +kernel
theorem kit_bool (d : Dat) : kitB (dtName d) "bool" = some (isBB d) := by
  cases d with
  | int i =>
    show kitB "int" "bool" = some false
    decide +kernel
  | str i =>
    show kitB "str" "bool" = some false
    decide +kernel
  | tup l =>
    show kitB "tuple" "bool" = some false
    decide +kernel
  | lst l =>
    show kitB "list" "bool" = some false
    decide +kernel
  | bl b =>
    show kitB "bool" "bool" = some true
    decide +kernel
  | non =>
    show kitB "NoneType" "bool" = some false
    decide +kernel
theorem isI_eq (d : Dat) : (isIB d && !isBB d) = isI d := by cases d <;> rfl
end RL

set_option Elab.async false
set_option linter.all false
set_option maxRecDepth 100000
set_option maxHeartbeats 2000000
/-! RLmore2: defs that may raise, called; dict of pairs of ints; x in d; list(l) to be changed -/
namespace RL
open PySem PySem.Spec PyProof.Rows L2 NM
/-- a def of the module that gives a value or raises -/
structure FnO (P : Program) (w : World) (K : PySem.W.Frag) (mg : Str → Option Value) (base : Heap) (k : Nat) (x : Str) (ps : List Str) (sp : Sp) : Prop where
  ex : ∃ f fd, FnOk P w K mg base (L2.CX P w) k f fd ps sp ∧ mg x = some (.ref f) ∧ PySem.W.keepIn K (.ref f) = true ∧ Binds K fd ps []
section
variable {X : Cx} {Γ : Ctx} {e a b : Expr} {es : List Expr} {T U Tf : Ty} {Ts : List Ty} {pos p : Pos} {x fld tag : Str} {α : Type} {A : α → List Ty} {R : α → Out} {k : Nat} {ps : List Str} {C' : Addr} {W : WX}
theorem g_fnR (F : FnO X.prog X.w X.K X.mg X.base k x ps (spO A R)) (hr : Room k X.A) (i : α) (hR : R i = .ret T) (ha : GA X Γ (e :: es) Ts) (hT : ∀ vs H, All2 Ts vs H → All2 (A i) vs H := by exact fun _ _ h => h)
    (hg : Gl X x := by rfl) (hdb : (x == ("__debug__" : Str)) = false := by decide) (he : starEach (e :: es) X.env = (false, eval e X.env) :: starEach es X.env := by exact se_cons rfl) (hpl : (backTo pos (starEach es X.env)).any (·.1) = false := by exact se_any rfl) : G X Γ (.Call (.Name x p) (e :: es) [] pos) T := fun σ H t Q q => by
  obtain ⟨f, fd, F, hm, hk, hb⟩ := F.ex
  refine toE (pe_call F hr hg hm hk hb .nil passX (pa _) hdb he hpl) (ha σ H t _ fun vs H1 e1 h1 => ?_)
  rw [List.append_nil]
  refine ⟨i, hT _ _ h1, ?_⟩
  rw [hR]
  exact fun v H2 e2 h2 => q v H2 (e1.trans e2) h2
theorem g_fnX (F : FnO X.prog X.w X.K X.mg X.base k x ps (spO A R)) (hr : Room k X.A) (i : α) (hR : R i = .exc C' fld tag Tf) (tk : Takes X W) (hw : ∀ σ H, Typed σ Γ H → ∀ σ' dd y H', Ex H H' → Held H' dd fld tag y → Tf y H' → W (.ref C') (some dd) σ' H') (ha : GA X Γ (e :: es) Ts) (hT : ∀ vs H, All2 Ts vs H → All2 (A i) vs H := by exact fun _ _ h => h)
    (hg : Gl X x := by rfl) (hdb : (x == ("__debug__" : Str)) = false := by decide) (he : starEach (e :: es) X.env = (false, eval e X.env) :: starEach es X.env := by exact se_cons rfl) (hpl : (backTo pos (starEach es X.env)).any (·.1) = false := by exact se_any rfl) : G X Γ (.Call (.Name x p) (e :: es) [] pos) falseT := fun σ H t Q q => by
  obtain ⟨f, fd, F, hm, hk, hb⟩ := F.ex
  refine toE (pe_call (E := fun cls d H' => ∀ σ', W cls d σ' H') F hr hg hm hk hb .nil (passes_call tk fun cls d σ' H' h => h σ') (pa _) hdb he hpl) (ha σ H t _ fun vs H1 e1 h1 => ?_)
  rw [List.append_nil]
  refine ⟨i, hT _ _ h1, ?_⟩
  rw [hR]
  exact fun dd y H' e2 hh hy σ' => hw σ H t σ' dd y H' (e1.trans e2) hh hy
/-- k in d, d a frozen dict -/
theorem g_inD {kvs : List (Key × V)} {kk : Key} (hu : X.A.units + 1 < cLine) (ha : G X Γ a (valT (kV kk))) (hb : G X Γ b (dicT kvs)) (hm : behindInMarks .In b = false := by rfl) : G X Γ (.Compare a [.In] [b] pos) (blT (valV kvs kk).isSome) := fun σ H t Q q =>
  toE (pe_cmp (pc_din hu (pe a) (pe b)) hm) (ha σ H t _ fun v H1 e1 h1 => hb σ H1 (t.up e1) _ fun w H2 e2 h2 => by
    obtain ⟨d, ev, hd⟩ := rd_dict h2
    exact ⟨d, _, ev, .inl ⟨kvs, kk, hd, h1, rfl⟩, q _ H2 (e1.trans e2) rfl⟩)
theorem merge_kvN : ∀ (r l : NK), ((l ++ r).map (·.1)).Nodup → mergeK (kvN l) (kvN r) = kvN (l ++ r)
  | [], l, _ => by rw [List.append_nil]; rfl
  | q :: r, l, h => by
    have hq : valV (kvN l) (Sum.inl q.1 : Key) = none := by
      cases hv : valV (kvN l) (Sum.inl q.1 : Key) with
      | none => rfl
      | some z =>
        have hin := valV_in hv
        rw [kvN_keys] at hin
        obtain ⟨p, hp, e⟩ := List.mem_map.mp hin
        have e' : p = q.1 := Sum.inl.inj e
        rw [List.map_append, List.nodup_append] at h
        exact absurd e' (h.2.2 p hp q.1 (by simp))
    have e2 : kvN l ++ [((Sum.inl q.1 : Key), V.int q.2)] = kvN (l ++ [q]) := by
      unfold kvN
      rw [List.map_append]
      rfl
    show mergeK (putK (kvN l) (Sum.inl q.1) (V.int q.2)) (kvN r) = _
    rw [putK_new _ hq, e2, merge_kvN r (l ++ [q]) (by rwa [List.append_assoc])]
    rw [List.append_assoc]
    rfl
theorem pairs_atI {K : PySem.W.Frag} {H : Hp} : ∀ {l : NK} {vs : List V}, All2 (l.map fun q => tupT K [intT q.1, intT q.2]) vs H → ∃ ps : List Addr, vs = ps.map V.ref ∧ Paired (fun p (kv : Key × V) => SqT K H p [kV kv.1, kv.2]) ps (kvN l)
  | [], vs, h => ⟨[], all2_nil h, .nil⟩
  | q :: l, vs, h => by
    obtain ⟨v, ws, rfl, ⟨a, us, ev, hp, hu⟩, h2⟩ := all2_cons h
    obtain ⟨ps, rfl, h3⟩ := pairs_atI h2
    have hus := vals2 hu
    subst hus; subst ev
    exact ⟨a :: ps, rfl, .cons hp.sq h3⟩
/-- dict(e), e a list of pairs of ints with different firsts -/
theorem g_dictN {l : NK} (h : G X Γ e (lstT (l.map fun q => tupT X.K [intT q.1, intT q.2]))) (hn : (l.map (·.1)).Nodup) (hm : X.mg "dict" = none) (hc : X.calm = true := by rfl) (hg : Gl X "dict" := by rfl) (he : starEach [e] X.env = (false, eval e X.env) :: starEach [] X.env := by exact se_cons rfl) :
    G X Γ (.Call (.Name "dict" p) [e] [] pos) (dicT (kvN l)) := fun σ H t Q q =>
  tE_frz (toE (pe_callTy (call_dictP hc) hg hm (by decide +kernel) (pa_cons (pe e) pa_nil he) (he := he)) (h σ H t _ fun v H1 e1 ⟨a, vs, ev, hf, h2⟩ => by
    subst ev
    obtain ⟨ps, rfl, h3⟩ := pairs_atI h2
    refine ⟨a, ps, kvN l, rfl, hf.sq, h3, fun d hd => ⟨d, _, upd_same, trivial, fun od => ?_⟩⟩
    rw [upd_upd]
    have z := merge_kvN l [] (by simpa using hn)
    rw [show kvN [] = [] from rfl, List.nil_append] at z
    rw [z]
    exact q _ _ (e1.trans (Ex.new hd)) ⟨d, od, rfl, upd_same⟩))
variable {H0 : Bs} {D : Ends} {rest : List Stmt}
/-- x = list(l), to be changed -/
theorem b_listM {y : Str} {Ts : List Ty} (i : Nat) (h : G X Γ e (lstT Ts)) (hm : X.mg "list" = none) (k : ∀ d, H0.e d = none → Bd X (Γ.set i (some (mlT d Ts))) rest H0 D) (hN : X.N.Nodup := by first | assumption | decide) (hi : X.N[i]? = some y := by rfl) (hx : Loc X.env.scope y := by first | exact Or.inl rfl | exact Or.inr rfl)
    (hg : Gl X "list" := by rfl) (he : starEach [e] X.env = (false, eval e X.env) :: starEach [] X.env := by exact se_cons rfl) (hf : X.fn y = true ∨ X.env.scope.names.lookup y = some .local := by first | exact .inl rfl | exact .inr rfl) {p2 p3 : Pos}
    (hs2 : swapsWith (.Call (.Name "list" p) [e] [] p2) (some (.Name y p3)) pos.line X.env = pure false := by rfl) : Bd X Γ (.Assign [.Name y p3] (.Call (.Name "list" p) [e] [] p2) pos :: rest) H0 D :=
  b_cons fun σ H e0 t => toS (ps_set (i := i) hN hi hx (pe_callTy call_list_of hg hm (by decide +kernel) (pa_cons (pe e) pa_nil he) (he := he)) hs2 hf) (h σ H t _ fun v H1 e1 ⟨l, vs, ev, hl, h2⟩ => ⟨l, vs, by rw [ev], .inl hl.sq, fun d hd => by
    have e2 : Ex H (upd H1 d (.lst vs)) := e1.trans (Ex.new hd)
    exact k d ((e0.trans e1).1.free hd) _ _ (e0.trans e2) ((t.up e2).set i (T := mlT d Ts) ⟨rfl, vs, upd_same, h2.up (Ex.new hd)⟩)⟩)
end
end RL

set_option Elab.async false
set_option linter.all false
set_option maxRecDepth 100000
set_option maxHeartbeats 2000000
/-! RLmore3: x = [.. for .. if ..] on one line; slices of one of a family -/
namespace RL
open PySem PySem.Spec PyProof.Rows L2
section
variable {X : Cx} {Γ : Ctx} {o e : Expr} {Ts : List Ty} {pos pos2 p : Pos} {H0 : Bs} {D : Ends} {rest : List Stmt}
theorem b_asgLcF {y : Str} {elt tg iter : Expr} {ifs : List Expr} {scope : Scope} {own : List (Str × Nat)} {g : TG} {py spos : Pos} (i : Nat) (rs : List (Option Ty)) {Us : List Ty} (hi : GI X Γ tg iter Ts) (ok : BlkOk X.N X.env.scope scope own)
    (hg : ∀ (s : Shared) (H : Hp) (C : Addr) (cl : List (Str × Addr)) (fp : List Addr), PG (X.blk s H scope (compEnvC scope cl C X.env) fp) tg g) (hl : rs.length = Ts.length) (hz : Ts.length ≤ sizeLine)
    (hw : ∀ (i : Nat) (T : Ty), Ts[i]? = some T → ∃ Δ2, Tgt g T ((own.map (·.2)).foldr (fun v G => G.set v none) Γ) Δ2 ∧
      ((rs[i]? = some none ∧ GCTs X scope Δ2 ifs false) ∨ ∃ R, rs[i]? = some (some R) ∧ GCTs X scope Δ2 ifs true ∧ GC X scope Δ2 elt R))
    (hS : ∀ R, some R ∈ rs → Stb R) (hwipe : OwnTgt g own) (hk : keptT rs = Us) (h : Bd X (Γ.set i (some (lstT Us))) rest H0 D)
    (hy : X.N[i]? = some y := by rfl) (hyl : X.env.scope.names.lookup y = some .local := by rfl) (hsw : swapsWith (.ListComp elt [⟨tg, iter, ifs, 0⟩] scope pos) (some (.Name y py)) spos.line X.env = pure true := by exact sw_true rfl rfl rfl (by decide +kernel))
    (hc : X.calm = true := by rfl) (hN : X.N.Nodup := by first | assumption | decide) (hf : ∀ x, foldedSetIterable iter X.env x = pure x := by intro _; rfl) : Bd X Γ (.Assign [.Name y py] (.ListComp elt [⟨tg, iter, ifs, 0⟩] scope pos) spos :: rest) H0 D :=
  b_cons fun σ H e0 t => toS (ps_setLc (i := i) (te := tCE X scope elt) (tt := tCT X scope ifs) (own := own) hc hN hy hyl hsw pi ok hg (fun s H C cl fp => ⟨fun pins s' σ H1 Q I h => (h s H C cl fp).run pins s' I⟩) (fun s H C cl fp => ⟨fun pins s' σ H1 Q I h => (h s H C cl fp).run pins s' I⟩) hf)
    (g_lcR rs hi ok hg hl hz hw hS hwipe hc hN hf t fun Da H' acc e hD hacc hA => by
        have hst : Stbs (keptT rs) := by
          have z := keptT_stb hS rs.length
          rwa [List.take_length] at z
        rw [hk] at hA hst
        refine tB_frz hacc trivial fun od => ?_
        exact h _ _ (e0.trans (e.mut hD hacc)) ((t.up (e.mut hD hacc)).set i (T := lstT Us) ⟨Da, acc, rfl, ⟨od, upd_same⟩, hst.le (Le.mut hacc trivial) hA⟩))
/-- l[:n], l and n of families -/
theorem g_cutToX {β α : Type} {Us : β → List Ty} {n : α → Int} (ho : G X Γ o (exT fun z => lstT (Us z))) (hk : G X Γ e (exT fun z => intT (n z))) : G X Γ (.Subscript o (.Slice none (some e) none pos2) pos) (exT fun z : β × α => lstT (cutT (Us z.1) none (some (n z.2)))) := fun σ H t Q q =>
  tE_frz (toE (pe_slice sl_list (pe o) po_none (po_some (pe e))) (ho σ H t _ fun v H1 e1 ⟨y, h1⟩ => hk σ H1 (t.up e1) _ fun w H2 e2 ⟨z, h2⟩ => by
    obtain ⟨l, vs, ev, hl, ha⟩ := (lstT (Us y)).up e2 h1
    refine ⟨n z, h2, l, vs, ev, hl.sq, fun d hd => ⟨d, _, upd_same, trivial, fun od => ?_⟩⟩
    rw [upd_upd]
    exact q _ _ ((e1.trans e2).trans (Ex.new hd)) ⟨(y, z), d, _, rfl, ⟨od, upd_same⟩, ha.cut.up (Ex.new hd)⟩))
theorem g_isC {T : Ty} {x : Str} {p2 : Pos} {C : Addr} {r : Bool} (he : G X Γ e T) (ht : ∀ v H, T v H → ∃ t, TyX X.K H v t ∧ PySem.W.kitOne X.K t (.ref C) = some r) (hm : X.mg "isinstance" = none) (hx : X.mg x = some (.ref C)) (hg : Gl X "isinstance" := by rfl) (hg' : Gl X x := by rfl)
    (hd : (x == ("__debug__" : Str)) = false := by decide) (hs : starEach [e, .Name x p2] X.env = (false, eval e X.env) :: starEach [.Name x p2] X.env := by exact se_cons rfl) (hs2 : starEach [.Name x p2] X.env = (false, eval (.Name x p2) X.env) :: starEach [] X.env := by exact se_cons rfl) (hpl : (backTo pos (starEach [.Name x p2] X.env)).any (·.1) = false := by exact se_any rfl) :
    G X Γ (.Call (.Name "isinstance" p) [e, .Name x p2] [] pos) (blT r) :=
  g_callB call_isi hm (by decide +kernel) (ga_cons he (ga_cons (g_glob (v := .ref C) hx rfl hg' hd) ga_nil hs2) hs) (fun vs H h2 Q q => by
    match vs, h2 with
    | [v, w], ⟨h3, h4, _⟩ =>
      have h4' : w = V.ref C := h4
      subst h4'
      obtain ⟨t, h5, h6⟩ := ht v H h3
      exact ⟨v, .ref C, t, .ref C, r, rfl, .own C, h5, h6, q _ H (Ex.refl H) rfl⟩) hg (he := hs) (hpl := hpl)
theorem g_neD {T U : Ty} {a b : Expr} {d d' : PyData} (hu : X.A.units + 64 < cLine) (ha : G X Γ a T) (hb : G X Γ b U) (h1 : IsDp X.K T d) (h2 : IsDp X.K U d') (s1 : SeqAt.shaped d = true) (s2 : SeqAt.shaped d' = true) : G X Γ (.Compare a [.NotEq] [b] pos) (blT (!PyData.eqv d d')) :=
  g_cmp (op_neD hu) ha hb (fun v w H hv hw Q q => ⟨d, d', h1 v H hv, h2 w H hw, s1, s2, q _ H (Ex.refl H) rfl⟩) (nomark _)
/-- len(o), by an own `__len__` -/
theorem g_lenO {T : Ty} {α : Type} {A : α → List Ty} {n : α → Nat} {k : Nat} {ps : List Str} {Cs : Addr → Prop} (F : MtG X.prog X.w X.K X.mg X.base k Cs "__len__" ps (spG A fun i => intT (n i))) (hr : Room (k + 1) X.A) (i : α) (hn : n i < 2 ^ 62) (ho : G X Γ o T) (hm : X.mg "len" = none) (hI : ∀ v H, T v H → InsAny Cs v H) (hT : ∀ v H, T v H → All2 (A i) [v] H := by exact fun _ _ h => ⟨h, trivial⟩) (hg : Gl X "len" := by rfl) (he : starEach [o] X.env = (false, eval o X.env) :: starEach [] X.env := by exact se_cons rfl) : G X Γ (.Call (.Name "len" p) [o] [] pos) (intT (n i)) :=
  g_callB (call_lenO F hr) hm (by decide +kernel) (ga_cons ho ga_nil he) (fun vs H h2 Q q => by
    obtain ⟨v, rfl, hv⟩ := one2 h2
    exact ⟨v, rfl, hI v H hv, i, hT v H hv, fun r H' e' h' => ⟨n i, h', by omega, by omega, q _ H' e' rfl⟩⟩) hg (he := he)
end
end RL
namespace RL
open PySem PySem.Spec PyProof.Rows L2
theorem strs_dp (K : PySem.W.Frag) (l : List Str) : IsDp K (lstT (l.map fun z => strT z)) (.list (l.map PyData.str)) := dp_lst (areDp_map l fun _ _ => dp_str)
theorem strs_shaped {l : List Str} (h : ∀ x ∈ l, PyData.strOk x = true) : SeqAt.shaped (.list (l.map PyData.str)) = true := Lay.shaped (lay_list (n := 0) fun d hd => by
  obtain ⟨x, hx, rfl⟩ := List.mem_map.mp hd
  exact ⟨by simpa [PyData.canLay0] using h x hx, by simp [PyData.depth]⟩) (by decide)
end RL

set_option Elab.async false
set_option linter.all false
set_option maxRecDepth 100000
set_option maxHeartbeats 2000000
/-! RLdeq: == and != of dicts from ints to ints, != of lists of such dicts -/
namespace RL
open PySem PySem.Spec PyProof.Rows L2 NM
/-- a dict whose keys are ints is one for every world -/
theorem dict_all {P P' : Program} {w w' : World} {h : Heap} {a : Addr} {l : NK} {vs : List (Key × Value)} (r : KV (kvN l) vs) (d : h.DictOf (mixKind P w) a vs) : h.DictOf (mixKind P' w') a vs := by
  obtain ⟨o, es, ep, ho, hx, hd, hk, hp, hn⟩ := d
  have hin : ∀ p ∈ vs, ∃ i, p.1 = (Sum.inl i : Key) := by
    clear hp hn hk hd hx ho
    have : ∀ (l : NK) (vs : List (Key × Value)), KV (kvN l) vs → ∀ p ∈ vs, ∃ i, p.1 = (Sum.inl i : Key) := by
      intro l
      induction l with
      | nil => intro vs r p hp; cases r; cases hp
      | cons q l ih =>
        intro vs r p hp
        have r' : KV ((Sum.inl q.1, V.int q.2) :: kvN l) vs := r
        cases r' with
        | cons h1 h2 =>
          rcases List.mem_cons.mp hp with e | e
          · exact ⟨q.1, by rw [e]; exact h1.1.symm⟩
          · exact ih _ h2 p e
    exact this l vs r
  have mem : ∀ (L : List DictEntry) (vs : List (Key × Value)), Pairs (mixKind P w) L vs → ∀ e ∈ L, ∃ kv ∈ vs, (mixKind P w).is kv.1 e.key = true := by
    intro L vs h
    induction h with
    | nil => intro e he; cases he
    | cons h1 h2 _ ih =>
      intro e he
      rcases List.mem_cons.mp he with z | z
      · exact ⟨_, List.mem_cons_self, by rw [z]; exact h1⟩
      · obtain ⟨kv, m, q⟩ := ih e z
        exact ⟨kv, List.mem_cons_of_mem _ m, q⟩
  have trans : ∀ (L : List DictEntry) (vs : List (Key × Value)), Pairs (mixKind P w) L vs → Pairs (mixKind P' w') L vs := by
    intro L vs h
    induction h with
    | nil => exact .nil
    | cons h1 h2 _ ih => exact .cons h1 h2 ih
  refine ⟨o, es, ep, ho, hx, hd, fun e he => ?_, trans _ _ hp, hn⟩
  obtain ⟨k, k1, k2⟩ := hk e he
  obtain ⟨kv, m, q⟩ := mem _ _ hp e (by simpa using he)
  obtain ⟨i, hi⟩ := hin kv m
  have e1 : k = kv.1 := (mixKind P w).inj _ _ _ k1 q
  rw [hi] at e1
  subst e1
  exact ⟨_, k1, k2⟩
/-- every pair of l stands in m -/
def subN (l m : NK) : Bool := l.all fun q => decide (q.1 ∈ m.map (·.1)) && (q.2 == look m q.1)
/-- equal as dicts -/
def eqN (l m : NK) : Bool := l.length == m.length && subN l m
theorem sub_self {l : NK} (h : (l.map (·.1)).Nodup) : subN l l = true := by
  unfold subN
  rw [List.all_eq_true]
  intro q hq
  rw [look_mem h hq]
  simp only [beq_self_eq_true, Bool.and_true, decide_eq_true_eq]
  exact List.mem_map_of_mem hq
theorem eqN_self {l : NK} (h : (l.map (·.1)).Nodup) : eqN l l = true := by
  unfold eqN
  rw [sub_self h]
  simp
theorem nodup_le : ∀ {x y : List Int}, x.Nodup → (∀ p ∈ x, p ∈ y) → x.length ≤ y.length
  | [], _, _, _ => Nat.zero_le _
  | p :: r, y, nd, h => by
    obtain ⟨h1, h2⟩ := List.nodup_cons.mp nd
    have hp := h p List.mem_cons_self
    have := nodup_le (y := y.erase p) h2 fun q hq => (List.mem_erase_of_ne (by rintro rfl; exact h1 hq)).mpr (h q (List.mem_cons_of_mem _ hq))
    rw [List.length_erase_of_mem hp] at this
    have : 0 < y.length := List.length_pos_of_mem hp
    rw [List.length_cons]
    omega
theorem eqN_iff {l m : NK} (cl : Canon l) (cm : Canon m) : eqN l m = decide (l = m) := by
  rw [Bool.eq_iff_iff, decide_eq_true_eq]
  constructor
  · intro h
    unfold eqN subN at h
    rw [Bool.and_eq_true, beq_iff_eq, List.all_eq_true] at h
    obtain ⟨hl, hs⟩ := h
    have hin : ∀ q ∈ l, q.1 ∈ m.map (·.1) ∧ q.2 = look m q.1 := fun q hq => by
      have := hs q hq
      rw [Bool.and_eq_true, decide_eq_true_eq, beq_iff_eq] at this
      exact this
    refine canon_ext cl cm fun p => ?_
    by_cases hp : p ∈ l.map (·.1)
    · obtain ⟨q, hq, rfl⟩ := List.mem_map.mp hp
      rw [look_mem cl.nodup hq]
      exact (hin q hq).2
    · rw [look_none hp]
      by_cases hm : p ∈ m.map (·.1)
      · exfalso
        have := nodup_le (x := p :: l.map (·.1)) (y := m.map (·.1)) (List.nodup_cons.mpr ⟨hp, cl.nodup⟩) (by
          intro z hz
          rcases List.mem_cons.mp hz with e | e
          · rw [e]; exact hm
          · obtain ⟨q, hq, rfl⟩ := List.mem_map.mp e
            exact (hin q hq).1)
        rw [List.length_cons, List.length_map, List.length_map] at this
        omega
      · rw [look_none hm]
  · rintro rfl
    exact eqN_self cl.nodup
theorem hitsN {A : Around} {s : Shared} {m : NK} {vb : List (Key × Value)} (rb : KV (kvN m) vb) : ∀ {l : NK} {va : List (Key × Value)}, KV (kvN l) va → PySem.W.KeqHits A s vb va (subN l m)
  | [], va, h => by
    cases h
    exact .nil
  | q :: l, va, h => by
    have h' : KV ((Sum.inl q.1, V.int q.2) :: kvN l) va := h
    cases h' with
    | @cons _ y _ ys h1 h2 =>
      obtain ⟨k, v⟩ := y
      obtain ⟨e1, e2⟩ := h1
      have e1' : k = Sum.inl q.1 := e1.symm
      subst e1'
      obtain ⟨t, ev⟩ : ∃ t, v = Value.int q.2 t := e2
      subst ev
      have rr := rb.val (Sum.inl q.1)
      have tail := hitsN (A := A) (s := s) rb h2
      unfold subN at tail ⊢
      rw [List.all_cons]
      by_cases hm : q.1 ∈ m.map (·.1)
      · rw [kvN_val' hm] at rr
        obtain ⟨y, hy, ry⟩ := rr.some_of
        obtain ⟨u, eu⟩ : ∃ u, y = Value.int (look m q.1) u := ry
        subst eu
        rw [decide_eq_true hm, Bool.true_and]
        exact .hit hy (SeqAt.EqAt.int_int _ _ _ _) tail
      · have hn : valV (kvN m) (Sum.inl q.1 : Key) = none := by
          cases e : valV (kvN m) (Sum.inl q.1 : Key) with
          | none => rfl
          | some z =>
            have hi := valV_in e
            rw [kvN_keys] at hi
            obtain ⟨p, hp, e2⟩ := List.mem_map.mp hi
            rw [← Sum.inl.inj e2] at hm
            exact absurd hp hm
        rw [hn] at rr
        rw [decide_eq_false hm, Bool.false_and, Bool.false_and]
        refine .miss ?_
        cases e : valueAt vb (Sum.inl q.1 : Key) with
        | none => rfl
        | some z => rw [e] at rr; exact rr.elim
/-- two dicts from ints to ints -/
def rDN (ne : Bool) : R2 := fun x y H Q => ∃ (a b : Addr) (l m : NK), x = .ref a ∧ y = .ref b ∧ Rd H a (.dK (kvN l)) ∧ Rd H b (.dK (kvN m)) ∧ Q (.bl (Bool.xor ne (eqN l m))) H
section
variable {X : Cx} {pins : List (Addr × Obj)} {σ : L2.St} {H : Hp} {s : Shared}
theorem dictN (I : Inv X pins σ H s) {a : Addr} {l : NK} (h : Rd H a (.dK (kvN l))) : (a == sysModules) = false ∧ ∃ va, KV (kvN l) va ∧ s.heap.DictOf (mixKind X.prog X.w) a va := by
  obtain ⟨_, ya, va, ra, da⟩ := (show ObjOk X.prog X.w H s.heap a (.dK (kvN l)) from h.ok I.hok)
  exact ⟨ya, va, ra, da⟩
theorem lenN {l m : NK} {va vb : List (Key × Value)} (ra : KV (kvN l) va) (rb : KV (kvN m) vb) : (va.length == vb.length) = (l.length == m.length) := by
  have e1 : (kvN l).length = va.length := ra.length
  have e2 : (kvN m).length = vb.length := rb.length
  unfold kvN at e1 e2
  rw [List.length_map] at e1 e2
  rw [e1, e2]
theorem op_eqDN (hu : X.A.units < cLine) : OpR X (compareOp .Eq) (rDN false) := by
  intro pins s σ H x y v u Q I rx ry h
  obtain ⟨a, b, l, m, rfl, rfl, ha, hb, q⟩ := h
  cases (show v = Value.ref a from rx)
  cases (show u = Value.ref b from ry)
  obtain ⟨ya, va, ra, da⟩ := dictN I ha
  obtain ⟨yb, vb, rb, db⟩ := dictN I hb
  refine PySem.W.keq_eq ya yb da db hu (fun _ => hitsN rb ra) ⟨.bl _, H, I, rfl, ?_⟩
  rw [lenN ra rb]
  have e : Bool.xor false (eqN l m) = (l.length == m.length && subN l m) := by rw [Bool.false_xor]; rfl
  rw [e] at q
  exact q
theorem op_neDN (hu : X.A.units < cLine) : OpR X (compareOp .NotEq) (rDN true) := by
  intro pins s σ H x y v u Q I rx ry h
  obtain ⟨a, b, l, m, rfl, rfl, ha, hb, q⟩ := h
  cases (show v = Value.ref a from rx)
  cases (show u = Value.ref b from ry)
  obtain ⟨ya, va, ra, da⟩ := dictN I ha
  obtain ⟨yb, vb, rb, db⟩ := dictN I hb
  refine PySem.W.keq_ne ya yb da db hu (fun _ => hitsN rb ra) ⟨.bl _, H, I, rfl, ?_⟩
  rw [lenN ra rb]
  have e : Bool.xor true (eqN l m) = (!(l.length == m.length && subN l m)) := by rw [Bool.true_xor]; rfl
  rw [e] at q
  exact q
/-- dicts at references, the same of ints -/
theorem dict_at (I : Inv X pins σ H s) {a b : Addr} {l : NK} (nd : (l.map (·.1)).Nodup) (ha : Rd H a (.dK (kvN l))) (hb : Rd H b (.dK (kvN l))) {A : Around} (hu : A.units < cLine) : SeqAt.EqAt A s (.ref a) (.ref b) true := by
  by_cases e : a = b
  · subst e
    exact SeqAt.EqAt.same _
  · refine SeqAt.EqAt.of_refs e fun prog w E Q hq => ?_
    obtain ⟨ya, va, ra, da⟩ := dictN I ha
    obtain ⟨yb, vb, rb, db⟩ := dictN I hb
    refine PySem.W.keq_eq (E := E) (Q := Q) ya yb (dict_all (P' := prog) (w' := w) ra da) (dict_all (P' := prog) (w' := w) rb db) hu (fun _ => hitsN rb ra) ?_
    rw [lenN ra rb, sub_self nd]
    simpa using hq
/-- lists of such dicts, alike -/
def rLN (K : PySem.W.Frag) : R2 := fun x y H Q => ∃ (a b : Addr) (xs ys : List V) (ls : List NK), x = .ref a ∧ y = .ref b ∧ SqL K H a xs ∧ SqL K H b ys ∧ (∀ l ∈ ls, (l.map (·.1)).Nodup) ∧ All2 (ls.map fun l => dicT (kvN l)) xs H ∧ All2 (ls.map fun l => dicT (kvN l)) ys H ∧ Q (.bl false) H
theorem dicts_at (I : Inv X pins σ H s) {A : Around} (hu : A.units < cLine) (ls : List NK) : ∀ (xs ys : List V) (us ws : List Value), (∀ l ∈ ls, (l.map (·.1)).Nodup) → All2 (ls.map fun l => dicT (kvN l)) xs H → All2 (ls.map fun l => dicT (kvN l)) ys H → Vals xs us → Vals ys ws → ∀ j (h1 : j < us.length) (h2 : j < ws.length), SeqAt.EqAt A s us[j] ws[j] true := by
  induction ls with
  | nil =>
    intro xs ys us ws _ hx hy r1 r2 j h1 h2
    have e := hx.len
    have e2 := r1.length
    rw [List.map_nil, List.length_nil] at e
    omega
  | cons l ls ih =>
    intro xs ys us ws nd hx hy r1 r2 j h1 h2
    obtain ⟨x, xs, rfl⟩ : ∃ x xs', xs = x :: xs' := by
      cases xs with
      | nil => exact hx.elim
      | cons x xs => exact ⟨x, xs, rfl⟩
    obtain ⟨y, ys, rfl⟩ : ∃ y ys', ys = y :: ys' := by
      cases ys with
      | nil => exact hy.elim
      | cons y ys => exact ⟨y, ys, rfl⟩
    obtain ⟨hx1, hxs⟩ := hx
    obtain ⟨hy1, hys⟩ := hy
    cases r1 with
    | @cons _ u _ us a1 b1 =>
      cases r2 with
      | @cons _ w _ ws a2 b2 =>
        cases j with
        | zero =>
          obtain ⟨a, o, rfl, ha⟩ := hx1
          obtain ⟨b, o', rfl, hb⟩ := hy1
          cases (show u = Value.ref a from a1)
          cases (show w = Value.ref b from a2)
          exact dict_at I (nd l List.mem_cons_self) (.inr ⟨o, ha⟩) (.inr ⟨o', hb⟩) hu
        | succ j => exact ih xs ys us ws (fun l hl => nd l (List.mem_cons_of_mem _ hl)) hxs hys b1 b2 j (Nat.lt_of_succ_lt_succ h1) (Nat.lt_of_succ_lt_succ h2)
theorem op_neLN (hu : X.A.units + 1 < cLine) : OpR X (compareOp .NotEq) (rLN X.K) := by
  intro pins s σ H x y v u Q I rx ry h
  obtain ⟨a, b, xs, ys, ls, rfl, rfl, ha, hb, nd, hx, hy, q⟩ := h
  cases (show v = Value.ref a from rx)
  cases (show u = Value.ref b from ry)
  obtain ⟨us, r1, p1, _⟩ := I.list ha
  obtain ⟨ws, r2, p2, _⟩ := I.list hb
  have hsz : us.toArray.size = ws.toArray.size := by
    have e1 := hx.len
    have e2 := hy.len
    rw [List.size_toArray, List.size_toArray, ← r1.length, ← r2.length, ← e1, ← e2]
  refine SeqAt.RcNeAt.lists (e := fun _ => true) p1.isList p2.isList hsz (by omega) (fun j h1 h2 => ?_) X.prog X.w _ _ ⟨.bl false, H, I, ?_, q⟩
  · have k := dicts_at I (A := X.A.in1) (by show X.A.units + 1 < cLine; exact hu) ls xs ys us ws nd hx hy r1 r2 j (by simpa using h1) (by simpa using h2)
    simpa using k
  · rw [show ((List.range us.toArray.size).all fun _ => true) = true from List.all_eq_true.mpr fun _ _ => rfl]
    rfl
end
section
variable {X : Cx} {Γ : Ctx} {a b : Expr} {pos : Pos}
theorem g_eqDN {l m : NK} (hu : X.A.units + 64 < cLine) (ha : G X Γ a (dicT (kvN l))) (hb : G X Γ b (dicT (kvN m))) : G X Γ (.Compare a [.Eq] [b] pos) (blT (eqN l m)) :=
  g_cmp (op_eqDN (by omega)) ha hb (fun v w H ⟨x, o, e1, h1⟩ ⟨y, o', e2, h2⟩ Q q => ⟨x, y, l, m, e1, e2, .inr ⟨o, h1⟩, .inr ⟨o', h2⟩, q _ H (Ex.refl H) (by show V.bl _ = V.bl _; simp)⟩) (nomark _)
theorem gt_neDN {l m : NK} (hu : X.A.units + 64 < cLine) (ha : G X Γ a (dicT (kvN l))) (hb : G X Γ b (dicT (kvN m))) : GT X Γ (.Compare a [.NotEq] [b] pos) (!eqN l m) :=
  gt_cmp (op_neDN (by omega)) ha hb (fun v w H ⟨x, o, e1, h1⟩ ⟨y, o', e2, h2⟩ Q q => ⟨x, y, l, m, e1, e2, .inr ⟨o, h1⟩, .inr ⟨o', h2⟩, q _ H (Ex.refl H) (by show V.bl _ = V.bl _; simp)⟩) (nomark _)
theorem gt_neLN {ls : List NK} (hu : X.A.units + 64 < cLine) (nd : ∀ l ∈ ls, (l.map (·.1)).Nodup) (ha : G X Γ a (lstT (ls.map fun l => dicT (kvN l)))) (hb : G X Γ b (lstT (ls.map fun l => dicT (kvN l)))) : GT X Γ (.Compare a [.NotEq] [b] pos) false :=
  gt_cmp (op_neLN (by omega)) ha hb (fun v w H ⟨x, xs, e1, h1, g1⟩ ⟨y, ys, e2, h2, g2⟩ Q q => ⟨x, y, xs, ys, ls, e1, e2, h1.sq, h2.sq, nd, g1, g2, q _ H (Ex.refl H) rfl⟩) (nomark _)
end
end RL

set_option Elab.async false
set_option linter.all false
set_option maxRecDepth 100000
set_option maxHeartbeats 2000000
/-! RLkvs: dicts of texts: copies, pairs, displays, !=; defs that may raise called with two keywords -/
namespace RL
open PySem PySem.Spec PyProof.Rows L2
theorem kvS_len (l : List (Str × Str)) : (kvS l).length = l.length := by unfold kvS; rw [List.length_map]
theorem kvS_keyz (l : List (Str × Str)) : (kvS l).map (·.1) = (l.map (·.1)).map Sum.inr := by
  unfold kvS
  rw [List.map_map, List.map_map]
  rfl
theorem kvS_put (l : List (Str × Str)) (x y : Str) (h : x ∉ l.map (·.1)) : putK (kvS l) (Sum.inr x : Key) (V.str y) = kvS (l ++ [(x, y)]) := by
  have hq : valV (kvS l) (Sum.inr x : Key) = none := by
    cases hv : valV (kvS l) (Sum.inr x : Key) with
    | none => rfl
    | some z =>
      have hin := valV_in hv
      rw [kvS_keyz] at hin
      obtain ⟨p, hp, e⟩ := List.mem_map.mp hin
      cases e
      exact absurd hp h
  rw [putK_new _ hq]
  unfold kvS
  rw [List.map_append]
  rfl
theorem merge_kvS : ∀ (r l : List (Str × Str)), ((l ++ r).map (·.1)).Nodup → mergeK (kvS l) (kvS r) = kvS (l ++ r)
  | [], l, _ => by rw [List.append_nil]; rfl
  | q :: r, l, h => by
    have hn : q.1 ∉ l.map (·.1) := fun z => by
      rw [List.map_append, List.nodup_append] at h
      exact absurd rfl (h.2.2 _ z q.1 (by simp))
    show mergeK (putK (kvS l) (Sum.inr q.1) (V.str q.2)) (kvS r) = _
    rw [kvS_put _ _ _ hn, merge_kvS r (l ++ [q]) (by rwa [List.append_assoc])]
    rw [List.append_assoc]
    rfl
theorem pairs_atS {K : PySem.W.Frag} {H : Hp} : ∀ {l : List (Str × Str)} {vs : List V}, All2 (l.map fun q => tupT K [strT q.1, strT q.2]) vs H → ∃ ps : List Addr, vs = ps.map V.ref ∧ Paired (fun p (kv : Key × V) => SqT K H p [kV kv.1, kv.2]) ps (kvS l)
  | [], vs, h => ⟨[], all2_nil h, .nil⟩
  | q :: l, vs, h => by
    obtain ⟨v, ws, rfl, ⟨a, us, ev, hp, hu⟩, h2⟩ := all2_cons h
    obtain ⟨ps, rfl, h3⟩ := pairs_atS h2
    have hus := vals2 hu
    subst hus; subst ev
    exact ⟨a :: ps, rfl, .cons hp.sq h3⟩
section
variable {X : Cx} {Γ : Ctx} {e a b : Expr} {pos p p1 p2 p3 p4 : Pos} {l : List (Str × Str)}
/-- dict(e), e a list of pairs of texts with different firsts -/
theorem g_dictS (h : G X Γ e (lstT (l.map fun q => tupT X.K [strT q.1, strT q.2]))) (hn : (l.map (·.1)).Nodup) (hm : X.mg "dict" = none) (hc : X.calm = true := by rfl) (hg : Gl X "dict" := by rfl) (he : starEach [e] X.env = (false, eval e X.env) :: starEach [] X.env := by exact se_cons rfl) :
    G X Γ (.Call (.Name "dict" p) [e] [] pos) (dicT (kvS l)) := fun σ H t Q q =>
  tE_frz (toE (pe_callTy (call_dictP hc) hg hm (by decide +kernel) (pa_cons (pe e) pa_nil he) (he := he)) (h σ H t _ fun v H1 e1 ⟨a, vs, ev, hf, h2⟩ => by
    subst ev
    obtain ⟨ps, rfl, h3⟩ := pairs_atS h2
    refine ⟨a, ps, kvS l, rfl, hf.sq, h3, fun d hd => ⟨d, _, upd_same, trivial, fun od => ?_⟩⟩
    rw [upd_upd]
    have z := merge_kvS l [] (by simpa using hn)
    rw [show kvS [] = [] from rfl, List.nil_append] at z
    rw [z]
    exact q _ _ (e1.trans (Ex.new hd)) ⟨d, od, rfl, upd_same⟩))
/-- dict(d), d a frozen dict -/
theorem g_dictD {kvs : List (Key × V)} (h : G X Γ e (dicT kvs)) (hm : X.mg "dict" = none) (hg : Gl X "dict" := by rfl) (he : starEach [e] X.env = (false, eval e X.env) :: starEach [] X.env := by exact se_cons rfl) :
    G X Γ (.Call (.Name "dict" p) [e] [] pos) (dicT kvs) := fun σ H t Q q =>
  tE_frz (toE (pe_callTy call_dictD hg hm (by decide +kernel) (pa_cons (pe e) pa_nil he) (he := he)) (h σ H t _ fun v H1 e1 h1 => by
    obtain ⟨a, ev, hd⟩ := rd_dict h1
    subst ev
    refine ⟨a, kvs, rfl, hd, fun d hd => ⟨d, _, upd_same, trivial, fun od => ?_⟩⟩
    rw [upd_upd]
    exact q _ _ (e1.trans (Ex.new hd)) ⟨d, od, rfl, upd_same⟩))
/-- {}, frozen -/
theorem g_dict0 : G X Γ (.Dict [] [] pos) (dicT (kvS [])) := fun σ H t Q q =>
  tE_frz (toE pe_dnewK fun d hd => ⟨d, _, upd_same, trivial, fun od => by
    rw [upd_upd]
    exact q _ _ (Ex.new hd) ⟨d, od, rfl, upd_same⟩⟩)
/-- {x: y}, texts -/
theorem g_disp1 {x y : Str} (ha : G X Γ a (strT x)) (hb : G X Γ b (strT y)) : G X Γ (.Dict [some a] [b] pos) (dicT (kvS [(x, y)])) := fun σ H t Q q =>
  tE_frz (toE (pe_disp (pps_cons (pe a) (pe b) pps_nil) rfl rfl (by simp) (by show 1 ≤ 15; decide)) fun d hd => ha _ _ (t.up (Ex.new hd)) _ fun v H1 e1 h1 => hb _ _ (t.up ((Ex.new hd).trans e1)) _ fun u H2 e2 h2 => by
    have h1' : v = V.str x := h1
    have h2' : u = V.str y := h2
    subst h1'; subst h2'
    have hH := e2 _ _ (e1 _ _ upd_same)
    refine ⟨hH, kvS [(x, y)], rfl, by show 1 ≤ 15; decide, d, _, upd_same, trivial, fun od => ?_⟩
    rw [upd_upd]
    exact q _ _ (((Ex.new hd).trans (e1.trans e2)).mut hd hH) ⟨d, od, rfl, upd_same⟩)
theorem g_disp2 {x y x' y' : Str} {a' b' : Expr} (ha : G X Γ a (strT x)) (hb : G X Γ b (strT y)) (ha' : G X Γ a' (strT x')) (hb' : G X Γ b' (strT y')) (hn : x ≠ x') : G X Γ (.Dict [some a, some a'] [b, b'] pos) (dicT (kvS [(x, y), (x', y')])) := fun σ H t Q q =>
  tE_frz (toE (pe_disp (pps_cons (pe a) (pe b) (pps_cons (pe a') (pe b') pps_nil)) rfl rfl (by simp) (by show 2 ≤ 15; decide)) fun d hd => ha _ _ (t.up (Ex.new hd)) _ fun v H1 e1 h1 => hb _ _ (t.up ((Ex.new hd).trans e1)) _ fun u H2 e2 h2 => ha' _ _ (t.up (((Ex.new hd).trans e1).trans e2)) _ fun v' H3 e3 h3 => hb' _ _ (t.up ((((Ex.new hd).trans e1).trans e2).trans e3)) _ fun u' H4 e4 h4 => by
    have h1' : v = V.str x := h1
    have h2' : u = V.str y := h2
    have h3' : v' = V.str x' := h3
    have h4' : u' = V.str y' := h4
    subst h1'; subst h2'; subst h3'; subst h4'
    have hH := e4 _ _ (e3 _ _ (e2 _ _ (e1 _ _ upd_same)))
    refine ⟨hH, kvS [(x, y), (x', y')], rfl, by show 2 ≤ 15; decide, d, _, upd_same, trivial, fun od => ?_⟩
    rw [upd_upd]
    have z := merge_kvS [(x, y), (x', y')] [] (by simp [hn])
    rw [show kvS [] = [] from rfl, List.nil_append] at z
    rw [z]
    exact q _ _ (((Ex.new hd).trans (((e1.trans e2).trans e3).trans e4)).mut hd hH) ⟨d, od, rfl, upd_same⟩)
theorem op_neKS (hu : X.A.units < cLine) : OpR X (compareOp .NotEq) (fun x y H Q => ∃ a b ks, x = .ref a ∧ y = .ref b ∧ Rd H a (.dK ks) ∧ Rd H b (.dK ks) ∧ (∀ p ∈ ks, valV ks p.1 = some p.2 ∧ flatB p.2 = true) ∧ Q (.bl false) H) := by
  intro pins s σ H x y v u Q I rx ry h
  obtain ⟨a, b, ks, rfl, rfl, ea, eb, hp, q⟩ := h
  obtain rfl : v = Value.ref a := rx
  obtain rfl : u = Value.ref b := ry
  obtain ⟨_, ya, va, ra, da⟩ := dk_rd I.hok ea
  obtain ⟨_, yb, vb, rb, db⟩ := dk_rd I.hok eb
  have hl : va.length = vb.length := by rw [← ra.length, ← rb.length]
  exact PySem.W.keq_ne (knd := mixKind X.prog X.w) (r := true) ya yb da db hu (fun _ => hits_all rb ra hp) (fin_bl I q (by simp [hl]))
/-- d != e, the same texts in both -/
theorem gt_neKS (hu : X.A.units + 64 < cLine) (hn : (l.map (·.1)).Nodup) (ha : G X Γ a (dicT (kvS l))) (hb : G X Γ b (dicT (kvS l))) (hm : behindInMarks .NotEq b = false := by rfl) : GT X Γ (.Compare a [.NotEq] [b] pos) false :=
  gt_cmp (op_neKS (by omega)) ha hb (fun v w H h1 h2 Q q => by
    obtain ⟨x, e1, h1⟩ := rd_dict h1
    obtain ⟨y, e2, h2⟩ := rd_dict h2
    refine ⟨x, y, _, e1, e2, h1, h2, fun p hp => ?_, q _ H (Ex.refl H) rfl⟩
    refine ⟨val_nodup (by rw [kvS_keyz]; exact List.Pairwise.map _ (fun a b h z => h (Sum.inr.inj z)) hn) p hp, ?_⟩
    unfold kvS at hp
    obtain ⟨q, _, rfl⟩ := List.mem_map.mp hp
    rfl) hm
end
/-! ### two keywords, in the other order -/
structure FnO2 (P : Program) (w : World) (K : PySem.W.Frag) (mg : Str → Option Value) (base : Heap) (k : Nat) (x : Str) (ps ks : List Str) (sp : Sp) : Prop where
  ex : ∃ f fd, FnOk P w K mg base (L2.CX P w) k f fd ps sp ∧ mg x = some (.ref f) ∧ PySem.W.keepIn K (.ref f) = true ∧ Binds K fd ps [] ∧ KBn K fd ps 0 ks (fun us ws => us ++ ws.reverse) (fun vs zs => vs ++ zs.reverse)
theorem FnO2.fn {P : Program} {w : World} {K : PySem.W.Frag} {mg : Str → Option Value} {base : Heap} {k : Nat} {x : Str} {ps ks : List Str} {sp : Sp} (F : FnO2 P w K mg base k x ps ks sp) : FnO P w K mg base k x ps sp := by
  obtain ⟨f, fd, h1, h2, h3, h4, h5⟩ := F.ex
  exact ⟨f, fd, h1, h2, h3, h4⟩
theorem FunD.bindsKr {K : PySem.W.Frag} {x qual : Str} {params : Arguments} {body : List Stmt} {scope : Scope} {kws : List (Str × V)} {f : Addr} {fd : FuncData} {ps ks : List Str} (F : FunD K x qual params body scope [] kws f fd)
    (h : ∀ (kV doc pm : Value) (an : Option Addr) (cdv ct : Value) (ws : List Value), ws.length = ks.length → bindArgs (PySem.W.fnOf x qual params body scope .none kV doc pm an cdv ct) ⟨[], ks.zip ws⟩ = pure (ps.zip ws.reverse)) : KBn K fd ps 0 ks (fun us ws => us ++ ws.reverse) (fun vs zs => vs ++ zs.reverse) := by
  obtain ⟨oc, od, dV, kV, doc, pm, an, cdv, ct, osl, rfl, lk, hcd, hD, hK⟩ := F.ex
  rcases hD with ⟨_, rfl⟩ | ⟨e, _⟩
  · refine ⟨fun s us ws _ h1 h2 => ?_, fun r1 r2 => r1.append ?_⟩
    · obtain rfl : us = [] := List.length_eq_zero_iff.mp h1
      exact .of_eq (h kV doc pm an cdv ct ws h2)
    · exact r2.reverse
  · exact absurd rfl e
section
variable {X : Cx} {Γ : Ctx} {e f : Expr} {T U V' : Ty} {pos p kp1 kp2 : Pos} {x k1 k2 : Str} {α : Type} {A : α → List Ty} {R : α → Out} {k : Nat} {ps : List Str}
/-- f(k1 = e, k2 = f), a value comes -/
theorem g_fnR2 (F : FnO2 X.prog X.w X.K X.mg X.base k x ps [k1, k2] (spO A R)) (hr : Room k X.A) (i : α) (hR : R i = .ret V') (ha : G X Γ e T) (hb : G X Γ f U) (hT : ∀ v u H, T v H → U u H → All2 (A i) [u, v] H)
    (hg : L2.Gl X x := by rfl) (hdb : (x == ("__debug__" : Str)) = false := by decide) (hall : (backToKw pos (keywordEach [⟨some k1, e, kp1⟩, ⟨some k2, f, kp2⟩] X.env)).all (·.1.isSome) = true := by rfl) (hks : (backToKw pos (keywordEach [⟨some k1, e, kp1⟩, ⟨some k2, f, kp2⟩] X.env)).filterMap (·.1) = [k1, k2] := by rfl)
    (hpl : ((backTo pos (starEach [] X.env)).any (·.1) || (backToKw pos (keywordEach [⟨some k1, e, kp1⟩, ⟨some k2, f, kp2⟩] X.env)).any (·.1.isNone)) = false := by rfl) : G X Γ (.Call (.Name x p) [] [⟨some k1, e, kp1⟩, ⟨some k2, f, kp2⟩] pos) V' := fun σ H t Q q => by
  obtain ⟨f, fd, F, hm, hk, _, hb2⟩ := F.ex
  refine toE (pe_callK0 F hr hg hm hk hb2 passX (pk_cons (pe e) (pk_cons (pe _) pk_nil)) hall hks hdb hpl) (ha σ H t _ fun v H1 e1 h1 => hb σ H1 (t.up e1) _ fun u H2 e2 h2 => ⟨rfl, rfl, i, hT v u H2 (T.up e2 h1) h2, ?_⟩)
  rw [hR]
  exact fun v' H3 e3 h3 => q v' H3 ((e1.trans e2).trans e3) h3
end
/-! ### x not in l, a list of texts -/
section
variable {X : Cx} {Γ : Ctx} {a b : Expr} {pos : Pos}
theorem g_notinSL {y : Str} {zs : List Str} (ha : G X Γ a (strT y)) (hb : G X Γ b (lstT (zs.map fun z => strT z))) (hm : behindInMarks .NotIn b = false := by rfl) : G X Γ (.Compare a [.NotIn] [b] pos) (blT (!(zs.any fun z => z == y))) :=
  g_cmp op_notIn_seq ha hb (fun v w H hv hw Q q => by
    obtain ⟨l, ws, rfl, hl, h3⟩ := hw
    have z : ws = zs.map V.str := All2.vals (H := H) (by rw [List.map_map]; exact h3)
    subst z
    have hv' : v = .str y := hv
    subst hv'
    refine ⟨l, _, rfl, .inl hl.sq, rfl, by rw [List.all_map]; exact List.all_eq_true.mpr fun _ _ => rfl, q _ H (Ex.refl H) ?_⟩
    show V.bl (if true then !L2.inV _ _ else _) = V.bl _
    rw [if_pos rfl]
    unfold L2.inV
    rw [List.any_map]
    rfl) hm
/-- z[:n] -/
theorem g_cutToS {e o : Expr} {x : Str} {n : Int} {pos2 : Pos} (ho : G X Γ o (strT x)) (hk : G X Γ e (intT n)) (hz : x.length ≤ sizeLine) : G X Γ (.Subscript o (.Slice none (some e) none pos2) pos) (strT (cutS x none (some n))) := fun σ H t Q q =>
  toE (pe_slice sl_str (pe o) po_none (po_some (pe e))) (ho σ H t _ fun v H1 e1 k1 => hk σ H1 (t.up e1) _ fun w H2 e2 h2 => ⟨n, h2, x, k1, hz, q _ H2 (e1.trans e2) rfl⟩)
end
end RL

set_option Elab.async false
set_option linter.all false
set_option maxRecDepth 100000
set_option maxHeartbeats 2000000
/-! RLread: texts that are read: signs, slices, split, partition, int(text) -/
namespace RL
open PySem PySem.Spec PyProof.Rows L2
/-- an int or None -/
def optT : Option Int → Ty
  | none => nonT
  | some n => intT n
def optV : Option Int → V
  | none => .non
  | some n => .int n
theorem opt_val {o : Option Int} {v : V} {H : Hp} (h : optT o v H) : v = optV o := by cases o <;> exact h
instance (o : Option Int) : Stb (optT o) := by cases o <;> (unfold optT; infer_instance)
section
variable {X : Cx} {Γ : Ctx} {e o a b : Expr} {pos p pos2 apos : Pos} {x y : Str}
/-- z[i] -/
theorem g_ixS {n : Int} {c : Nat} (ho : G X Γ o (strT x)) (hk : G X Γ e (intT n)) (hz : x.length ≤ sizeLine) (hT : L2.atI x.cps.toList n = some c) (hs : PlainIx e := by exact fun _ _ => rfl) : G X Γ (.Subscript o e pos) (strT ⟨#[c]⟩) := fun σ H t Q q =>
  toE (pe_ix ix_str (pe o) (pe e) hs) (ho σ H t _ fun v H1 e1 h1 => hk σ H1 (t.up e1) _ fun w H2 e2 h2 => ⟨x, n, c, h1, h2, hz, hT, q _ H2 (e1.trans e2) rfl⟩)
/-- z[n:] -/
theorem g_cutFromS {n : Int} (ho : G X Γ o (strT x)) (hk : G X Γ e (intT n)) (hz : x.length ≤ sizeLine) : G X Γ (.Subscript o (.Slice (some e) none none pos2) pos) (strT (cutS x (some n) none)) := fun σ H t Q q =>
  toE (pe_slice sl_str (pe o) (po_some (pe e)) po_none) (ho σ H t _ fun v H1 e1 k1 => hk σ H1 (t.up e1) _ fun w H2 e2 h2 => ⟨n, h2, x, k1, hz, q _ H2 (e1.trans e2) rfl⟩)
/-- x.split(y), frozen -/
theorem g_split (ho : G X Γ o (strT x)) (he : G X Γ e (strT y)) (hy : (y.length == 0) = false) (hz : x.length + 2 ≤ sizeLine) (hs : starEach [e] X.env = [(false, eval e X.env)] := by rfl) (hbase : attributeBase o "split" X.env (eval o X.env) = eval o X.env := by rfl) (hline : (apos.endLine == pos.line) = true := by rfl) :
    G X Γ (.Call (.Attribute o "split" apos) [e] [] pos) (lstT ((Txt.split x y).map fun z => strT z)) := fun σ H t Q q =>
  tE_frz (toE (pe_split (pe o) (pe e) hs hbase hline) (ho σ H t _ fun v H1 e1 h1 => ⟨⟨x, h1⟩, he σ H1 (t.up e1) _ fun w H2 e2 h2 => by
    have h1' : v = .str x := h1
    have h2' : w = .str y := h2
    subst h1'; subst h2'
    refine ⟨x, y, rfl, rfl, hy, hz, fun d hd => ⟨d, _, upd_same, trivial, fun od => ?_⟩⟩
    rw [upd_upd]
    refine q _ _ ((e1.trans e2).trans (Ex.new hd)) ⟨d, _, rfl, ⟨od, upd_same⟩, ?_⟩
    have z := All2.of_vals (H := upd H2 d (.frz od (.lst ((Txt.split x y).map V.str)))) (ws := (Txt.split x y).map V.str)
    rwa [List.map_map] at z⟩))
/-- x.partition(y) -/
theorem g_part (ho : G X Γ o (strT x)) (he : G X Γ e (strT y)) (hy : (y.length == 0) = false) (hz : x.length ≤ sizeLine) (hs : starEach [e] X.env = [(false, eval e X.env)] := by rfl) (hbase : attributeBase o "partition" X.env (eval o X.env) = eval o X.env := by rfl) (hline : (apos.endLine == pos.line) = true := by rfl) :
    G X Γ (.Call (.Attribute o "partition" apos) [e] [] pos) (tupT X.K [strT (Txt.partition x y).1, strT (Txt.partition x y).2.1, strT (Txt.partition x y).2.2]) := fun σ H t Q q =>
  toE (pe_partition (pe o) (pe e) hs hbase hline) (ho σ H t _ fun v H1 e1 h1 => ⟨⟨x, h1⟩, he σ H1 (t.up e1) _ fun w H2 e2 h2 => by
    have h1' : v = .str x := h1
    have h2' : w = .str y := h2
    subst h1'; subst h2'
    exact ⟨x, y, rfl, rfl, hy, hz, fun d hd => q _ _ ((e1.trans e2).trans (Ex.new hd)) ⟨d, _, rfl, .inl upd_same, rfl, rfl, rfl, trivial⟩⟩⟩)
/-- int(text) -/
theorem g_intS {n : Int} (h : G X Γ e (strT x)) (hn : PySem.intText? x = some n) (hl : x.length ≤ 640) (hm : X.mg "int" = none) (hg : Gl X "int" := by rfl) (he : starEach [e] X.env = (false, eval e X.env) :: starEach [] X.env := by exact se_cons rfl) : G X Γ (.Call (.Name "int" p) [e] [] pos) (intT n) :=
  g_callTy call_int_str hm (by decide +kernel) (ga_cons h ga_nil he) (fun vs H h2 Q q => ⟨x, n, vals1' h2, hn, hl, q _ H (Ex.refl H) rfl⟩) hg (he := he)
/-- e is None, e an int or None -/
theorem gt_isNO {k : Nat} {p2 : Pos} {oo : Option Int} (h : G X Γ a (optT oo)) : GT X Γ (.Compare a [.Is] [.Constant .none k p2] pos) oo.isNone := by
  cases oo with
  | none => exact gt_isN1 h
  | some n =>
    refine gt_isN0 h fun v H h z => ?_
    have h' : v = .int n := h
    rw [z] at h'
    cases h'
theorem opts_val {H : Hp} : ∀ {l : List (Option Int)} {ws : List V}, All2 (l.map optT) ws H → ws = l.map optV
  | [], _, h => all2_nil h
  | o :: l, _, h => by
    obtain ⟨v0, vs, rfl, h4, h5⟩ := all2_cons h
    rw [opt_val h4, opts_val h5]
    rfl
/-- None in l, l a list of ints and None -/
theorem gt_noneIn {l : List (Option Int)} (ha : G X Γ a nonT) (hb : G X Γ b (lstT (l.map optT))) (hm : behindInMarks .In b = false := by rfl) : GT X Γ (.Compare a [.In] [b] pos) (l.any Option.isNone) :=
  gt_cmp op_in_seq ha hb (fun v w H hv hw Q q => by
    obtain ⟨d, ws, rfl, hl, h3⟩ := hw
    have z : ws = l.map optV := by
      exact opts_val h3
    subst z
    have hv' : v = .non := hv
    subst hv'
    refine ⟨d, _, rfl, .inl hl.sq, rfl, by rw [List.all_map]; exact List.all_eq_true.mpr fun o _ => by cases o <;> rfl, q _ H (Ex.refl H) ?_⟩
    show V.bl (if false then _ else L2.inV _ _) = V.bl _
    rw [if_neg (by decide)]
    unfold L2.inV
    rw [List.any_map]
    congr 1
    exact List.any_congr rfl fun o => by cases o <;> rfl) hm
/-- list(d), d a dict that is read -/
theorem g_listR {kvs : List (Key × V)} (h : G X Γ e (rdT kvs)) (hm : X.mg "list" = none) (hc : X.calm = true := by rfl) (hg : Gl X "list" := by rfl) (he : starEach [e] X.env = (false, eval e X.env) :: starEach [] X.env := by exact se_cons rfl) : G X Γ (.Call (.Name "list" p) [e] [] pos) (lstT (kvs.map fun z => valT (kV z.1))) := fun σ H t Q q =>
  tE_frz (toE (pe_callTy (call_listD hc) hg hm (by decide +kernel) (pa_cons (pe e) pa_nil he) (he := he)) (h σ H t _ fun v H1 e1 ⟨a, ev, hd⟩ => by
    subst ev
    refine ⟨a, kvs, rfl, hd, fun d hd => ⟨d, _, upd_same, trivial, fun od => ?_⟩⟩
    rw [upd_upd]
    refine q _ _ (e1.trans (Ex.new hd)) ⟨d, _, rfl, ⟨od, upd_same⟩, ?_⟩
    have z := All2.of_vals (H := upd H1 d (.frz od (.lst (kvs.map fun kv => kV kv.1)))) (ws := kvs.map fun kv => kV kv.1)
    rwa [List.map_map] at z))
/-- max(l), l a list of ints -/
theorem g_maxL {ns : List Int} {m : Int} (h : G X Γ e (lstT (ns.map fun z => intT z))) (hm : m ∈ ns) (hM : ∀ y ∈ ns, y ≤ m) (hb : X.mg "max" = none) (hc : X.calm = true := by rfl) (hg : Gl X "max" := by rfl) (he : starEach [e] X.env = (false, eval e X.env) :: starEach [] X.env := by exact se_cons rfl) : G X Γ (.Call (.Name "max" p) [e] [] pos) (intT m) :=
  g_callB (cr_max hc) hb (by decide +kernel) (ga_cons h ga_nil he) (fun vs H h2 Q q => by
    obtain ⟨v, ev, a, ws, e2, hl, h3⟩ := one2 h2
    subst ev; subst e2
    have z : ws = ns.map V.int := All2.vals (H := H) (by rw [List.map_map]; exact h3)
    subst z
    refine ⟨a, ns, rfl, hl.sq, List.length_pos_of_mem hm, fun m' h4 h5 => ?_⟩
    have e3 : m' = m := Int.le_antisymm (hM m' h4) (h5 m hm)
    rw [e3]
    exact q _ H (Ex.refl H) rfl) hg (he := he)
end
end RL

set_option Elab.async false
set_option linter.all false
set_option maxRecDepth 100000
set_option maxHeartbeats 2000000
/-! K03D: digits_in, _law_digits_in -/
namespace K03
open PySem PySem.Spec PyProof.Rows L2 RL NM
abbrev digitsS : Str := "0123456789"
def dgB (x : Str) : Bool := (decide (1 ≤ (x.length : Int)) && decide ((x.length : Int) ≤ 30)) && x.cps.toList.all fun c => decide (c ∈ digitsS.cps.toList)
def headC (x : Str) : Nat := x.cps.toList.headD 0
def zeroB (x : Str) : Bool := decide ((x.length : Int) > 1) && decide ((⟨#[headC x]⟩ : Str) = "0")
def digO (x : Str) : Option Int := if dgB x = true then (if zeroB x = true then none else some ((NumText.digitsVal x.cps.toList : Nat) : Int)) else none
theorem digs_all {l : List Nat} (h : (l.all fun c => decide (c ∈ digitsS.cps.toList)) = true) : NumText.AllDigits l := by
  have z : ∀ c ∈ digitsS.cps.toList, 48 ≤ c ∧ c ≤ 57 := by decide +kernel
  rw [List.all_eq_true] at h
  exact fun c hc => z c (of_decide_eq_true (h c hc))
theorem len_of (x : Str) : x.length = x.cps.toList.length := by rw [Array.length_toList]; rfl
theorem head_at {x : Str} (h : 1 ≤ x.length) : L2.atI x.cps.toList 0 = some (headC x) := by
  rw [len_of] at h
  unfold headC
  generalize x.cps.toList = l at h ⊢
  cases l with
  | nil => simp at h
  | cons c r =>
    unfold L2.atI
    rw [ixN_nat (by decide) (by rw [List.length_cons]; omega)]
    rfl
theorem dg_pos {x : Str} (h : dgB x = true) : 1 ≤ x.length ∧ x.length ≤ 30 := by
  unfold dgB at h
  simp only [Bool.and_eq_true, decide_eq_true_eq] at h
  omega
theorem dg_int {x : Str} (h : dgB x = true) : PySem.intText? x = some ((NumText.digitsVal x.cps.toList : Nat) : Int) := by
  have hp := dg_pos h
  unfold dgB at h
  rw [Bool.and_eq_true] at h
  refine PySem.intText_digits (digs_all h.2) (fun z => ?_) (by omega)
  rw [len_of, z] at hp
  exact absurd hp.1 (by simp)
section
variable {P : Program} {w : World} {K : PySem.W.Frag} {mg : Str → Option Value} {base : Heap}
abbrev TxI := { z : Str // z.length ≤ 3000 }
theorem sc_digits : FnScope ["text", "sign"] ["text"] (defScope s_digits_in) := ⟨rfl, rfl, rfl, by decide +kernel, rfl, by decide +kernel, by decide +kernel⟩
theorem g_digits (T : Tx fa fn ex K mg) {X : Cx} (hX : X.K = K ∧ X.mg = mg) {Γ : RL.Ctx} {pos : Pos} (hg : Gl X "DIGITS" := by rfl) : G X Γ (.Name "DIGITS" pos) (strT digitsS) := by
  obtain ⟨rfl, rfl⟩ := hX
  obtain ⟨hp, X', G'⟩ := T.ns
  obtain ⟨t, ht⟩ := He.str_ok X' G' (T.fact _ q_str_DIGITS_0123456789)
  exact g_glob (v := .str digitsS) ht ⟨t, rfl⟩ hg (by decide)
theorem f_digits (T : Tx fa fn ex K mg) : FnG P w K mg base 1 "digits_in" ["text"] (spG (fun z : TxI => [strT z.1]) fun z => optT (digO z.1)) := by
  obtain ⟨tk, hM⟩ := T.int "MOST_DIGITS" 30 q_int_MOST_DIGITS
  refine T.fn d_digits_in i_digits_in "digits_in" rfl q_glo_digits_in rfl (fun _ _ _ _ _ _ us hl => match us, hl with | [_], _ => rfl) fun f fd F => ?_
  refine fn_G F sc_digits (fun _ => rfl) fun z cdv Ar outer s H E hr nd D hD _ => ?_
  obtain ⟨x, hz⟩ := z
  have hz' : x.length ≤ sizeLine := Nat.le_trans hz (by decide)
  have hlen := T.free _ q_free_len
  refine b_if (k := !dgB x) (GT.is (gt_or2 (gt_not (gt_le2 (i := 1) (j := (x.length : Int)) (k := 30) g_int (g_lenS (g_var (T := strT x) 0) hz' hlen) (g_glob (v := .int 30) hM ⟨_, rfl⟩))) fun _ => gt_not (gt_bl (g_allSigns (y := x) (z := digitsS) (i := 1) (g_var 0) hz' (fun c s2 H2 C cl fp => g_digits T ⟨rfl, rfl⟩) (fun c s2 H2 C cl fp => g_var 1) (T.free _ q_free_all)))) (by unfold dgB; simp only [Bool.not_and])) (fun h => ?_) fun h => ?_
  · have hd : digO x = none := by unfold digO; rw [if_neg (by rw [Bool.not_eq_true'] at h; rw [h]; decide)]
    exact b_ret (T := optT (digO x)) (by rw [hd]; exact g_non) hD
  · rw [Bool.not_eq_false'] at h
    obtain ⟨h1, h2⟩ := dg_pos h
    refine b_skip (b_ret (T := optT (digO x)) (g_ite (k := zeroB x) (gt_and2 (gt_gt (g_lenS (g_var (T := strT x) 0) hz' hlen) g_int) fun _ => gt_eqS (g_ixS (g_var (T := strT x) 0) g_int hz' (head_at h1)) g_str) (fun hk => ?_) fun hk => ?_) hD)
    · unfold digO
      rw [if_pos h, if_pos hk]
      exact g_non
    · unfold digO
      rw [if_pos h, if_neg (by rw [hk]; decide)]
      exact g_intS (g_var (T := strT x) 0) (dg_int h) (by omega) (T.free _ q_free_int)
theorem sc_ldigits : FnScope ["_law_text_here", "_law_sign"] ["_law_text_here"] (defScope s__law_digits_in) := ⟨rfl, rfl, rfl, by decide +kernel, rfl, by decide +kernel, by decide +kernel⟩
theorem f_ldigits (T : Tx fa fn ex K mg) : FnG P w K mg base 1 "_law_digits_in" ["_law_text_here"] (spG (fun z : TxI => [strT z.1]) fun z => optT (digO z.1)) := by
  refine T.fn d__law_digits_in i__law_digits_in "_law_digits_in" rfl q_glo__law_digits_in rfl (fun _ _ _ _ _ _ us hl => match us, hl with | [_], _ => rfl) fun f fd F => ?_
  refine fn_G F sc_ldigits (fun _ => rfl) fun z cdv Ar outer s H E hr nd D hD _ => ?_
  obtain ⟨x, hz⟩ := z
  have hz' : x.length ≤ sizeLine := Nat.le_trans hz (by decide)
  have hlen := T.free _ q_free_len
  refine b_if (k := !dgB x) (GT.is (gt_or2 (gt_not (gt_le2 (i := 1) (j := (x.length : Int)) (k := 30) g_int (g_lenS (g_var (T := strT x) 0) hz' hlen) g_int)) fun _ => gt_not (gt_bl (g_allSigns (y := x) (z := digitsS) (i := 1) (g_var 0) hz' (fun c s2 H2 C cl fp => g_str) (fun c s2 H2 C cl fp => g_var 1) (T.free _ q_free_all)))) (by unfold dgB; simp only [Bool.not_and])) (fun h => ?_) fun h => ?_
  · have hd : digO x = none := by unfold digO; rw [if_neg (by rw [Bool.not_eq_true'] at h; rw [h]; decide)]
    exact b_ret (T := optT (digO x)) (by rw [hd]; exact g_non) hD
  · rw [Bool.not_eq_false'] at h
    obtain ⟨h1, h2⟩ := dg_pos h
    refine b_skip (b_ret (T := optT (digO x)) (g_ite (k := zeroB x) (gt_and2 (gt_gt (g_lenS (g_var (T := strT x) 0) hz' hlen) g_int) fun _ => gt_eqS (g_ixS (g_var (T := strT x) 0) g_int hz' (head_at h1)) g_str) (fun hk => ?_) fun hk => ?_) hD)
    · unfold digO
      rw [if_pos h, if_pos hk]
      exact g_non
    · unfold digO
      rw [if_pos h, if_neg (by rw [hk]; decide)]
      exact g_intS (g_var (T := strT x) 0) (dg_int h) (by omega) (T.free _ q_free_int)
end
end K03

set_option Elab.async false
set_option linter.all false
set_option maxRecDepth 100000
set_option maxHeartbeats 2000000
/-! RLsplit: texts cut at one sign, plain -/
namespace RL
open PySem PySem.Spec PyProof.Rows L2
theorem pre1 (s c : Nat) (r : List Nat) : TL.pre [s] (c :: r) = (c == s) := by
  unfold TL.pre
  show ([c] == [s]) = _
  simp
theorem spl1_len (s : Nat) : ∀ (l acc : List Nat), (TL.spl [s] 0 acc l).length = l.count s + 1
  | [], acc => by rw [TL.spl_nil]; rfl
  | c :: r, acc => by
    by_cases h : c = s
    · rw [TL.spl_hit (by rw [pre1, h]; exact beq_self_eq_true s)]
      show (acc :: TL.spl [s] 0 [] r).length = _
      rw [List.length_cons, spl1_len s r [], h, List.count_cons_self]
    · rw [TL.spl_miss (by rw [pre1]; exact beq_false_of_ne h), spl1_len s r _, List.count_cons_of_ne h]
theorem spl1_le (s : Nat) : ∀ (l acc p : List Nat), p ∈ TL.spl [s] 0 acc l → p.length ≤ acc.length + l.length
  | [], acc, p, hp => by
    rw [TL.spl_nil, List.mem_singleton] at hp
    rw [hp]
    exact Nat.le_refl _
  | c :: r, acc, p, hp => by
    by_cases h : c = s
    · rw [TL.spl_hit (by rw [pre1, h]; exact beq_self_eq_true s)] at hp
      have hp : p ∈ acc :: TL.spl [s] 0 [] r := hp
      rcases List.mem_cons.mp hp with e | e
      · rw [e]
        exact Nat.le_add_right _ _
      · have := spl1_le s r [] p e
        rw [List.length_nil, Nat.zero_add] at this
        rw [List.length_cons]
        omega
    · rw [TL.spl_miss (by rw [pre1]; exact beq_false_of_ne h)] at hp
      have := spl1_le s r _ p hp
      rw [List.length_append, List.length_singleton] at this
      rw [List.length_cons]
      omega
theorem split1 (x y : Str) {s : Nat} (ey : TL.tl y = [s]) (hs : s < 256) : (Txt.split x y).map TL.tl = TL.spl [s] 0 [] (TL.tl x) := by
  have hk : y.cps.all (· < 256) = true := by
    have e : y.cps = #[s] := by
      have z : y.cps.toList = [s] := ey
      exact Array.toList_inj.mp z
    rw [e]
    simp [hs]
  rw [TL.split_spl x y (by rw [ey]; simp) (TL.kind_ok hk), ey]
theorem split1_len {x y : Str} {s : Nat} (ey : TL.tl y = [s]) (hs : s < 256) : (Txt.split x y).length = (TL.tl x).count s + 1 := by
  have z := congrArg List.length (split1 x y ey hs)
  rw [List.length_map, spl1_len] at z
  exact z
theorem split1_le {x y p : Str} {s : Nat} (ey : TL.tl y = [s]) (hs : s < 256) (hp : p ∈ Txt.split x y) : p.length ≤ x.length := by
  have z : TL.tl p ∈ (Txt.split x y).map TL.tl := List.mem_map_of_mem hp
  rw [split1 x y ey hs] at z
  have := spl1_le s _ _ _ z
  rw [List.length_nil, Nat.zero_add, ← TL.len_tl, ← TL.len_tl] at this
  exact this
/-- a text at its first sign -/
theorem word_cases (w y : Str) {s : Nat} (ey : TL.tl y = [s]) (hs : s < 256) : (Txt.partition w y = (w, Str.empty, Str.empty) ∧ Txt.split w y = [w]) ∨
    ∃ a b : Str, w.length = a.length + 1 + b.length ∧ Txt.partition w y = (a, y, b) ∧ Txt.split w y = a :: Txt.split b y ∧ (Txt.split b y = [b] ∨ s ∈ TL.tl b) := by
  by_cases h : s ∈ TL.tl w
  · obtain ⟨p, q, e, hp⟩ := List.eq_append_cons_of_mem h
    refine .inr ⟨⟨p.toArray⟩, ⟨q.toArray⟩, ?_, ?_, ?_, ?_⟩
    · rw [TL.len_tl, TL.len_tl, TL.len_tl, e]
      show (p ++ s :: q).length = p.length + 1 + q.length
      rw [List.length_append, List.length_cons]
      omega
    · have z : w = (⟨p.toArray⟩ : Str) ++ y ++ ⟨q.toArray⟩ := TL.ext_tl (by
        rw [TL.tl_append, TL.tl_append, ey, e]
        show p ++ s :: q = p ++ [s] ++ q
        simp)
      have z2 := TL.partition_app (y := y) ey (a := ⟨p.toArray⟩) (b := ⟨q.toArray⟩) hp
      rw [← z] at z2
      exact z2
    · refine TL.map_tl_inj ?_
      rw [split1 w y ey hs, e, List.map_cons, split1 _ y ey hs]
      show TL.spl [s] 0 [] (p ++ ([s] ++ q)) = p :: TL.spl [s] 0 [] q
      rw [TL.spl_part1 hp, List.nil_append]
    · by_cases h2 : s ∈ TL.tl (⟨q.toArray⟩ : Str)
      · exact .inr h2
      · refine .inl (TL.map_tl_inj ?_)
        rw [split1 _ y ey hs, TL.spl_last1 h2]
        rfl
  · refine .inl ⟨TL.partition_none ey h, TL.map_tl_inj ?_⟩
    rw [split1 w y ey hs, TL.spl_last1 h]
    rfl
end RL

set_option Elab.async false
set_option linter.all false
set_option maxRecDepth 100000
set_option maxHeartbeats 2000000
/-! K03B: texts of numbers, plain -/
namespace K03
open PySem PySem.Spec PyProof.Rows L2 RL NM
def knownB (n : Int) : Bool := decide (n < 1000) && isPB n
def expO (sg pw : Str) : Option Int := if decide (sg ≠ "") = true then digO pw else some 1
/-- a base and an exponent -/
def okW (b sg pw : Str) : Option (Int × Int) := match digO b, expO sg pw with
  | some n, some e => if (knownB n && !decide (e < 1 + (sg.length : Int))) = true then some (n, e) else none
  | _, _ => none
def wordR (w : Str) : Option (Int × Int) := okW (Txt.partition w "^").1 (Txt.partition w "^").2.1 (Txt.partition w "^").2.2
def lateB (l : NK) (n : Int) : Bool := decide ((l.length : Int) > 0) && decide (n ≤ lastP l)
def rdStep (st : Option NK) (w : Str) : Option NK := match st, wordR w with
  | some l, some q => if lateB l q.1 = true then none else some (l ++ [q])
  | _, _ => none
def wordsX (x : Str) : List Str := if x = "1" then [] else Txt.split x "*"
def readX (x : Str) : Option NK := (wordsX x).foldl rdStep (some [])
theorem rd_none (ws : List Str) : ws.foldl rdStep none = none := by
  induction ws with
  | nil => rfl
  | cons w r ih => rw [List.foldl_cons]; exact ih
theorem okW_some {b sg pw : Str} {q : Int × Int} (h : okW b sg pw = some q) : digO b = some q.1 ∧ expO sg pw = some q.2 ∧ knownB q.1 = true ∧ 1 + (sg.length : Int) ≤ q.2 := by
  unfold okW at h
  cases h1 : digO b with
  | none => rw [h1] at h; cases h
  | some n =>
    cases h2 : expO sg pw with
    | none => rw [h1, h2] at h; cases h
    | some e =>
      rw [h1, h2] at h
      simp only at h
      split at h
      · rename_i hk
        cases h
        rw [Bool.and_eq_true, Bool.not_eq_true', decide_eq_false_iff_not] at hk
        exact ⟨rfl, rfl, hk.1, by omega⟩
      · cases h
/-- numbers that are read -/
structure RdOk (l : NK) : Prop where
  asc : (l.map (·.1)).Pairwise (· < ·)
  pos : ∀ q ∈ l, 0 < q.2
  pr : ∀ q ∈ l, 0 < q.1 ∧ q.1 < 1000 ∧ isPB q.1 = true
theorem RdOk.nil : RdOk [] := ⟨.nil, fun q h => (by cases h), fun q h => (by cases h)⟩
theorem isPB_two {n : Int} (h : isPB n = true) : 2 ≤ n := by
  unfold isPB at h
  rw [Bool.and_eq_true, decide_eq_true_eq] at h
  exact h.1
theorem last_in {l : NK} (h : l ≠ []) : lastP l ∈ l.map (·.1) := by
  unfold lastP
  rw [List.getLast?_eq_some_getLast h]
  exact List.mem_map_of_mem (List.getLast_mem h)
theorem last_max {l : NK} (h : (l.map (·.1)).Pairwise (· < ·)) : ∀ y ∈ l.map (·.1), y ≤ lastP l := by
  rcases List.eq_nil_or_concat l with e | ⟨r, q, e⟩
  · subst e
    intro y hy
    cases hy
  · rw [List.concat_eq_append] at e
    subst e
    rw [List.map_append] at h
    have h3 := (List.pairwise_append.mp h).2.2
    rw [lastP_snoc]
    intro y hy
    rw [List.map_append] at hy
    rcases List.mem_append.mp hy with z | z
    · have := h3 y z q.1 (by simp)
      omega
    · have : y = q.1 := by simpa using z
      omega
theorem RdOk.snoc {l : NK} {b sg pw : Str} {q : Int × Int} (h : RdOk l) (hw : okW b sg pw = some q) (hl : lateB l q.1 = false) : RdOk (l ++ [q]) := by
  obtain ⟨_, _, hk, he⟩ := okW_some hw
  unfold knownB at hk
  rw [Bool.and_eq_true, decide_eq_true_eq] at hk
  have h2 := isPB_two hk.2
  refine ⟨?_, fun r hr => ?_, fun r hr => ?_⟩
  · rw [List.map_append]
    refine List.pairwise_append.mpr ⟨h.asc, by simp, fun a ha c hc => ?_⟩
    have hc' : c = q.1 := by simpa using hc
    rw [hc']
    have hne : l ≠ [] := fun z => by rw [z] at ha; cases ha
    have hpos : (l.length : Int) > 0 := by have := List.length_pos_iff.mpr hne; omega
    unfold lateB at hl
    rw [decide_eq_true hpos, Bool.true_and, decide_eq_false_iff_not] at hl
    have := last_max h.asc a ha
    omega
  · rcases List.mem_append.mp hr with z | z
    · exact h.pos r z
    · rw [List.mem_singleton.mp z]; omega
  · rcases List.mem_append.mp hr with z | z
    · exact h.pr r z
    · rw [List.mem_singleton.mp z]; exact ⟨by omega, hk.1, hk.2⟩
theorem RdOk.canon {l : NK} (h : RdOk l) : Canon l := ⟨h.asc, h.pos⟩
theorem step_bad {l : NK} {w : Str} (h : wordR w = none) : rdStep (some l) w = none := by unfold rdStep; rw [h]
theorem step_late {l : NK} {w : Str} {q : Int × Int} (h : wordR w = some q) (hl : lateB l q.1 = true) : rdStep (some l) w = none := by
  unfold rdStep
  rw [h]
  simp only
  rw [if_pos hl]
theorem step_good {l : NK} {w : Str} {q : Int × Int} (h : wordR w = some q) (hl : lateB l q.1 = false) : rdStep (some l) w = some (l ++ [q]) := by
  unfold rdStep
  rw [h]
  simp only
  rw [if_neg (by rw [hl]; decide)]
theorem rd_ok : ∀ {ws : List Str} {l m : NK}, RdOk l → ws.foldl rdStep (some l) = some m → RdOk m ∧ m.length = l.length + ws.length
  | [], l, m, h, e => by cases e; exact ⟨h, rfl⟩
  | w :: r, l, m, h, e => by
    rw [List.foldl_cons] at e
    cases hw : wordR w with
    | none => rw [step_bad hw, rd_none] at e; cases e
    | some q =>
      cases hl : lateB l q.1 with
      | true => rw [step_late hw hl, rd_none] at e; cases e
      | false =>
        rw [step_good hw hl] at e
        obtain ⟨h1, h2⟩ := rd_ok (h.snoc hw hl) e
        refine ⟨h1, ?_⟩
        rw [h2, List.length_append]
        simp only [List.length_cons, List.length_nil]
        omega
end K03

set_option Elab.async false
set_option linter.all false
set_option maxRecDepth 100000
set_option maxHeartbeats 8000000
namespace K03
open PySem PySem.Spec PyProof.Rows L2 RL NM
section
variable {P : Program} {w : World} {K : PySem.W.Frag} {mg : Str → Option Value} {base : Heap}
theorem ex_parts (T : Tx fa fn ex K mg) : exnB K (He.ga K "InvalidNumber") "given" = true ∧ baseB K (He.ga K "TimesError") = true ∧ cvB K (He.ga K "Number") "MOST" 1000000 = true ∧ iniB K (He.ga K "InvalidNumber") = true ∧ PySem.W.exmAny K (.ref (He.ga K "InvalidNumber")) [.ref (He.ga K "TimesError"), .ref (He.ga K "Missing"), .ref (He.ga K "NothingLeft")] = some true := by
  have := T.c.2
  unfold ex at this
  simp only [Bool.and_eq_true] at this
  exact ⟨this.2.1, this.2.2.1, this.2.2.2.1.1, this.2.2.2.1.2, of_decide_eq_true this.2.2.2.2⟩
theorem exc (T : Tx fa fn ex K mg) : ExC K (He.ga K "InvalidNumber") "given" := exnB_ok (ex_parts T).1
theorem tbase (T : Tx fa fn ex K mg) : BaseI K (He.ga K "TimesError") (.type "type") := baseB_ok (ex_parts T).2.1
theorem sc_ini : FnScope ["self", "given"] ["self", "given"] (defScope s_InvalidNumber___init__) := ⟨rfl, rfl, rfl, by decide +kernel, rfl, by decide +kernel, by decide +kernel⟩
theorem ok_ini (T : Tx fa fn ex K mg) {f : Addr} {fd : FuncData} {kws : List (Str × V)} (F : FunD K "__init__" "InvalidNumber.__init__" (defArgs s_InvalidNumber___init__) (defBody s_InvalidNumber___init__) (defScope s_InvalidNumber___init__) [] kws f fd) : FnOk P w K mg base CX0 1 f fd ["self", "given"] (RL.spInit (He.ga K "InvalidNumber") "given" "InvalidNumber") := by
  refine fn_sp F sc_ini (fun vs H Q E h => ?_) fun cdv A outer s H vs Q E hr h => ?_
  · obtain ⟨a, x, rfl, _⟩ := h
    rfl
  · obtain ⟨a, x, rfl, ha, q⟩ := h
    have O := exc T
    have B := tbase T
    have hm : mg "TimesError" = some (.ref (He.ga K "TimesError")) := T.glo _ q_glo_TimesError
    refine toB (pss_cons (ps_expr (pe_tinit (X := BX P w K mg base ["self", "given"] "InvalidNumber.__init__" (defScope s_InvalidNumber___init__) f cdv A outer s H E) (x := "TimesError") B rfl hm (pa_cons (pv 0) (pa_cons pe_str pa_nil)))) (pss_cons (ps_ost (pv 0) (pv 1)) (pss_one (ps_ost (pv 0) pe_str)))) ?_
    refine ⟨_, rfl, ?_⟩
    refine ⟨a, _, [.str _], rfl, by show 1 ≤ 1000; decide, O.oex, ha, ?_⟩
    refine ⟨x, rfl, _, rfl, a, _, rfl, O.oex, O.n1, .inl ⟨ha, fun d hd hda => ?_⟩⟩
    refine ⟨_, rfl, a, _, rfl, O.oex, O.n2, .inr ⟨d, [("given", x)], upd_same, ?_, by show 1 ≤ 900; decide, ?_⟩⟩
    · rw [upd_ne hda, upd_same]
    · exact q d hd hda
end
end K03

set_option Elab.async false
set_option linter.all false
set_option maxRecDepth 100000
set_option maxHeartbeats 2000000
/-! RLfac: an integer's primes by division, as the program and as the laws do it -/
namespace NM
/-- the primes of m integers from v on -/
def prs : Nat → Int → List Int
  | 0, _ => []
  | m + 1, v => if isPB v = true then v :: prs m (v + 1) else prs m (v + 1)
def allN : Nat → Int → List Int
  | 0, _ => []
  | m + 1, v => v :: allN m (v + 1)
theorem prs_yes {m : Nat} {v : Int} (h : isPB v = true) : prs (m + 1) v = v :: prs m (v + 1) := if_pos h
theorem prs_no {m : Nat} {v : Int} (h : isPB v = false) : prs (m + 1) v = prs m (v + 1) := if_neg (by rw [h]; decide)
/-- how often p goes into r, what is left -/
def pull : Nat → Int → Int → Nat × Int
  | 0, _, r => (0, r)
  | n + 1, p, r => if r % p = 0 then ((pull n p (r / p)).1 + 1, (pull n p (r / p)).2) else (0, r)
theorem pull_no {n : Nat} {p r : Int} (h : r % p ≠ 0) : pull n p r = (0, r) := by
  cases n with
  | zero => rfl
  | succ n => rw [pull, if_neg h]
theorem pull_spec {p r : Int} (hp : 2 ≤ p) (hr : r % p ≠ 0) : ∀ (c n : Nat), c ≤ n → pull n p (r * p ^ c) = (c, r)
  | 0, n, _ => by
    have e : r * p ^ 0 = r := by rw [Int.pow_zero, Int.mul_one]
    rw [e]
    exact pull_no hr
  | c + 1, 0, h => by omega
  | c + 1, n + 1, h => by
    have e : r * p ^ (c + 1) = r * p ^ c * p := by rw [Int.pow_succ, Int.mul_assoc]
    have h1 : r * p ^ (c + 1) % p = 0 := by rw [e]; exact Int.mul_emod_left _ _
    have h2 : r * p ^ (c + 1) / p = r * p ^ c := by rw [e]; exact Int.mul_ediv_cancel _ (by omega)
    rw [pull, if_pos h1, h2, pull_spec hp hr c n (by omega)]
theorem pull_facts (p : Int) (hp : 2 ≤ p) : ∀ (n : Nat) (r : Int), 1 ≤ r → 1 ≤ (pull n p r).2 ∧ (pull n p r).2 ≤ r ∧ ((pull n p r).1 ≠ 0 → (pull n p r).2 * 2 ≤ r) ∧ (∀ d, r % d ≠ 0 → (pull n p r).2 % d ≠ 0) ∧ (r < ((2 ^ n : Nat) : Int) → (pull n p r).2 % p ≠ 0)
  | 0, r, h => ⟨h, Int.le_refl _, fun z => absurd rfl z, fun d z => z, fun z => by
    have : ((2 ^ 0 : Nat) : Int) = 1 := rfl
    omega⟩
  | n + 1, r, h => by
    by_cases c : r % p = 0
    · have e : r / p * p = r := Int.ediv_mul_cancel (Int.dvd_of_emod_eq_zero c)
      generalize hq : r / p = q at e
      have hq1 : 1 ≤ q := by
        by_cases z : 1 ≤ q
        · exact z
        · have : q * p ≤ 0 * p := Int.mul_le_mul_of_nonneg_right (by omega) (by omega)
          omega
      have hq2 : q * 2 ≤ q * p := Int.mul_le_mul_of_nonneg_left hp (by omega)
      obtain ⟨a1, a2, a3, a4, a5⟩ := pull_facts p hp n q hq1
      rw [pull, if_pos c, hq]
      refine ⟨a1, by show (pull n p q).2 ≤ r; omega, fun _ => by show (pull n p q).2 * 2 ≤ r; omega, fun d hd => a4 d fun z => hd ?_, fun hr => a5 ?_⟩
      · rw [← e]
        exact Int.emod_eq_zero_of_dvd (Int.dvd_trans (Int.dvd_of_emod_eq_zero z) (Int.dvd_mul_right _ _))
      · have : ((2 ^ (n + 1) : Nat) : Int) = ((2 ^ n : Nat) : Int) * 2 := by rw [Nat.pow_succ]; omega
        omega
    · rw [pull_no c]
      exact ⟨h, Int.le_refl _, fun z => absurd rfl z, fun d z => z, fun _ => c⟩
def step (st : NK × Int) (p : Int) : NK × Int := (if (pull 20 p st.2).1 = 0 then st.1 else st.1 ++ [(p, ((pull 20 p st.2).1 : Int))], (pull 20 p st.2).2)
theorem step_no {st : NK × Int} {p : Int} (h : st.2 % p ≠ 0) : step st p = st := by
  unfold step
  rw [pull_no h]
  rfl
theorem step_one {st : NK × Int} {p : Int} (h : st.2 = 1) (hp : 2 ≤ p) : step st p = st := step_no (by rw [h, Int.emod_eq_of_lt (by omega) (by omega)]; decide)
theorem fold_one : ∀ {l : List Int} {st : NK × Int}, (∀ p ∈ l, 2 ≤ p) → st.2 = 1 → l.foldl step st = st
  | [], st, _, _ => rfl
  | p :: l, st, h, e => by
    rw [List.foldl_cons, step_one e (h p (by simp))]
    exact fold_one (fun q hq => h q (by simp [hq])) e
structure FacI (n b : Int) (st : NK × Int) : Prop where
  one : 1 ≤ st.2
  le : st.2 * ((2 ^ st.1.length : Nat) : Int) ≤ n
  asc : (st.1.map (·.1)).Pairwise (· < ·)
  lt : ∀ p ∈ st.1.map (·.1), p < b
  pos : ∀ q ∈ st.1, 0 < q.2
theorem FacI.start {n b : Int} (h : 1 ≤ n) : FacI n b ([], n) := ⟨h, by show n * 1 ≤ n; omega, .nil, fun _ h => by simp at h, fun _ h => by simp at h⟩
theorem FacI.up {n b c : Int} {st : NK × Int} (I : FacI n b st) (h : b ≤ c) : FacI n c st := ⟨I.one, I.le, I.asc, fun p hp => Int.lt_of_lt_of_le (I.lt p hp) h, I.pos⟩
theorem FacI.step {n b p : Int} {st : NK × Int} (I : FacI n b st) (hp : 2 ≤ p) (hb : b ≤ p) : FacI n (p + 1) (step st p) := by
  obtain ⟨a1, a2, a3, a4, a5⟩ := pull_facts p hp 20 st.2 I.one
  unfold NM.step
  by_cases c : (pull 20 p st.2).1 = 0
  · rw [if_pos c]
    refine ⟨a1, ?_, I.asc, fun q hq => Int.lt_trans (I.lt q hq) (by omega), I.pos⟩
    exact Int.le_trans (Int.mul_le_mul_of_nonneg_right a2 (Int.natCast_nonneg _)) I.le
  · rw [if_neg c]
    have h3 := a3 c
    refine ⟨a1, ?_, ?_, ?_, ?_⟩
    · show (pull 20 p st.2).2 * ((2 ^ (st.1 ++ [(p, ((pull 20 p st.2).1 : Int))]).length : Nat) : Int) ≤ n
      rw [List.length_append, List.length_singleton]
      have e : ((2 ^ (st.1.length + 1) : Nat) : Int) = 2 * ((2 ^ st.1.length : Nat) : Int) := by rw [Nat.pow_succ]; omega
      rw [e, ← Int.mul_assoc]
      exact Int.le_trans (Int.mul_le_mul_of_nonneg_right h3 (Int.natCast_nonneg _)) I.le
    · rw [List.map_append, List.pairwise_append]
      refine ⟨I.asc, by simp, fun q hq r hr => ?_⟩
      simp only [List.map_cons, List.map_nil, List.mem_singleton] at hr
      subst hr
      exact Int.lt_of_lt_of_le (I.lt q hq) hb
    · intro q hq
      rw [List.map_append, List.mem_append] at hq
      rcases hq with hq | hq
      · exact Int.lt_trans (I.lt q hq) (by omega)
      · simp only [List.map_cons, List.map_nil, List.mem_singleton] at hq
        omega
    · intro q hq
      rcases List.mem_append.mp hq with hq | hq
      · exact I.pos q hq
      · rw [List.mem_singleton] at hq
        subst hq
        show (0 : Int) < ((pull 20 p st.2).1 : Int)
        omega
theorem FacI.len {n b : Int} {st : NK × Int} (I : FacI n b st) (hn : n ≤ 1000000) : st.1.length < 20 := by
  by_cases c : st.1.length < 20
  · exact c
  · have h1 : 2 ^ 20 ≤ 2 ^ st.1.length := Nat.pow_le_pow_right (by decide) (by omega)
    have h2 : (1 : Int) * ((2 ^ st.1.length : Nat) : Int) ≤ st.2 * ((2 ^ st.1.length : Nat) : Int) := Int.mul_le_mul_of_nonneg_right I.one (Int.natCast_nonneg _)
    have h3 := I.le
    have h4 : (2 : Nat) ^ 20 = 1048576 := rfl
    omega
theorem FacI.canon {n b : Int} {st : NK × Int} (I : FacI n b st) : Canon st.1 := ⟨I.asc, I.pos⟩
theorem normK_same {l : NK} (c : Canon l) : normK l = l := canon_ext (normK_canon l) c fun p => normK_look c.nonneg p
theorem prime_or {v : Int} (h2 : 2 ≤ v) (h : isPB v = false) : ∃ d : Int, 2 ≤ d ∧ d < v ∧ v % d = 0 := by
  by_cases c : ∃ d : Int, 2 ≤ d ∧ d < v ∧ v % d = 0
  · exact c
  · have hv : v * 2 ≤ v * v := Int.mul_le_mul_of_nonneg_left h2 (by omega)
    have := isPB_none (n := v) (d := v) h2 h2 (by omega) fun d hd hdv z => c ⟨d, hd, hdv, z⟩
    rw [this] at h
    cases h
/-- only primes are found -/
theorem fac_same : ∀ (m : Nat) (v : Int) (st : NK × Int), 2 ≤ v → 1 ≤ st.2 → st.2 ≤ 1000000 → (∀ d, 2 ≤ d → d < v → st.2 % d ≠ 0) → (allN m v).foldl step st = (prs m v).foldl step st
  | 0, _, _, _, _, _, _ => rfl
  | m + 1, v, st, hv, h1, hle, hd => by
    obtain ⟨a1, a2, a3, a4, a5⟩ := pull_facts v hv 20 st.2 h1
    have h20 : ((2 ^ 20 : Nat) : Int) = 1048576 := rfl
    rw [allN, List.foldl_cons]
    have hno : ∀ d, 2 ≤ d → d < v + 1 → (step st v).2 % d ≠ 0 := fun d d2 dv => by
      by_cases c : d = v
      · subst c
        exact a5 (by omega)
      · exact a4 d (hd d d2 (by omega))
    have ih := fac_same m (v + 1) (step st v) (by omega) a1 (Int.le_trans a2 hle) hno
    cases hp : isPB v with
    | true => rw [prs_yes hp, List.foldl_cons, ih]
    | false =>
      obtain ⟨d, d2, dv, e⟩ := prime_or hv hp
      have hs : step st v = st := step_no fun z => hd d d2 dv (Int.emod_eq_zero_of_dvd (Int.dvd_trans (Int.dvd_of_emod_eq_zero e) (Int.dvd_of_emod_eq_zero z)))
      rw [prs_no hp, ih, hs]
def facF (m : Nat) (n : Int) : NK × Int := (prs m 2).foldl step ([], n)
theorem facF_eq (m : Nat) (n : Int) : facF m n = (prs m 2).foldl step ([], n) := rfl
@[irreducible] def facN (n : Int) : NK × Int := facF 998 n
theorem facN_eq (n : Int) : facN n = (prs 998 2).foldl step ([], n) := by
  have h : facN n = facF 998 n := by
    delta facN
    exact Eq.refl _
  exact h.trans (facF_eq 998 n)
theorem fac_all {n : Int} (h1 : 1 ≤ n) (h2 : n ≤ 1000000) : (allN 998 2).foldl step ([], n) = facN n := by
  rw [facN_eq]
  exact fac_same 998 2 _ (by decide) h1 h2 fun d a b => by omega
theorem prs_app : ∀ (a b : Nat) (v : Int), prs (a + b) v = prs a v ++ prs b (v + a)
  | 0, b, v => by
    have e : v + ((0 : Nat) : Int) = v := by omega
    rw [Nat.zero_add, e]
    rfl
  | a + 1, b, v => by
    have e : a + 1 + b = (a + b) + 1 := by omega
    have e2 : v + ((a + 1 : Nat) : Int) = v + 1 + (a : Int) := by omega
    rw [e, e2]
    cases hp : isPB v with
    | true => rw [prs_yes hp, prs_yes hp, prs_app a b (v + 1)]; rfl
    | false => rw [prs_no hp, prs_no hp, prs_app a b (v + 1)]
theorem prs_in : ∀ (a : Nat) (v : Int), ∀ p ∈ prs a v, v ≤ p ∧ p < v + a ∧ isPB p = true
  | 0, v, p, h => by simp [prs] at h
  | a + 1, v, p, h => by
    cases hp : isPB v with
    | true =>
      rw [prs_yes hp] at h
      rcases List.mem_cons.mp h with rfl | h
      · exact ⟨Int.le_refl _, by omega, hp⟩
      · obtain ⟨x, y, z⟩ := prs_in a (v + 1) p h
        exact ⟨by omega, by omega, z⟩
    | false =>
      rw [prs_no hp] at h
      obtain ⟨x, y, z⟩ := prs_in a (v + 1) p h
      exact ⟨by omega, by omega, z⟩
theorem prs_asc : ∀ (a : Nat) (v : Int), (prs a v).Pairwise (· < ·)
  | 0, v => .nil
  | a + 1, v => by
    cases hp : isPB v with
    | true =>
      rw [prs_yes hp]
      refine List.pairwise_cons.mpr ⟨fun p h => ?_, prs_asc a (v + 1)⟩
      have := (prs_in a (v + 1) p h).1
      omega
    | false =>
      rw [prs_no hp]
      exact prs_asc a (v + 1)
theorem prs_end : prs 10 1000 = [1009] := by decide +kernel
theorem prs_all : prs 1008 2 = prs 998 2 ++ [1009] := (prs_app 998 10 2).trans (congrArg (prs 998 2 ++ ·) prs_end)
theorem prs_lt : ∀ p ∈ prs 998 2, 2 ≤ p ∧ p < 1000 := fun p h => by
  obtain ⟨x, y, z⟩ := prs_in 998 2 p h
  exact ⟨x, by omega⟩
theorem fold_inv {n : Int} : ∀ (l : List Int) (b : Int) (st : NK × Int), (∀ p ∈ l, b ≤ p ∧ 2 ≤ p) → l.Pairwise (· < ·) → FacI n b st → ∀ (i : Nat) (p : Int), l[i]? = some p → FacI n p ((l.take i).foldl step st)
  | [], _, _, _, _, _, i, p, e => by simp at e
  | q :: l, b, st, h, pw, I, 0, p, e => by
    have e' : q = p := by simpa using e
    subst e'
    exact I.up (h q (by simp)).1
  | q :: l, b, st, h, pw, I, i + 1, p, e => by
    obtain ⟨p1, p2⟩ := List.pairwise_cons.mp pw
    rw [List.take_succ_cons, List.foldl_cons]
    refine fold_inv l (q + 1) (step st q) (fun r hr => ⟨?_, (h r (by simp [hr])).2⟩) p2 (I.step (h q (by simp)).2 (h q (by simp)).1) i p (by simpa using e)
    have := p1 r hr
    omega
/-- the state behind i primes -/
def stN (n : Int) (i : Nat) : NK × Int := ((prs 1008 2).take i).foldl step ([], n)
theorem stN_inv {n : Int} (h1 : 1 ≤ n) {i : Nat} {p : Int} (hp : (prs 1008 2)[i]? = some p) : FacI n p (stN n i) :=
  fold_inv _ 2 _ (fun q hq => ⟨(prs_in 1008 2 q hq).1, (prs_in 1008 2 q hq).1⟩) (prs_asc 1008 2) (FacI.start h1) i p hp
theorem stN_succ {n : Int} {i : Nat} {p : Int} (hp : (prs 1008 2)[i]? = some p) : stN n (i + 1) = step (stN n i) p := by
  unfold stN
  rw [List.take_add_one, hp, List.foldl_append]
  rfl
theorem stN_end (n : Int) : stN n (prs 998 2).length = facN n := by
  unfold stN
  rw [prs_all, List.take_left, facN_eq]
theorem at_last : (prs 1008 2)[(prs 998 2).length]? = some 1009 := by
  rw [prs_all, List.getElem?_append_right (Nat.le_refl _), Nat.sub_self]
  rfl
theorem at_small {i : Nat} {p : Int} (hp : (prs 1008 2)[i]? = some p) (hi : i < (prs 998 2).length) : p < 1000 := by
  rw [prs_all, List.getElem?_append_left hi] at hp
  exact (prs_lt p (List.mem_of_getElem? hp)).2
theorem at_two {i : Nat} {p : Int} (hp : (prs 1008 2)[i]? = some p) : 2 ≤ p := (prs_in 1008 2 p (List.mem_of_getElem? hp)).1
theorem facN_inv {n : Int} (h1 : 1 ≤ n) : FacI n 1009 (facN n) := by
  rw [← stN_end]
  exact stN_inv h1 at_last
theorem stN_one {n : Int} {i : Nat} (h : (stN n i).2 = 1) (hi : i ≤ (prs 998 2).length) : stN n i = facN n := by
  have e : prs 998 2 = (prs 998 2).take i ++ (prs 998 2).drop i := (List.take_append_drop i _).symm
  have e2 : stN n i = ((prs 998 2).take i).foldl step ([], n) := by
    unfold stN
    rw [prs_all, List.take_append_of_le_length hi]
  have e3 : facN n = ((prs 998 2).drop i).foldl step (stN n i) := by
    rw [e2, ← List.foldl_append, ← e, facN_eq]
  rw [e3]
  exact (fold_one (fun p hp => (prs_lt p (List.mem_of_mem_drop hp)).1) h).symm
end NM

set_option Elab.async false
set_option linter.all false
set_option maxRecDepth 100000
set_option maxHeartbeats 8000000
/-! K03C: Number.read -/
namespace K03
open PySem PySem.Spec PyProof.Rows L2 RL NM
theorem b_forget {X : Cx} {Γ : RL.Ctx} {H0 : Bs} {D : Ends} {st : List Stmt} (i : Nat) (h : Bd X (Γ.set i none) st H0 D) : Bd X Γ st H0 D := fun σ H e t => h σ H e (t.drop i)
section
variable {P : Program} {w : World} {K : PySem.W.Frag} {mg : Str → Option Value} {base : Heap}
/-- raise InvalidNumber(e) -/
theorem b_inv (T : Tx fa fn ex K mg) {X : Cx} (hX : X.K = K ∧ X.mg = mg) {Γ : RL.Ctx} {e : Expr} {Tf : RL.Ty} {pos pos2 p : Pos} {B : Bs} {D : Ends} {rest : List Stmt} {W : WX} (tk : Takes X W) (hr : Room 2 X.A) (he : G X Γ e Tf)
    (h : ∀ σ v d H', B.ok H' → B.e d = none → Held H' d "given" "InvalidNumber" v → Tf v H' → W (.ref (He.ga K "InvalidNumber")) (some d) σ H') (hc : X.calm = true := by rfl) (hg : Gl X "InvalidNumber" := by rfl) (hs : starEach [e] X.env = (false, eval e X.env) :: starEach [] X.env := by exact se_cons rfl) :
    Bd X Γ (.Raise (some (.Call (.Name "InvalidNumber" p) [e] [] pos)) none pos2 :: rest) B D := by
  obtain ⟨rfl, rfl⟩ := hX
  obtain ⟨i1, i2⟩ := iniB_ok (ex_parts T).2.2.2.1
  obtain ⟨fd, F⟩ := T.def_ d_InvalidNumber___init__ i_InvalidNumber___init__
  have e0 : d_InvalidNumber___init__.dvs X.K = [] := rfl
  rw [e0] at F
  exact b_raise1 (exc T) i1 i2 (ok_ini T F) hr (F.bindsN fun _ _ _ _ _ _ us hl => match us, hl with | [_, _], _ => rfl) tk (T.glo _ q_glo_InvalidNumber) he h hc hg (by decide) hs
abbrev RdI := { x : Str // x.length ≤ 2000 ∧ (wordsX x).length < 60 }
noncomputable def outR (K : PySem.W.Frag) (x : Str) : Out := match readX x with
  | some l => .ret (numT K l)
  | none => .exc (He.ga K "InvalidNumber") "given" "InvalidNumber" (strT x)
theorem outR_some {x : Str} {l : NK} (h : readX x = some l) : outR K x = .ret (numT K l) := by unfold outR; rw [h]
theorem outR_none {x : Str} (h : readX x = none) : outR K x = .exc (He.ga K "InvalidNumber") "given" "InvalidNumber" (strT x) := by unfold outR; rw [h]
theorem hat1 : TL.tl ("^" : Str) = [94] := by decide +kernel
theorem star1 : TL.tl ("*" : Str) = [42] := by decide +kernel
theorem words_le {x w : Str} (h : w ∈ wordsX x) : w.length ≤ x.length := by
  unfold wordsX at h
  split at h
  · cases h
  · exact split1_le star1 (by decide) h
theorem part_le (w : Str) : (Txt.partition w "^").1.length ≤ w.length ∧ (Txt.partition w "^").2.1.length ≤ 1 ∧ (Txt.partition w "^").2.2.length ≤ w.length := by
  rcases word_cases w "^" hat1 (by decide) with ⟨h, _⟩ | ⟨a, b, hl, h, _⟩
  · rw [h]
    exact ⟨Nat.le_refl _, Nat.zero_le _, Nat.zero_le _⟩
  · rw [h]
    exact ⟨by show a.length ≤ _; omega, Nat.le_refl _, by show b.length ≤ _; omega⟩
theorem sc_read : FnScope ["text", "found", "word", "base", "sign", "power", "prime", "exponent"] ["text"] (defScope s_Number_read) := ⟨rfl, rfl, rfl, by decide +kernel, rfl, by decide +kernel, by decide +kernel⟩
theorem kv_len (l : NK) : (kvN l).length = l.length := by unfold kvN; rw [List.length_map]
theorem kv_ints (l : NK) : ((kvN l).map fun z => valT (kV z.1)) = (l.map (·.1)).map fun p => intT p := by
  unfold kvN
  rw [List.map_map, List.map_map]
  rfl
theorem f_read (T : Tx fa fn ex K mg) (hs : sd_read.ok K = true ∧ fnA K (sd_read.adr K) = sd_read.val) : StG P w K mg base 4 (He.ga K "Number") "read" ["text"] (spO (fun z : RdI => [strT z.1]) fun z => outR K z.1) := by
  obtain ⟨fd, F, S⟩ := StD.get hs.2 hs.1
  have FD : FnG P w K mg base 1 "digits_in" ["text"] _ := f_digits T
  have FK : FnG P w K mg base 2 "is_known_prime" ["value"] _ := f_is_known_prime T
  have FN : FnG P w K mg base 3 "number_of" ["table"] _ := f_number_of T
  refine ⟨_, fd, fn_O (k := 3) F sc_read (fun _ => rfl) fun z cdv Ar outer s H Q E hr nd q tk => ?_, S, F.bindsN fun _ _ _ _ _ _ us hl => match us, hl with | [_], _ => rfl⟩
  obtain ⟨x, hx, hw60⟩ := z
  have hr1 : Room 1 (Ar.deeper (envOfC sd_read.qual sd_read.scope s.heap.objs.size _ cdv)) := hr.mono (by decide)
  have hr2 : Room 2 (Ar.deeper (envOfC sd_read.qual sd_read.scope s.heap.objs.size _ cdv)) := hr.mono (by decide)
  have hu := hu_of hr
  have hlen := T.free _ q_free_len
  have small : ∀ {n : Nat}, n ≤ 10000 → n ≤ sizeLine := fun h => Nat.le_trans h (by decide)
  have raise : readX x = none → ∀ (v : V) (d' : Addr) (H' : Hp), Ex H H' → Held H' d' "given" "InvalidNumber" v → strT x v H' → E (.ref (He.ga K "InvalidNumber")) (some d') H' := fun ho v d' H' ok hh hv => by
    rw [outR_none ho] at q
    exact q d' v H' ok hh hv
  change Bd (OX P w K mg base ["text", "found", "word", "base", "sign", "power", "prime", "exponent"] sd_read.qual sd_read.scope _ cdv Ar outer s H E) [some (strT x), none, none, none, none, none, none, none] _ _ _
  refine b_newD 1 fun aa ha => ?_
  change Bd _ [some (strT x), some (mdT aa (kvN [])), none, none, none, none, none, none] _ _ _
  refine b_for (hp := passes_of rfl) (g := gName 2) (fun i Δ => ∃ (l : NK) (u2 u3 u4 u5 u6 u7 : Option RL.Ty), readX x = ((wordsX x).drop i).foldl rdStep (some l) ∧ RdOk l ∧ l.length ≤ i ∧ Δ = [some (strT x), some (mdT aa (kvN l)), u2, u3, u4, u5, u6, u7]) (Ts := (wordsX x).map fun z => strT z) (gi_list (g_ite (k := decide (x = "1")) (gt_eqS (g_var (T := strT x) 0) g_str) (fun h => ?_) (fun h => ?_))) (pg_name nd rfl (Or.inl rfl)) ⟨[], none, none, none, none, none, none, rfl, RdOk.nil, Nat.zero_le _, rfl⟩ (fun H1 i T1 Δ b1 hT hΔ => ?_) fun Δ hΔ => ?_
  · have e : wordsX x = [] := by unfold wordsX; rw [if_pos (of_decide_eq_true h)]
    rw [e]
    exact g_lst ga_nil
  · have e : wordsX x = Txt.split x "*" := by unfold wordsX; rw [if_neg (of_decide_eq_false h)]
    rw [e]
    exact g_split (g_var (T := strT x) 0) g_str (by decide +kernel) (small (by omega))
  · obtain ⟨l, u2, u3, u4, u5, u6, u7, hrd, hok, hli, rfl⟩ := hΔ
    rw [List.getElem?_map] at hT
    cases hp : (wordsX x)[i]? with
    | none => rw [hp] at hT; cases hT
    | some wd =>
      rw [hp] at hT
      cases hT
      have hil : i < (wordsX x).length := (List.getElem?_eq_some_iff.mp hp).1
      have hwl : wd.length ≤ x.length := words_le (List.mem_of_getElem? hp)
      have hdrop : (wordsX x).drop i = wd :: (wordsX x).drop (i + 1) := by
        rw [List.drop_eq_getElem_cons hil]
        congr 1
        exact (List.getElem?_eq_some_iff.mp hp).2
      rw [hdrop, List.foldl_cons] at hrd
      obtain ⟨p1, p2, p3⟩ := part_le wd
      have hwr : wordR wd = okW (Txt.partition wd "^").1 (Txt.partition wd "^").2.1 (Txt.partition wd "^").2.2 := rfl
      generalize he1 : (Txt.partition wd "^").1 = bs at hwr p1
      generalize he2 : (Txt.partition wd "^").2.1 = sg at hwr p2
      generalize he3 : (Txt.partition wd "^").2.2 = pw at hwr p3
      refine ⟨_, tgt_name, ?_⟩
      refine b_asgT (T := tupT K [strT bs, strT sg, strT pw]) (g := gTup K 3 (gCons (gName 3) (gCons (gName 4) (gCons (gName 5) gNil)))) (pg_tup rfl (pgs_cons (pg_name nd rfl (Or.inl rfl)) (pgs_cons (pg_name nd rfl (Or.inl rfl)) (pgs_cons (pg_name nd rfl (Or.inl rfl)) pgs_nil)))) (G.is (g_part (g_var (T := strT wd) 2) g_str (by decide +kernel) (small (by omega))) (by rw [he1, he2, he3]; rfl)) tgts3 ?_
      change Bd _ [some (strT x), some (mdT aa (kvN l)), some (strT wd), some (strT bs), some (strT sg), some (strT pw), u6, u7] _ _ _
      refine b_asg 6 (T := optT (digO bs)) (g_call FD hr1 ⟨bs, by omega⟩ (ga_cons (g_var (T := strT bs) 3) ga_nil)) ?_
      refine b_asg 7 (T := optT (expO sg pw)) (g_ite (k := decide (sg ≠ "")) (gt_neS (g_var (T := strT sg) 4) g_str) (fun h => ?_) (fun h => ?_)) ?_
      · unfold expO
        rw [if_pos h]
        exact g_call FD hr1 ⟨pw, by omega⟩ (ga_cons (g_var (T := strT pw) 5) ga_nil)
      · unfold expO
        rw [if_neg (by rw [h]; decide)]
        exact g_int
      · change Bd _ [some (strT x), some (mdT aa (kvN l)), some (strT wd), some (strT bs), some (strT sg), some (strT pw), some (optT (digO bs)), some (optT (expO sg pw))] _ _ _
        refine b_if (k := (wordR wd).isNone) ?_ (fun h => ?_) fun h => b_skip ?_
        · rw [hwr]
          unfold okW
          cases hn : digO bs with
          | none => exact GT.is (gt_or4 (k := true) (l := true) (n := true) (r := true) (gt_isNO (g_var (T := optT none) 6)) (fun h => by cases h) (fun h => by cases h) (fun h => by cases h)) rfl
          | some n =>
            cases he : expO sg pw with
            | none => exact GT.is (gt_or4 (k := false) (l := true) (n := true) (r := true) (gt_isNO (g_var (T := optT (some n)) 6)) (fun _ => gt_isNO (g_var (T := optT none) 7)) (fun _ h => by cases h) (fun _ h => by cases h)) rfl
            | some e =>
              refine GT.is (gt_or4 (k := false) (l := false) (n := !knownB n) (r := decide (e < 1 + (sg.length : Int))) (gt_isNO (g_var (T := optT (some n)) 6)) (fun _ => gt_isNO (g_var (T := optT (some e)) 7)) (fun _ _ => gt_not (gt_bl (g_call FK hr2 n (ga_cons (g_var (T := intT n) 6) ga_nil)))) (fun _ _ _ => gt_lt (g_var (T := intT e) 7) (g_add g_int (g_lenS (g_var (T := strT sg) 4) (small (by omega)) hlen)))) ?_
              show (false || false || !knownB n || decide (e < 1 + (sg.length : Int))) = (if (knownB n && !decide (e < 1 + (sg.length : Int))) = true then some (n, e) else none).isNone
              generalize knownB n = b1
              generalize decide (e < 1 + (sg.length : Int)) = b2
              cases b1 <;> cases b2 <;> rfl
        · have hno : readX x = none := by
            rw [hrd, step_bad (by cases hz : wordR wd with | none => rfl | some q => rw [hz] at h; cases h), rd_none]
          exact b_inv T ⟨rfl, rfl⟩ tk hr2 (g_var (T := strT x) 0) fun σ v d' H' ok hd hh hv => raise hno v d' H' ok.1 hh hv
        · obtain ⟨⟨n, e⟩, hq⟩ : ∃ q, wordR wd = some q := by
            cases hz : wordR wd with
            | none => rw [hz] at h; cases h
            | some q => exact ⟨q, rfl⟩
          have hqq := hq
          rw [hwr] at hqq
          obtain ⟨k1, k2, k3, k4⟩ := okW_some hqq
          rw [k1, k2]
          change Bd _ [some (strT x), some (mdT aa (kvN l)), some (strT wd), some (strT bs), some (strT sg), some (strT pw), some (intT n), some (intT e)] _ _ _
          refine b_if (k := lateB l n) (gt_and2 (k := decide ((l.length : Int) > 0)) (l := decide (n ≤ lastP l)) (GT.is (gt_gt (g_lenR (G.rdm (g_var (T := mdT aa (kvN l)) 1)) hlen) g_int) (by rw [kv_len])) fun hk => gt_le (g_var (T := intT n) 6) (g_maxL (ns := l.map (·.1)) (G.is (g_listR (G.rdm (g_var (T := mdT aa (kvN l)) 1)) (T.free _ q_free_list)) (by rw [kv_ints])) (last_in (fun z => by rw [z] at hk; cases hk)) (last_max hok.asc) (T.free _ q_free_max))) (fun hl => ?_) fun hl => b_skip ?_
          · have hno : readX x = none := by rw [hrd, step_late hq hl, rd_none]
            exact b_inv T ⟨rfl, rfl⟩ tk hr2 (g_var (T := strT x) 0) fun σ v d' H' ok hd hh hv => raise hno v d' H' ok.1 hh hv
          · have hok2 := hok.snoc hqq hl
            have hnew : n ∉ l.map (·.1) := fun z => by
              have h1 := hok2.asc
              rw [List.map_append] at h1
              have := (List.pairwise_append.mp h1).2.2 n z n (by simp)
              omega
            refine b_dput 1 (kk := Sum.inl n) (v := .int e) (by exact rfl) (by exact g_var (T := intT n) 6) (by exact g_var (T := intT e) 7) (by exact ha) (by rw [kv_len]; exact Nat.lt_of_le_of_lt (Nat.le_trans hli (Nat.le_of_lt (Nat.lt_trans hil hw60))) (by decide)) (by repeat (first | exact stbC_nil | refine stbC_none ?_ | refine stbC_some inferInstance ?_)) (by exact hu) ?_
            rw [put_kvN (q := (n, e)) hnew]
            refine turn_nx ?_
            rw [step_good hq hl] at hrd
            refine ⟨l ++ [(n, e)], _, _, _, _, _, _, hrd, hok2, ?_, rfl⟩
            rw [List.length_append]
            simp only [List.length_cons, List.length_nil]
            omega
  · obtain ⟨l, u2, u3, u4, u5, u6, u7, hrd, hok, hli, rfl⟩ := hΔ
    rw [List.length_map, List.drop_length] at hrd
    have hyes : readX x = some l := hrd
    rw [outR_some hyes] at q
    rw [List.length_map] at hli
    refine b_forget 2 (b_forget 3 (b_forget 4 (b_forget 5 (b_forget 6 (b_forget 7 ?_)))))
    change Bd _ [some (strT x), some (mdT aa (kvN l)), none, none, none, none, none, none] _ _ _
    refine b_frzD 1 rfl (by exact ha) (by repeat (first | exact stbC_nil | refine stbC_none ?_ | refine stbC_some inferInstance ?_)) ?_
    exact b_ret (T := numT K l) ((g_call FN hr ⟨l, hok.canon.nodup, by omega⟩ (ga_cons (g_var (T := dicT (kvN l)) 1) ga_nil)).is (by rw [normK_same hok.canon])) fun v H' ok hv => q v H' ok.1 hv
end
end K03

set_option Elab.async false
set_option linter.all false
set_option maxRecDepth 100000
set_option maxHeartbeats 1000000
namespace K03
open PySem PySem.Spec PyProof.Rows L2 RL StX
section
variable {P : Program} {w : World} {K : PySem.W.Frag} {mg : Str → Option Value} {base : Heap}
theorem sc_alike : FnScope ["_law_found", "_law_due", "_law_one", "_law_two"] ["_law_found", "_law_due"] (defScope s__law_alike) := ⟨rfl, rfl, rfl, by decide +kernel, rfl, by decide +kernel, by decide +kernel⟩
abbrev DatAt (d : Nat) := { x : Dat // DatOk d x }
theorem f_alike (T : Tx fa fn ex K mg) : ∀ d : Nat, FnG P w K mg base (d + 1) "_law_alike" ["_law_found", "_law_due"] (spG (fun x : DatAt d => [datT K x.1, datT K x.1]) fun _ => blT true) := by
  intro d
  induction d using Nat.strongRecOn with
  | ind d ih =>
  refine T.fn d__law_alike i__law_alike "_law_alike" rfl q_glo__law_alike rfl (fun _ _ _ _ _ _ us hl => match us, hl with | [_, _], _ => rfl) fun f fd F => ?_
  refine fn_G F sc_alike (fun _ => rfl) fun x cdv Ar outer s H E hr nd D hD _ => ?_
  obtain ⟨x, hx⟩ := x
  have hi := T.free _ q_free_isinstance
  have hint := T.free _ q_free_int
  have hbool := T.free _ q_free_bool
  have hstr := T.free _ q_free_str
  have htup := T.free _ q_free_tuple
  have hlst := T.free _ q_free_list
  have hlen := T.free _ q_free_len
  cases hx with
  | @str _ y =>
    change Bd (BX P w K mg base ["_law_found", "_law_due", "_law_one", "_law_two"] d__law_alike.qual d__law_alike.scope f cdv Ar outer s H E) [some (datT K (.str y)), some (datT K (.str y)), none, none] _ _ _
    rw [datT_str]
    refine b_if (gt_or2 (gt_isN0 (g_var 1) str_non) fun _ => gt_isN0 (g_var 0) str_non) (fun h => by cases h) fun _ => ?_
    refine b_skip ?_
    refine b_if (gt_or2 (gt_bl (g_isi (v := .str y) (n := "str") (n' := "bool") (r := false) (g_var 1) ty_str hi hbool (by decide +kernel) (by decide +kernel))) fun _ => gt_bl (g_isi (v := .str y) (n := "str") (n' := "bool") (r := false) (g_var 0) ty_str hi hbool (by decide +kernel) (by decide +kernel))) (fun h => by cases h) fun _ => ?_
    refine b_skip ?_
    refine b_if (gt_bl (g_isi2 (n := "str") (n1 := "int") (n2 := "str") (r1 := false) (r2 := true) (g_var 1) ty_str hi hint hstr (by decide +kernel) (by decide +kernel) (by decide +kernel) (by decide +kernel))) (fun _ => ?_) fun h => by cases h
    refine b_ret (T := blT true) ((g_and3 (k := true) (l := true) (n := true) (g_isi2 (n := "str") (n1 := "int") (n2 := "str") (r1 := false) (r2 := true) (g_var 0) ty_str hi hint hstr (by decide +kernel) (by decide +kernel) (by decide +kernel) (by decide +kernel)) (fun _ => (g_eqB (g_isi (v := .str y) (n := "str") (n' := "int") (r := false) (g_var 0) ty_str hi hint (by decide +kernel) (by decide +kernel)) (g_isi (v := .str y) (n := "str") (n' := "int") (r := false) (g_var 1) ty_str hi hint (by decide +kernel) (by decide +kernel)))) fun _ _ => (g_eqS (g_var 0) (g_var 1)).is (by simp))) hD
  | @int _ y =>
    change Bd (BX P w K mg base ["_law_found", "_law_due", "_law_one", "_law_two"] d__law_alike.qual d__law_alike.scope f cdv Ar outer s H E) [some (datT K (.int y)), some (datT K (.int y)), none, none] _ _ _
    rw [datT_int]
    refine b_if (gt_or2 (gt_isN0 (g_var 1) int_non) fun _ => gt_isN0 (g_var 0) int_non) (fun h => by cases h) fun _ => ?_
    refine b_skip ?_
    refine b_if (gt_or2 (gt_bl (g_isi (v := .int y) (n := "int") (n' := "bool") (r := false) (g_var 1) ty_int hi hbool (by decide +kernel) (by decide +kernel))) fun _ => gt_bl (g_isi (v := .int y) (n := "int") (n' := "bool") (r := false) (g_var 0) ty_int hi hbool (by decide +kernel) (by decide +kernel))) (fun h => by cases h) fun _ => ?_
    refine b_skip ?_
    refine b_if (gt_bl (g_isi2 (n := "int") (n1 := "int") (n2 := "str") (r1 := true) (r2 := false) (g_var 1) ty_int hi hint hstr (by decide +kernel) (by decide +kernel) (by decide +kernel) (by decide +kernel))) (fun _ => ?_) fun h => by cases h
    refine b_ret (T := blT true) ((g_and3 (k := true) (l := true) (n := true) (g_isi2 (n := "int") (n1 := "int") (n2 := "str") (r1 := true) (r2 := false) (g_var 0) ty_int hi hint hstr (by decide +kernel) (by decide +kernel) (by decide +kernel) (by decide +kernel)) (fun _ => (g_eqB (g_isi (v := .int y) (n := "int") (n' := "int") (r := true) (g_var 0) ty_int hi hint (by decide +kernel) (by decide +kernel)) (g_isi (v := .int y) (n := "int") (n' := "int") (r := true) (g_var 1) ty_int hi hint (by decide +kernel) (by decide +kernel)))) fun _ _ => (g_eqI (g_var 0) (g_var 1)).is (by simp))) hD
  | @non _ =>
    change Bd (BX P w K mg base ["_law_found", "_law_due", "_law_one", "_law_two"] d__law_alike.qual d__law_alike.scope f cdv Ar outer s H E) [some (datT K .non), some (datT K .non), none, none] _ _ _
    rw [datT_non]
    refine b_if (gt_or2 (k := true) (l := true) (gt_isN1 (g_var 1)) fun h => by cases h) (fun _ => ?_) fun h => by cases h
    refine b_ret (T := blT true) (g_and2 (k := true) (l := true) (g_isN1 (g_var 1)) fun _ => g_isN1 (g_var 0)) hD
  | @bl _ y =>
    change Bd (BX P w K mg base ["_law_found", "_law_due", "_law_one", "_law_two"] d__law_alike.qual d__law_alike.scope f cdv Ar outer s H E) [some (datT K (.bl y)), some (datT K (.bl y)), none, none] _ _ _
    rw [datT_bl]
    refine b_if (gt_or2 (gt_isN0 (g_var 1) bl_non) fun _ => gt_isN0 (g_var 0) bl_non) (fun h => by cases h) fun _ => ?_
    refine b_skip ?_
    refine b_if (gt_or2 (k := true) (l := true) (gt_bl (g_isi (v := .bl y) (n := "bool") (n' := "bool") (r := true) (g_var 1) ty_bl hi hbool (by decide +kernel) (by decide +kernel))) fun h => by cases h) (fun _ => ?_) fun h => by cases h
    refine b_ret (T := blT true) (g_and3 (k := true) (l := true) (n := true) (g_isi (v := .bl y) (n := "bool") (n' := "bool") (r := true) (g_var 1) ty_bl hi hbool (by decide +kernel) (by decide +kernel)) (fun _ => (g_isi (v := .bl y) (n := "bool") (n' := "bool") (r := true) (g_var 0) ty_bl hi hbool (by decide +kernel) (by decide +kernel))) fun _ _ => (g_eqB (g_var 0) (g_var 1)).is (by simp)) hD
  | @lst d' l hl hA =>
    have FS : FnG P w K mg base (d' + 1) "_law_alike" ["_law_found", "_law_due"] _ := ih d' (Nat.lt_succ_self _)
    change Bd (BX P w K mg base ["_law_found", "_law_due", "_law_one", "_law_two"] d__law_alike.qual d__law_alike.scope f cdv Ar outer s H E) [some (datT K (.lst l)), some (datT K (.lst l)), none, none] _ _ _
    rw [datT_lst]
    refine b_if (gt_or2 (gt_isN0 (g_var 1) lst_non) fun _ => gt_isN0 (g_var 0) lst_non) (fun h => by cases h) fun _ => ?_
    refine b_skip ?_
    refine b_if (gt_or2 (gt_bl (g_isi (v := .non) (n := "list") (n' := "bool") (r := false) (g_var 1) ty_lst hi hbool (by decide +kernel) (by decide +kernel))) fun _ => gt_bl (g_isi (v := .non) (n := "list") (n' := "bool") (r := false) (g_var 0) ty_lst hi hbool (by decide +kernel) (by decide +kernel))) (fun h => by cases h) fun _ => ?_
    refine b_skip ?_
    refine b_if (gt_bl (g_isi2 (n := "list") (n1 := "int") (n2 := "str") (r1 := false) (r2 := false) (g_var 1) ty_lst hi hint hstr (by decide +kernel) (by decide +kernel) (by decide +kernel) (by decide +kernel))) (fun h => by cases h) fun _ => ?_
    refine b_skip ?_
    refine b_if (gt_or2 (gt_neB (i := false) (j := false) rfl (g_isi (v := .non) (n := "list") (n' := "tuple") (r := false) (g_var 1) ty_lst hi htup (by decide +kernel) (by decide +kernel)) (g_isi (v := .non) (n := "list") (n' := "tuple") (r := false) (g_var 0) ty_lst hi htup (by decide +kernel) (by decide +kernel))) fun _ => gt_neB (i := true) (j := true) rfl (g_isi (v := .non) (n := "list") (n' := "list") (r := true) (g_var 1) ty_lst hi hlst (by decide +kernel) (by decide +kernel)) (g_isi (v := .non) (n := "list") (n' := "list") (r := true) (g_var 0) ty_lst hi hlst (by decide +kernel) (by decide +kernel))) (fun h => by cases h) fun _ => ?_
    refine b_skip ?_
    refine b_ret (T := blT true) ((g_and2 (k := true) (l := true) ((g_eqI (g_lenL (g_var 0) hlen) (g_lenL (g_var 1) hlen)).is (by simp)) fun _ => (RL.g_all (bs := l.map fun _ => true) (g_lc2 (j := 2) (k := 3) l (datT K) (datT K) (fun _ => blT true) (GI.is (gi_zipL (Ts := l.map (datT K)) (Us := l.map (datT K)) (g_var 0) (g_var 1) rfl (T.free _ q_free_zip)) zip_self) (Nat.le_trans hl (by decide)) (fun z hz s' H C cl fp => g_call FS hr ⟨z, hA z hz⟩ (ga_cons (g_var 2) (ga_cons (g_var 3) ga_nil))) (hR := by rw [List.map_map]; rfl)) (T.free _ q_free_all)).is ?_)) hD
    have : (l.map fun _ => true).all id = true := by simp
    rw [this]
  | @tup d' l hl hA =>
    have FS : FnG P w K mg base (d' + 1) "_law_alike" ["_law_found", "_law_due"] _ := ih d' (Nat.lt_succ_self _)
    change Bd (BX P w K mg base ["_law_found", "_law_due", "_law_one", "_law_two"] d__law_alike.qual d__law_alike.scope f cdv Ar outer s H E) [some (datT K (.tup l)), some (datT K (.tup l)), none, none] _ _ _
    rw [datT_tup]
    refine b_if (gt_or2 (gt_isN0 (g_var 1) tup_non) fun _ => gt_isN0 (g_var 0) tup_non) (fun h => by cases h) fun _ => ?_
    refine b_skip ?_
    refine b_if (gt_or2 (gt_bl (g_isi (v := .non) (n := "tuple") (n' := "bool") (r := false) (g_var 1) ty_tup hi hbool (by decide +kernel) (by decide +kernel))) fun _ => gt_bl (g_isi (v := .non) (n := "tuple") (n' := "bool") (r := false) (g_var 0) ty_tup hi hbool (by decide +kernel) (by decide +kernel))) (fun h => by cases h) fun _ => ?_
    refine b_skip ?_
    refine b_if (gt_bl (g_isi2 (n := "tuple") (n1 := "int") (n2 := "str") (r1 := false) (r2 := false) (g_var 1) ty_tup hi hint hstr (by decide +kernel) (by decide +kernel) (by decide +kernel) (by decide +kernel))) (fun h => by cases h) fun _ => ?_
    refine b_skip ?_
    refine b_if (gt_or2 (gt_neB (i := true) (j := true) rfl (g_isi (v := .non) (n := "tuple") (n' := "tuple") (r := true) (g_var 1) ty_tup hi htup (by decide +kernel) (by decide +kernel)) (g_isi (v := .non) (n := "tuple") (n' := "tuple") (r := true) (g_var 0) ty_tup hi htup (by decide +kernel) (by decide +kernel))) fun _ => gt_neB (i := false) (j := false) rfl (g_isi (v := .non) (n := "tuple") (n' := "list") (r := false) (g_var 1) ty_tup hi hlst (by decide +kernel) (by decide +kernel)) (g_isi (v := .non) (n := "tuple") (n' := "list") (r := false) (g_var 0) ty_tup hi hlst (by decide +kernel) (by decide +kernel))) (fun h => by cases h) fun _ => ?_
    refine b_skip ?_
    refine b_ret (T := blT true) ((g_and2 (k := true) (l := true) ((g_eqI (g_lenT (g_var 0) hlen) (g_lenT (g_var 1) hlen)).is (by simp)) fun _ => (RL.g_all (bs := l.map fun _ => true) (g_lc2 (j := 2) (k := 3) l (datT K) (datT K) (fun _ => blT true) (GI.is (gi_zipT (Ts := l.map (datT K)) (Us := l.map (datT K)) (g_var 0) (g_var 1) rfl (T.free _ q_free_zip)) zip_self) (Nat.le_trans hl (by decide)) (fun z hz s' H C cl fp => g_call FS hr ⟨z, hA z hz⟩ (ga_cons (g_var 2) (ga_cons (g_var 3) ga_nil))) (hR := by rw [List.map_map]; rfl)) (T.free _ q_free_all)).is ?_)) hD
    have : (l.map fun _ => true).all id = true := by simp
    rw [this]
end
end K03

set_option Elab.async false
set_option linter.all false
set_option maxRecDepth 100000
set_option maxHeartbeats 8000000
namespace NM
def keptB (v : Int) : List Bool := (List.range 30).filterMap fun (i : Nat) => if (2 : Int) + (i : Int) < v then some (decide (0 < v % (2 + (i : Int)))) else none
theorem kept_spec {v : Int} : (keptB v).all id = true ↔ ∀ c : Int, 2 ≤ c → c < 32 → c < v → v % c ≠ 0 := by
  unfold keptB
  rw [List.all_eq_true]
  constructor
  · intro h c c2 c32 cv e
    have hm : (decide (0 < v % (2 + ((c.toNat - 2 : Nat) : Int)))) ∈ (List.range 30).filterMap fun (i : Nat) => if (2 : Int) + (i : Int) < v then some (decide (0 < v % (2 + (i : Int)))) else none := by
      refine List.mem_filterMap.mpr ⟨c.toNat - 2, List.mem_range.mpr (by omega), ?_⟩
      rw [if_pos (by omega)]
    have z := h _ hm
    have ec : (2 : Int) + ((c.toNat - 2 : Nat) : Int) = c := by omega
    rw [ec, e] at z
    simp at z
  · intro h b hb
    obtain ⟨i, hi, e⟩ := List.mem_filterMap.mp hb
    have hi' := List.mem_range.mp hi
    split at e
    · rename_i hlt
      have z := h (2 + (i : Int)) (by omega) (by omega) hlt
      have z2 := Int.emod_nonneg v (show (2 : Int) + (i : Int) ≠ 0 by omega)
      have e2 := Option.some.inj e
      rw [← e2]
      show decide _ = true
      exact decide_eq_true (by omega)
    · cases e
theorem kept_isPB {v : Int} (h2 : 2 ≤ v) (h : v < 1000) : (keptB v).all id = isPB v := by
  cases hk : (keptB v).all id with
  | true =>
    have z := kept_spec.mp hk
    by_cases c : v < 32
    · have hv : v * 2 ≤ v * v := Int.mul_le_mul_of_nonneg_left h2 (by omega)
      exact (isPB_none h2 h2 (by omega) fun d a b => z d a (by omega) b).symm
    · exact (isPB_none (d := 32) h2 (by decide) (by omega) fun d a b => z d a b (by omega)).symm
  | false =>
    have : ∃ c : Int, 2 ≤ c ∧ c < v ∧ v % c = 0 := by
      by_cases c : ∃ c : Int, 2 ≤ c ∧ c < v ∧ v % c = 0
      · exact c
      · have : (keptB v).all id = true := kept_spec.mpr fun d a _ b e => c ⟨d, a, b, e⟩
        rw [this] at hk
        cases hk
    obtain ⟨c, c2, cv, e⟩ := this
    by_cases q : c * c ≤ v
    · exact (isPB_hit c2 q e).symm
    · have e1 : c * (v / c) = v := Int.mul_ediv_cancel' (Int.dvd_of_emod_eq_zero e)
      generalize hd : v / c = d at e1
      have d2 : 2 ≤ d := by
        by_cases k : 2 ≤ d
        · exact k
        · have : c * d ≤ c * 1 := Int.mul_le_mul_of_nonneg_left (by omega) (by omega)
          omega
      have dc : d < c := by
        by_cases k : d < c
        · exact k
        · have : c * c ≤ c * d := Int.mul_le_mul_of_nonneg_left (by omega) (by omega)
          omega
      have dd : d * d ≤ v := by
        have : d * d ≤ c * d := Int.mul_le_mul_of_nonneg_right (by omega) (by omega)
        omega
      exact (isPB_hit d2 dd (by rw [← e1]; exact Int.mul_emod_left _ _)).symm
end NM
namespace RL
open PySem PySem.Spec PyProof.Rows L2
/-- i < j < k, as a value -/
theorem g_lt2 {X : Cx} {Γ : Ctx} {a b c : Expr} {pos : Pos} {i j k : Int} (ha : G X Γ a (intT i)) (hb : G X Γ b (intT j)) (hc : G X Γ c (intT k)) (hm : lastMarks [.Lt, .Lt] [b, c] = false := by with_unfolding_all rfl) : G X Γ (.Compare a [.Lt, .Lt] [b, c] pos) (blT (decide (i < j) && decide (j < k))) := fun σ H t Q q =>
  toE (pe_chain op_lt op_lt (pe a) (pe b) (pe c) hm) (ha σ H t _ fun v H1 e1 h1 => hb σ H1 (t.up e1) _ fun u H2 e2 h2 => ⟨i, j, h1, h2, decide (i < j), rfl, by
    cases hd : decide (i < j) with
    | false =>
      have z := q (.bl false) H2 (e1.trans e2)
      rw [hd, Bool.false_and] at z
      exact iteF (z rfl)
    | true => exact iteT (hc σ H2 (t.up (e1.trans e2)) _ fun w H3 e3 h3 => ⟨j, k, h2, h3, by
        have z := q (.bl (decide (j < k))) H3 (e1.trans (e2.trans e3))
        rw [hd, Bool.true_and] at z
        exact z rfl⟩)⟩)
end RL
namespace K03
open PySem PySem.Spec PyProof.Rows L2 RL NM
section
variable {P : Program} {w : World} {K : PySem.W.Frag} {mg : Str → Option Value} {base : Heap}
theorem sc_lint : FnScope ["_law_value"] ["_law_value"] (defScope s__law_is_int) := ⟨rfl, rfl, rfl, by decide +kernel, rfl, by decide +kernel, by decide +kernel⟩
theorem f_lint (T : Tx fa fn ex K mg) : FnG P w K mg base 1 "_law_is_int" ["_law_value"] (spG (fun i : Int => [intT i]) fun _ => blT true) := by
  refine T.fn d__law_is_int i__law_is_int "_law_is_int" rfl q_glo__law_is_int rfl (fun _ _ _ _ _ _ us hl => match us, hl with | [_], _ => rfl) fun f fd F => ?_
  refine fn_G F sc_lint (fun _ => rfl) fun i cdv Ar outer s H E hr nd D hD _ => ?_
  refine b_ret (g_and2 (k := true) (l := true) (g_isi (v := .int i) (n := "int") (g_var 0) (fun v H h => by have h' : v = .int i := h; subst h'; exact .base (.int i)) (T.free _ q_free_isinstance) (T.free _ q_free_int) (n' := "int") (by decide +kernel) (by decide +kernel))
    fun _ => (g_not (g_isi (v := .int i) (n := "int") (r := false) (g_var 0) (fun v H h => by have h' : v = .int i := h; subst h'; exact .base (.int i)) (T.free _ q_free_isinstance) (T.free _ q_free_bool) (n' := "bool") (by decide +kernel) (by decide +kernel)))) hD
theorem known_all (v : Int) : (true && (decide (1 < v) && decide (v < 1000)) && (keptB v).all id) = knownB v := by
  unfold knownB
  by_cases h1 : 1 < v
  · by_cases h2 : v < 1000
    · rw [kept_isPB (by omega) h2, decide_eq_true h1, decide_eq_true h2]
      rfl
    · rw [decide_eq_false h2, Bool.and_false, Bool.and_false, Bool.false_and, Bool.false_and]
  · have e : isPB v = false := by
      cases h : isPB v with
      | false => rfl
      | true => exact absurd (isPB_two h) (by omega)
    rw [decide_eq_false h1, e, Bool.and_false, Bool.false_and, Bool.and_false, Bool.false_and]
theorem sc_lpr : FnScope ["_law_value", "_law_low"] ["_law_value"] (defScope s__law_is_prime) := ⟨rfl, rfl, rfl, by decide +kernel, rfl, by decide +kernel, by decide +kernel⟩
theorem f_lpr (T : Tx fa fn ex K mg) : FnG P w K mg base 2 "_law_is_prime" ["_law_value"] (spG (fun v : Int => [intT v]) fun v => blT (knownB v)) := by
  have F1 : FnG P w K mg base 1 "_law_is_int" ["_law_value"] _ := f_lint T
  refine T.fn d__law_is_prime i__law_is_prime "_law_is_prime" rfl q_glo__law_is_prime rfl (fun _ _ _ _ _ _ us hl => match us, hl with | [_], _ => rfl) fun f fd F => ?_
  refine fn_G F sc_lpr (fun _ => rfl) fun v cdv Ar outer s H E hr nd D hD _ => ?_
  have hint := T.free _ q_free_int
  refine b_ret ((g_and3 (k := true) (l := decide (1 < v) && decide (v < 1000)) (n := (keptB v).all id) (g_call F1 hr v (ga_cons (g_var (T := intT v) 0) ga_nil)) (fun _ => g_lt2 g_int (g_var (T := intT v) 0) g_int) fun _ _ => ?_).is (congrArg (fun b => blT b) (known_all v))) hD
  refine g_all ?_ (T.free _ q_free_all)
  refine g_lc (Ts := rngT 2 30) (own := [("_law_low", 1)]) (g := gName 1) ((List.range 30).map fun (i : Nat) => if (2 : Int) + (i : Int) < v then some (blT (decide (0 < v % (2 + (i : Int))))) else none) ?_ ?_ ?_ ?_ ?_ ?_ ?_ own_name ?_
  · exact gi_rng2 (lo := 2) (n := 32) g_int g_int (T.free _ q_free_range) (by decide)
  · exact blkOk_by rfl
  · exact fun _ _ _ _ _ => pg_name (i := 1) nd rfl (Or.inl rfl)
  · rw [rngT_len, List.length_map, List.length_range]
  · rw [rngT_len]
    decide
  · intro i Ty hT
    have hi : i < 30 := by
      by_cases c : i < 30
      · exact c
      · rw [List.getElem?_eq_none (by rw [rngT_len]; omega)] at hT
        cases hT
    rw [rngT_get hi] at hT
    cases hT
    refine ⟨_, tgt_name, ?_⟩
    by_cases c : (2 : Int) + (i : Int) < v
    · refine .inr ⟨blT (decide (0 < v % (2 + (i : Int)))), by rw [List.getElem?_map, List.getElem?_range hi]; simp [c], gct_one fun s H C cl fp => ?_, fun s H C cl fp => ?_⟩
      · exact (gt_lt (g_var (T := intT (2 + (i : Int))) 1) (g_var (T := intT v) 0)).is (by simpa using c)
      · exact g_gt (g_mod (g_intI (g_var (T := intT v) 0) hint) (g_var (T := intT (2 + (i : Int))) 1) (by omega)) g_int
    · refine .inl ⟨by rw [List.getElem?_map, List.getElem?_range hi]; simp [c], gct_one fun s H C cl fp => ?_⟩
      exact (gt_lt (g_var (T := intT (2 + (i : Int))) 1) (g_var (T := intT v) 0)).is (by simpa using c)
  · intro R hR
    obtain ⟨i, _, e⟩ := List.mem_map.mp hR
    split at e
    · cases e
      infer_instance
    · cases e
  · have e : ((List.range 30).map fun (i : Nat) => if (2 : Int) + (i : Int) < v then some (blT (decide (0 < v % (2 + (i : Int))))) else none) = (List.range 30).map fun (i : Nat) => (if (2 : Int) + (i : Int) < v then some (decide (0 < v % (2 + (i : Int)))) else none : Option Bool).map fun k => blT k :=
      List.map_congr_left fun i _ => by split <;> rfl
    have e2 : keptT ((List.range 30).map fun (i : Nat) => if (2 : Int) + (i : Int) < v then some (blT (decide (0 < v % (2 + (i : Int))))) else none) = (keptB v).map fun k => blT k := by
      rw [e]
      unfold keptT keptB
      rw [List.filterMap_map, List.map_filterMap]
      rfl
    rw [e2]
end
end K03

set_option Elab.async false
set_option linter.all false
set_option maxRecDepth 100000
set_option maxHeartbeats 8000000
/-! K03Q: _law_number_in -/
namespace RL
open PySem PySem.Spec PyProof.Rows L2
section
variable {X : Cx} {Γ : Ctx} {a b : Expr} {T U : Ty} {pos : Pos}
/-- x in l, data -/
theorem gt_inDD {d : PyData} {ds : List PyData} (hu : X.A.units + 65 < cLine) (ha : G X Γ a T) (hb : G X Γ b U) (h1 : IsDp X.K T d) (h2 : IsDp X.K U (.list ds)) (s1 : SeqAt.shaped d = true) (s2 : SeqAt.shaped (.list ds) = true) (hm : behindInMarks .In b = false := by rfl) : GT X Γ (.Compare a [.In] [b] pos) (ds.any fun z => PyData.eqv z d) :=
  gt_cmp (op_inD hu) ha hb (fun v w H hv hw Q q => ⟨d, ds, h1 v H hv, h2 w H hw, s1, s2, q _ H (Ex.refl H) rfl⟩) hm
theorem dp_rl {K : PySem.W.Frag} {Ts : List Ty} {ds : List PyData} (h : AreDp K Ts ds) : IsDp K (rlT K Ts) (.list ds) := fun v H ⟨a, vs, ev, hl, h2⟩ => by
  subst ev
  exact .lst hl (h.all h2)
end
end RL
namespace K03
open PySem PySem.Spec PyProof.Rows L2 RL NM
theorem dig_nonneg {x : Str} {n : Int} (h : digO x = some n) : 0 ≤ n := by
  unfold digO at h
  split at h
  · split at h
    · cases h
    · cases h; exact Int.natCast_nonneg _
  · cases h
theorem dig_hat {x : Str} (h : 94 ∈ TL.tl x) : digO x = none := by
  unfold digO
  rw [if_neg]
  intro z
  unfold dgB at z
  rw [Bool.and_eq_true, List.all_eq_true] at z
  have h2 := of_decide_eq_true (z.2 94 h)
  exact absurd h2 (by decide +kernel)
theorem okW_none1 {b sg pw : Str} (h : digO b = none) : okW b sg pw = none := by unfold okW; rw [h]
theorem okW_none2 {b sg pw : Str} (h : expO sg pw = none) : okW b sg pw = none := by
  unfold okW
  rw [h]
  cases digO b <;> rfl
theorem exp0 {pw : Str} : expO Str.empty pw = some 1 := by
  unfold expO
  rw [if_neg (by decide +kernel)]
theorem exp1 {pw : Str} : expO "^" pw = digO pw := by
  unfold expO
  rw [if_pos (by decide +kernel)]
def smallB (e : Int) : Bool := decide (e = 0) || decide (e = 1)
theorem num_cases (w : Str) : ((((Txt.split w "^").length : Int) > 2 ∨ ((Txt.split w "^").map digO).any Option.isNone = true) ∧ wordR w = none) ∨
    (∃ n, (Txt.split w "^").length = 1 ∧ (Txt.split w "^").map digO = [some n] ∧ wordR w = if knownB n = true then some (n, 1) else none) ∨
    (∃ n e, (Txt.split w "^").length = 2 ∧ (Txt.split w "^").map digO = [some n, some e] ∧ wordR w = if (knownB n && !smallB e) = true then some (n, e) else none) := by
  have hw : wordR w = okW (Txt.partition w "^").1 (Txt.partition w "^").2.1 (Txt.partition w "^").2.2 := rfl
  rcases word_cases w "^" hat1 (by decide) with ⟨h1, h2⟩ | ⟨a, b, hl, h1, h2, h3⟩
  · rw [h1] at hw
    rw [h2, hw]
    cases hd : digO w with
    | none => exact .inl ⟨.inr (by simp [hd]), okW_none1 hd⟩
    | some n =>
      refine .inr (.inl ⟨n, rfl, by simp [hd], ?_⟩)
      show okW w Str.empty Str.empty = _
      unfold okW
      rw [hd, exp0]
      show (if (knownB n && !decide ((1 : Int) < 1 + ((Str.empty : Str).length : Int))) = true then some (n, (1 : Int)) else none) = _
      rw [show (!decide ((1 : Int) < 1 + ((Str.empty : Str).length : Int))) = true from by decide +kernel, Bool.and_true]
  · rw [h1] at hw
    rw [h2, hw]
    rcases h3 with h3 | h3
    · rw [h3]
      cases hd : digO a with
      | none => exact .inl ⟨.inr (by simp [hd]), okW_none1 hd⟩
      | some n =>
        cases he : digO b with
        | none => exact .inl ⟨.inr (by simp [he]), okW_none2 (by rw [exp1]; exact he)⟩
        | some e =>
          refine .inr (.inr ⟨n, e, rfl, by simp [hd, he], ?_⟩)
          show okW a "^" b = _
          unfold okW
          rw [hd, exp1, he]
          show (if (knownB n && !decide (e < 1 + ((("^" : Str).length : Nat) : Int))) = true then some (n, e) else none) = _
          have h0 := dig_nonneg he
          have hs : decide (e < 1 + ((("^" : Str).length : Nat) : Int)) = smallB e := by
            have e1 : ((("^" : Str).length : Nat) : Int) = 1 := by decide +kernel
            rw [e1]
            unfold smallB
            rw [Bool.eq_iff_iff, Bool.or_eq_true, decide_eq_true_eq, decide_eq_true_eq, decide_eq_true_eq]
            omega
          rw [hs]
    · have hb := dig_hat h3
      refine .inl ⟨.inl ?_, okW_none2 (by rw [exp1]; exact hb)⟩
      have := split1_len (x := b) hat1 (by decide)
      have := List.count_pos_iff.mpr h3
      rw [List.length_cons]
      omega
end K03

set_option Elab.async false
set_option linter.all false
set_option maxRecDepth 100000
set_option maxHeartbeats 8000000
/-! K03Q2: _law_number_in, walked -/
namespace K03
open PySem PySem.Spec PyProof.Rows L2 RL NM
section
variable {P : Program} {w : World} {K : PySem.W.Frag} {mg : Str → Option Value} {base : Heap}
def resT (K : PySem.W.Frag) : Option NK → RL.Ty
  | none => nonT
  | some l => prT K l
abbrev tp (K : PySem.W.Frag) (q : Int × Int) : RL.Ty := tupT K [intT q.1, intT q.2]
theorem dK_rl (l : NK) : IsDp K (rlT K (l.map (tp K))) (dK l) := dp_rl (areDp_map l fun q _ => dp_tup (.cons dp_int (.cons dp_int .nil)))
theorem zero_one_dp : IsDp K (lstT [lstT [intT 0], lstT [intT 1]]) (.list [.list [.int 0], .list [.int 1]]) := dp_lst (.cons (dp_lst (.cons dp_int .nil)) (.cons (dp_lst (.cons dp_int .nil)) .nil))
theorem eqv_nil (l : NK) {b' : Bool} : (!PyData.eqv (dK l) (.list []) && b') = (decide ((l.length : Int) > 0) && b') := by
  have e : PyData.eqv (dK l) (.list []) = decide (l = []) := by
    have z := dK_eq l []
    unfold dK
    rw [PyData.eqv]
    exact z
  rw [e]
  cases l with
  | nil => rfl
  | cons q r => 
    have h1 : decide ((q :: r : NK) = []) = false := decide_eq_false (by simp)
    have h2 : decide ((((q :: r : NK).length : Nat) : Int) > 0) = true := decide_eq_true (by rw [List.length_cons]; omega)
    rw [h1, h2]
    rfl
def lastE (l : NK) : Int := (l.getLast?.map (·.2)).getD 0
theorem ne_of_eqv {l : NK} (h : (!PyData.eqv (dK l) (.list [])) = true) : l ≠ [] := fun z => by
  rw [z] at h
  exact absurd h (by decide +kernel)
theorem last_at (K : PySem.W.Frag) {l : NK} (h : l ≠ []) : L2.atI (l.map (tp K)) (-1) = some (tp K (lastP l, lastE l)) := by
  rcases List.eq_nil_or_concat l with e | ⟨r, q, e⟩
  · exact absurd e h
  · rw [List.concat_eq_append] at e
    subst e
    rw [List.map_append]
    have e1 : lastE (r ++ [q]) = q.2 := by simp [lastE]
    rw [lastP_snoc, e1]
    exact L2.atI_last _ _
theorem at1 {T0 T1 : RL.Ty} {Ts : List RL.Ty} : L2.atI (T0 :: T1 :: Ts) 1 = some T1 := by
  rw [atI_one (by decide) (by rw [List.length_cons, List.length_cons]; omega)]
  rfl
theorem at0 {T0 : RL.Ty} {Ts : List RL.Ty} : L2.atI (T0 :: Ts) 0 = some T0 := by
  rw [atI_one (by decide) (by rw [List.length_cons]; omega)]
  rfl
theorem sh_int (e : Int) : SeqAt.shaped (.list [.int e]) = true := Lay.shaped (lay_list (n := 0) fun d hd => by
  rw [List.mem_singleton.mp hd]
  exact lay_int) (by decide)
theorem small_eqv (e : Int) : (([.list [.int 0], .list [.int 1]] : List PyData).any fun z => PyData.eqv z (.list [.int e])) = smallB e := by
  unfold smallB
  simp only [List.any_cons, List.any_nil, PyData.eqv, PyData.eqvAll, Bool.and_true, Bool.or_false]
  rw [Bool.eq_iff_iff]
  simp only [Bool.or_eq_true, decide_eq_true_eq, beq_iff_eq]
  constructor
  · rintro (h | h)
    · exact .inl h.symm
    · exact .inr h.symm
  · rintro (h | h)
    · exact .inl h.symm
    · exact .inr h.symm
theorem sc_lin : FnScope ["_law_text_here", "_law_found", "_law_word", "_law_halves", "_law_numbers", "_law_half"] ["_law_text_here"] (defScope s__law_number_in) := ⟨rfl, rfl, rfl, by decide +kernel, rfl, by decide +kernel, by decide +kernel⟩
theorem f_lin (T : Tx fa fn ex K mg) : FnG P w K mg base 3 "_law_number_in" ["_law_text_here"] (spG (fun z : RdI => [strT z.1]) fun z => resT K (readX z.1)) := by
  have FD : FnG P w K mg base 1 "_law_digits_in" ["_law_text_here"] _ := f_ldigits T
  have FP : FnG P w K mg base 2 "_law_is_prime" ["_law_value"] _ := f_lpr T
  refine T.fn d__law_number_in i__law_number_in "_law_number_in" rfl q_glo__law_number_in rfl (fun _ _ _ _ _ _ us hl => match us, hl with | [_], _ => rfl) fun f fd F => ?_
  refine fn_G F sc_lin (fun _ => rfl) fun z cdv Ar outer s H E hr nd D hD _ => ?_
  obtain ⟨x, hx, hw60⟩ := z
  have hr1 := hr.mono (j := 1) (by decide)
  have hlen := T.free _ q_free_len
  have small : ∀ {n : Nat}, n ≤ 10000 → n ≤ sizeLine := fun h => Nat.le_trans h (by decide)
  have h64 := room64 hr1
  have h65 : (BX P w K mg base ["_law_text_here", "_law_found", "_law_word", "_law_halves", "_law_numbers", "_law_half"] d__law_number_in.qual d__law_number_in.scope f cdv Ar outer s H E).A.units + 65 < cLine := by
    have := hr1.un
    show (Ar.deeper (envOfC d__law_number_in.qual d__law_number_in.scope s.heap.objs.size f cdv)).units + 65 < cLine
    omega
  change Bd (BX P w K mg base ["_law_text_here", "_law_found", "_law_word", "_law_halves", "_law_numbers", "_law_half"] d__law_number_in.qual d__law_number_in.scope f cdv Ar outer s H E) [some (strT x), none, none, none, none, none] _ _ _
  refine b_if (k := decide (x = "1")) (gt_eqS (g_var (T := strT x) 0) g_str) (fun h => ?_) fun h => b_skip ?_
  · have e : readX x = some [] := by unfold readX wordsX; rw [if_pos (of_decide_eq_true h)]; rfl
    refine b_ret (T := resT K (readX x)) ?_ hD
    rw [e]
    exact g_lst (Ts := []) ga_nil (hl := Nat.zero_le _)
  · have ews : wordsX x = Txt.split x "*" := by unfold wordsX; rw [if_neg (of_decide_eq_false h)]
    refine b_newL 1 fun aa ha => ?_
    change Bd _ [some (strT x), some (mlT aa (([] : NK).map (tp K))), none, none, none, none] _ _ _
    refine b_for (g := gName 2) (fun i Δ => ∃ (l : NK) (u2 u3 u4 : Option RL.Ty), readX x = ((wordsX x).drop i).foldl rdStep (some l) ∧ RdOk l ∧ l.length ≤ i ∧ Δ = [some (strT x), some (mlT aa (l.map (tp K))), u2, u3, u4, none]) (Ts := (wordsX x).map fun z => strT z) (gi_list (G.is (g_split (g_var (T := strT x) 0) g_str (by decide +kernel) (small (by omega))) (by rw [ews]))) (pg_name nd rfl (Or.inl rfl)) ⟨[], none, none, none, rfl, RdOk.nil, Nat.zero_le _, rfl⟩ (fun H1 i T1 Δ b1 hT hΔ => ?_) fun Δ hΔ => ?_
    · obtain ⟨l, u2, u3, u4, hrd, hok, hli, rfl⟩ := hΔ
      rw [List.getElem?_map] at hT
      cases hp : (wordsX x)[i]? with
      | none => rw [hp] at hT; cases hT
      | some wd =>
        rw [hp] at hT
        cases hT
        have hil : i < (wordsX x).length := (List.getElem?_eq_some_iff.mp hp).1
        have hwl : wd.length ≤ x.length := words_le (List.mem_of_getElem? hp)
        have hdrop : (wordsX x).drop i = wd :: (wordsX x).drop (i + 1) := by
          rw [List.drop_eq_getElem_cons hil]
          congr 1
          exact (List.getElem?_eq_some_iff.mp hp).2
        rw [hdrop, List.foldl_cons] at hrd
        have hnc := num_cases wd
        have hpl : ∀ p ∈ Txt.split wd "^", p.length ≤ 2000 := fun p h => Nat.le_trans (split1_le hat1 (by decide) h) (by omega)
        have hsl : (Txt.split wd "^").length ≤ 3000 := by
          rw [split1_len (x := wd) hat1 (by decide)]
          have := List.count_le_length (a := 94) (l := TL.tl wd)
          rw [← TL.len_tl] at this
          omega
        generalize hhs : Txt.split wd "^" = hs at hnc hpl hsl
        refine ⟨_, tgt_name, ?_⟩
        refine b_asg 3 (T := lstT (hs.map fun z => strT z)) (G.is (g_split (g_var (T := strT wd) 2) g_str (by decide +kernel) (small (by omega))) (by rw [hhs])) ?_
        refine b_asgLc (j := 5) 4 hs (fun z => strT z) (fun z => optT (digO z)) (gi_list (g_var (T := lstT (hs.map fun z => strT z)) 3)) (small (by omega)) (fun z hz s2 H2 C cl fp => g_call FD hr1 ⟨z, by have := hpl z hz; omega⟩ (ga_cons (g_var (T := strT z) 5) ga_nil)) ?_
        change Bd _ [some (strT x), some (mlT aa (l.map (tp K))), some (strT wd), some (lstT (hs.map fun z => strT z)), some (lstT (hs.map fun z => optT (digO z))), none] _ _ _
        have hmm : (hs.map fun z => optT (digO z)) = (hs.map digO).map optT := by rw [List.map_map]; rfl
        have bad : wordR wd = none → ∀ (v : V) (H' : Hp), ((Bs.of H).at H1).ok H' → nonT v H' → D.rt v H' := fun hb v H' ok hv => by
          refine hD v H' ⟨ok.1, ok.1.le⟩ ?_
          have e : readX x = none := by rw [hrd, step_bad hb, rd_none]
          show resT K (readX x) v H'
          rw [e]
          exact hv
        rcases hnc with ⟨h1, h2⟩ | ⟨n, h0, h1, h2⟩ | ⟨n, e, h0, h1, h2⟩
        · rw [hmm]
          refine b_if (k := true) (GT.is (gt_or4 (k := decide ((hs.length : Int) > 2)) (l := (hs.map digO).any Option.isNone) (n := true) (r := true) (gt_gt (G.is (g_lenL (g_var (T := lstT (hs.map fun z => strT z)) 3) hlen) (by rw [List.length_map])) g_int) (fun _ => (gt_noneIn g_non (g_var (T := lstT ((hs.map digO).map optT)) 4))) (fun z1 z2 => by
            exfalso
            rcases h1 with h1 | h1
            · exact absurd h1 (of_decide_eq_false z1)
            · rw [h1] at z2; cases z2) (fun z1 z2 => by
            exfalso
            rcases h1 with h1 | h1
            · exact absurd h1 (of_decide_eq_false z1)
            · rw [h1] at z2; cases z2)) (by simp)) (fun _ => ?_) fun h => by cases h
          exact b_ret (T := nonT) g_non fun v H' ok hv => bad h2 v H' ok hv
        · rw [hmm, h1]
          change Bd _ [some (strT x), some (mlT aa (l.map (tp K))), some (strT wd), some (lstT (hs.map fun z => strT z)), some (lstT [intT n]), none] _ _ _
          refine b_if (k := !knownB n) (GT.is (gt_or4 (k := false) (l := false) (n := !knownB n) (r := false) (GT.is (gt_gt (G.is (g_lenL (g_var (T := lstT (hs.map fun z => strT z)) 3) hlen) (by rw [List.length_map])) g_int) (by rw [h0]; rfl)) (fun _ => (gt_noneIn (l := [some n]) g_non (g_var (T := lstT [intT n]) 4))) (fun _ _ => gt_not (gt_bl (g_call FP (hr.mono (by decide)) n (ga_cons (g_ixL (T := intT n) (G.rl (g_var (T := lstT [intT n]) 4)) g_int (hT := at0)) ga_nil)))) (fun _ _ _ => GT.is ((gt_inDD (T := lstT []) (d := .list []) (ds := [.list [.int 0], .list [.int 1]]) h65 (g_from (Ts := [intT n]) (g_var (T := lstT [intT n]) 4) g_int (by decide)) (g_lst (Ts := [lstT [intT 0], lstT [intT 1]]) (ga_cons (g_lst (Ts := [intT 0]) (ga_cons g_int ga_nil) (hl := by show 1 ≤ sizeLine; decide)) (ga_cons (g_lst (Ts := [intT 1]) (ga_cons g_int ga_nil) (hl := by show 1 ≤ sizeLine; decide)) ga_nil)) (hl := by show 2 ≤ sizeLine; decide)) (dp_lst .nil) zero_one_dp (by decide +kernel) (by decide +kernel))) (by decide +kernel))) (by simp)) (fun hk => ?_) fun hk => b_skip ?_
          · rw [Bool.not_eq_true'] at hk
            exact b_ret (T := nonT) g_non fun v H' ok hv => bad (by rw [h2, if_neg (by rw [hk]; decide)]) v H' ok hv
          · have hq : wordR wd = some (n, 1) := by rw [h2, if_pos (by rw [Bool.not_eq_false'] at hk; exact hk)]
            refine b_if (k := lateB l n) (GT.is (gt_and2 (k := !PyData.eqv (dK l) (.list [])) (l := decide (n ≤ lastP l)) (gt_neD (T := rlT K (l.map (tp K))) (U := lstT []) (d := dK l) (d' := .list []) h64 (G.rlm (g_var (T := mlT aa (l.map (tp K))) 1)) (g_lst (Ts := []) ga_nil (hl := Nat.zero_le _)) (dK_rl l) (dp_lst .nil) (dK_shaped l) (by decide +kernel)) fun hk => gt_ge (g_ixT (T := intT (lastP l)) (Ts := [intT (lastP l), intT (lastE l)]) (g_ixL (T := tp K (lastP l, lastE l)) (G.rlm (g_var (T := mlT aa (l.map (tp K))) 1)) (g_neg g_int) (last_at K (ne_of_eqv hk))) g_int (hT := at0)) (g_ixL (T := intT n) (G.rl (g_var (T := lstT [intT n]) 4)) g_int (hT := at0))) (by rw [eqv_nil]; rfl)) (fun hl => ?_) fun hl => b_skip ?_
            · refine b_ret (T := nonT) g_non fun v H' ok hv => hD v H' ⟨ok.1, ok.1.le⟩ ?_
              have e9 : readX x = none := by rw [hrd, step_late hq hl, rd_none]
              show resT K (readX x) v H'
              rw [e9]
              exact hv
            · have hok2 := hok.snoc (show okW _ _ _ = some (n, 1) from hq) hl
              refine b_append (T := tp K (n, 1)) 1 (by exact rfl) (by exact g_tup (ga_cons (g_ixL (T := intT n) (G.rl (g_var (T := lstT [intT n]) 4)) g_int (hT := at0)) (ga_cons (g_ite (k := false) (gt_eqI (g_lenL (g_var (T := lstT [intT n]) 4) hlen) g_int) (fun h => by cases h) fun _ => g_int) ga_nil)) (hl := by show 2 ≤ sizeLine; decide)) (by rw [List.length_map]; exact Nat.lt_of_le_of_lt (Nat.le_trans hli (Nat.le_of_lt (Nat.lt_trans hil hw60))) (by decide)) (by exact ha) (by repeat (first | exact stbC_nil | refine stbC_none ?_ | refine stbC_some inferInstance ?_)) ?_
              refine turn_nx ?_
              rw [step_good hq hl] at hrd
              refine ⟨l ++ [(n, 1)], some (strT wd), some (lstT (hs.map fun z => strT z)), some (lstT [intT n]), hrd, hok2, ?_, ?_⟩
              · rw [List.length_append]
                simp only [List.length_cons, List.length_nil]
                omega
              · rw [List.map_append]
                rfl
        · rw [hmm, h1]
          change Bd _ [some (strT x), some (mlT aa (l.map (tp K))), some (strT wd), some (lstT (hs.map fun z => strT z)), some (lstT [intT n, intT e]), none] _ _ _
          refine b_if (k := !knownB n || smallB e) (GT.is (gt_or4 (k := false) (l := false) (n := !knownB n) (r := smallB e) (GT.is (gt_gt (G.is (g_lenL (g_var (T := lstT (hs.map fun z => strT z)) 3) hlen) (by rw [List.length_map])) g_int) (by rw [h0]; rfl)) (fun _ => (gt_noneIn (l := [some n, some e]) g_non (g_var (T := lstT [intT n, intT e]) 4))) (fun _ _ => gt_not (gt_bl (g_call FP (hr.mono (by decide)) n (ga_cons (g_ixL (T := intT n) (G.rl (g_var (T := lstT [intT n, intT e]) 4)) g_int (hT := at0)) ga_nil)))) (fun _ _ _ => GT.is ((gt_inDD (T := lstT [intT e]) (d := .list [.int e]) (ds := [.list [.int 0], .list [.int 1]]) h65 (g_from (Ts := [intT n, intT e]) (g_var (T := lstT [intT n, intT e]) 4) g_int (by decide)) (g_lst (Ts := [lstT [intT 0], lstT [intT 1]]) (ga_cons (g_lst (Ts := [intT 0]) (ga_cons g_int ga_nil) (hl := by show 1 ≤ sizeLine; decide)) (ga_cons (g_lst (Ts := [intT 1]) (ga_cons g_int ga_nil) (hl := by show 1 ≤ sizeLine; decide)) ga_nil)) (hl := by show 2 ≤ sizeLine; decide)) (dp_lst (.cons dp_int .nil)) zero_one_dp (sh_int e) (by decide +kernel))) (small_eqv e))) (by simp)) (fun hk => ?_) fun hk => b_skip ?_
          · exact b_ret (T := nonT) g_non fun v H' ok hv => bad (by
              rw [h2, if_neg]
              intro z
              rw [Bool.and_eq_true, Bool.not_eq_true'] at z
              rw [z.1, z.2] at hk
              cases hk) v H' ok hv
          · have hq : wordR wd = some (n, e) := by
              rw [Bool.or_eq_false_iff, Bool.not_eq_false'] at hk
              rw [h2, if_pos (by rw [hk.1, hk.2]; rfl)]
            refine b_if (k := lateB l n) (GT.is (gt_and2 (k := !PyData.eqv (dK l) (.list [])) (l := decide (n ≤ lastP l)) (gt_neD (T := rlT K (l.map (tp K))) (U := lstT []) (d := dK l) (d' := .list []) h64 (G.rlm (g_var (T := mlT aa (l.map (tp K))) 1)) (g_lst (Ts := []) ga_nil (hl := Nat.zero_le _)) (dK_rl l) (dp_lst .nil) (dK_shaped l) (by decide +kernel)) fun hk => gt_ge (g_ixT (T := intT (lastP l)) (Ts := [intT (lastP l), intT (lastE l)]) (g_ixL (T := tp K (lastP l, lastE l)) (G.rlm (g_var (T := mlT aa (l.map (tp K))) 1)) (g_neg g_int) (last_at K (ne_of_eqv hk))) g_int (hT := at0)) (g_ixL (T := intT n) (G.rl (g_var (T := lstT [intT n, intT e]) 4)) g_int (hT := at0))) (by rw [eqv_nil]; rfl)) (fun hl => ?_) fun hl => b_skip ?_
            · refine b_ret (T := nonT) g_non fun v H' ok hv => hD v H' ⟨ok.1, ok.1.le⟩ ?_
              have e9 : readX x = none := by rw [hrd, step_late hq hl, rd_none]
              show resT K (readX x) v H'
              rw [e9]
              exact hv
            · have hok2 := hok.snoc (show okW _ _ _ = some (n, e) from hq) hl
              refine b_append (T := tp K (n, e)) 1 (by exact rfl) (by exact g_tup (ga_cons (g_ixL (T := intT n) (G.rl (g_var (T := lstT [intT n, intT e]) 4)) g_int (hT := at0)) (ga_cons (g_ite (k := true) (gt_eqI (g_lenL (g_var (T := lstT [intT n, intT e]) 4) hlen) g_int) (fun _ => g_ixL (T := intT e) (G.rl (g_var (T := lstT [intT n, intT e]) 4)) g_int (hT := at1)) fun h => by cases h) ga_nil)) (hl := by show 2 ≤ sizeLine; decide)) (by rw [List.length_map]; exact Nat.lt_of_le_of_lt (Nat.le_trans hli (Nat.le_of_lt (Nat.lt_trans hil hw60))) (by decide)) (by exact ha) (by repeat (first | exact stbC_nil | refine stbC_none ?_ | refine stbC_some inferInstance ?_)) ?_
              refine turn_nx ?_
              rw [step_good hq hl] at hrd
              refine ⟨l ++ [(n, e)], some (strT wd), some (lstT (hs.map fun z => strT z)), some (lstT [intT n, intT e]), hrd, hok2, ?_, ?_⟩
              · rw [List.length_append]
                simp only [List.length_cons, List.length_nil]
                omega
              · rw [List.map_append]
                rfl
    · obtain ⟨l, u2, u3, u4, hrd, hok, hli, rfl⟩ := hΔ
      rw [List.length_map, List.drop_length] at hrd
      have hyes : readX x = some l := hrd
      refine b_forget 2 (b_forget 3 (b_forget 4 ?_))
      change Bd _ [some (strT x), some (mlT aa (l.map (tp K))), none, none, none, none] _ _ _
      refine b_frzL 1 rfl (by exact ha) (by repeat (first | exact stbC_nil | refine stbC_none ?_ | refine stbC_some inferInstance ?_)) ?_
      refine b_ret (T := resT K (readX x)) ?_ hD
      rw [hyes]
      exact g_var (T := prT K l) 1
end
end K03

set_option Elab.async false
set_option linter.all false
set_option maxRecDepth 100000
set_option maxHeartbeats 2000000
/-! RLread2: text * int; texts with parts of a family -/
namespace RL
open PySem PySem.Spec PyProof.Rows L2
def repS (i : Str) (n : Int) : Str := ⟨(List.replicate n.toNat i.cps).foldl (· ++ ·) #[]⟩
section
variable {X : Cx} {Γ : Ctx} {e o a b : Expr} {pos p pos2 : Pos} {x y : Str}
theorem op_mulS : OpR X (binaryOp .Mult) (fun x y H Q => ∃ (i : Str) (n : Int), x = .str i ∧ y = .int n ∧ 2 ≤ n ∧ n ≤ 100 ∧ 1 ≤ i.length ∧ i.length ≤ 100 ∧ (repS i n).length ≤ sizeLine ∧ Q (.str (repS i n)) H) := by
  intro pins s σ H x y v u Q I rx ry h
  obtain ⟨i, n, rfl, rfl, h1, h2, h3, h4, h5, q⟩ := h
  obtain ⟨t, rfl⟩ := rx
  obtain ⟨t', rfl⟩ := ry
  refine PySem.P.mul_str ?_ (fun _ _ => ?_) (fun _ _ => ?_) ?_
  · rw [decide_eq_false (by omega), decide_eq_false (by omega)]; rfl
  · have : (i.length : Int) ≤ (2 ^ 63 - 1) / n := Int.le_ediv_of_mul_le (by omega) (by
      have : (i.length : Int) * n ≤ 100 * 100 := Int.mul_le_mul (by omega) h2 (by omega) (by decide)
      omega)
    omega
  · have hm : i.length * n.toNat ≤ 100 * 100 := Nat.mul_le_mul h4 (by omega)
    have hz : (10000 : Nat) ≤ sizeLine := by decide
    exact decide_eq_false (by omega)
  · rw [if_neg (by omega), if_neg (by
      rw [Bool.or_eq_true, beq_iff_eq, beq_iff_eq]
      omega)]
    exact ⟨h5, .str _, H, I.tok _, ⟨_, rfl⟩, q⟩
theorem g_mulS {n : Int} (ha : G X Γ a (strT x)) (hb : G X Γ b (intT n)) (h1 : 2 ≤ n := by decide) (h2 : n ≤ 100 := by decide) (h3 : 1 ≤ x.length := by decide +kernel) (h4 : x.length ≤ 100 := by decide +kernel) (h5 : (repS x n).length ≤ 10000 := by decide +kernel) : G X Γ (.BinOp a .Mult b pos) (strT (repS x n)) :=
  g_op op_mulS ha hb (fun v w H hv hw Q q => ⟨x, n, hv, hw, h1, h2, h3, h4, Nat.le_trans h5 (by decide), q _ H (Ex.refl H) rfl⟩)
theorem g_addSX {β : Type} {f : β → Str} (ha : G X Γ a (strT y)) (hb : G X Γ b (exT fun z => strT (f z))) (hz : ∀ z, y.length + (f z).length ≤ sizeLine) : G X Γ (.BinOp a .Add b pos) (exT fun z => strT (y ++ f z)) :=
  g_op op_add_str ha hb (fun v w H hv ⟨z, hw⟩ Q q => ⟨y, f z, hv, hw, hz z, q _ H (Ex.refl H) ⟨z, rfl⟩⟩)
theorem g_cutFromSX {β : Type} {n : β → Int} (ho : G X Γ o (strT x)) (hk : G X Γ e (exT fun z => intT (n z))) (hz : x.length ≤ sizeLine) : G X Γ (.Subscript o (.Slice (some e) none none pos2) pos) (exT fun z => strT (cutS x (some (n z)) none)) := fun σ H t Q q =>
  toE (pe_slice sl_str (pe o) (po_some (pe e)) po_none) (ho σ H t _ fun v H1 e1 k1 => hk σ H1 (t.up e1) _ fun w H2 e2 ⟨z, h2⟩ => ⟨n z, h2, x, k1, hz, q _ H2 (e1.trans e2) ⟨z, rfl⟩⟩)
end
end RL

set_option Elab.async false
set_option linter.all false
set_option maxRecDepth 100000
set_option maxHeartbeats 2000000
/-! RLitems: for k, v in d.items(), d frozen -/
namespace RL
open PySem PySem.Spec PyProof.Rows L2
section
variable {X : Cx} {Γ : Ctx} {e : Expr} {apos cpos tpos : Pos} {elts : List Expr} {kk : Nat} {kvs : List (Key × V)}
theorem gi_items (h : G X Γ e (dicT kvs)) (hbase : attributeBase e "items" X.env (eval e X.env) = eval e X.env := by rfl) (hline : (apos.endLine == cpos.line) = true := by rfl) :
    GI X Γ (.Tuple elts kk tpos) (.Call (.Attribute e "items" apos) [] [] cpos) (kvs.map fun q => tupT X.K [valT (kV q.1), valT q.2]) := fun σ H t Q q => toI (pi_items (pe e) hbase hline) (h σ H t _ fun v H1 e1 ⟨d, o, ev, hd⟩ => ⟨d, o, kvs, ev, hd, q _ H1 e1 fun i H' e' => by
    have hd' : H' d = some (.frz o (.dK kvs)) := e' _ _ (by exact fun z => z) hd
    rw [List.length_map]
    refine ⟨fun hi => ⟨⟨hd', hi⟩, fun x H2 hy => ?_⟩, fun hi => ⟨hd', Nat.le_of_eq hi.symm⟩⟩
    obtain ⟨T, k, w, hk, ex, hn, eH⟩ := hy
    subst ex; subst eH
    refine ⟨Ex.new hn, tupT X.K [valT (kV k), valT w], by rw [List.getElem?_map, hk]; rfl, ?_⟩
    exact ⟨T, _, rfl, .inl upd_same, rfl, rfl, trivial⟩⟩)
end
end RL

set_option Elab.async false
set_option linter.all false
set_option maxRecDepth 100000
set_option maxHeartbeats 4000000
/-! K03G: the text of a number, plain: it is read back -/
namespace K03
open PySem PySem.Spec PyProof.Rows L2 RL NM
def numS (i : Int) : Str := toString i
def wordK (q : Int × Int) : Str := numS q.1 ++ (if 1 < q.2 then "^" ++ numS q.2 else "")
def textK (l : NK) : Str := if l = [] then "1" else Txt.join "*" (l.map wordK)
theorem tl_numS {n : Nat} : TL.tl (numS (n : Int)) = TL.numL n := TL.tl_num n
theorem numL_head {n : Nat} (h : 1 ≤ n) : (TL.numL n).headD 0 ≠ 48 := by
  induction n using Nat.strongRecOn with
  | ind n ih =>
    by_cases hn : n < 10
    · rw [TL.numL_lt hn]
      show 48 + n ≠ 48
      omega
    · rw [TL.numL_step (by omega)]
      have h2 := ih (n / 10) (by omega) (by omega)
      have h3 := TL.numL_ne (n / 10)
      generalize TL.numL (n / 10) = m at h2 h3 ⊢
      cases m with
      | nil => exact absurd rfl h3
      | cons c r => exact h2
theorem numS_len {n : Nat} (h : n < 10 ^ 30) : 1 ≤ (numS (n : Int)).length ∧ (numS (n : Int)).length ≤ 30 := by
  rw [TL.len_tl, tl_numS]
  exact ⟨List.length_pos_iff.mpr (TL.numL_ne n), TL.numL_len (by decide) h⟩
theorem digs_of {l : List Nat} (h : NumText.AllDigits l) : (l.all fun c => decide (c ∈ digitsS.cps.toList)) = true := by
  rw [List.all_eq_true]
  intro c hc
  obtain ⟨h1, h2⟩ := h c hc
  have e : digitsS.cps.toList = [48, 49, 50, 51, 52, 53, 54, 55, 56, 57] := by decide +kernel
  rw [e, decide_eq_true_eq]
  simp only [List.mem_cons, List.not_mem_nil, or_false]
  omega
theorem dig_num {n : Nat} (h : n < 10 ^ 30) : digO (numS (n : Int)) = some (n : Int) := by
  obtain ⟨h1, h2⟩ := numS_len h
  have hd : dgB (numS (n : Int)) = true := by
    unfold dgB
    rw [decide_eq_true (by omega), decide_eq_true (by omega), Bool.true_and, Bool.true_and]
    refine digs_of ?_
    show NumText.AllDigits (TL.tl (numS (n : Int)))
    rw [tl_numS]
    exact TL.numL_digits n
  have hz : zeroB (numS (n : Int)) = false := by
    unfold zeroB
    by_cases h10 : n < 10
    · have : (numS (n : Int)).length = 1 := by rw [TL.len_tl, tl_numS, TL.numL_lt h10]; rfl
      rw [this]
      rfl
    · have e : headC (numS (n : Int)) ≠ 48 := by
        unfold headC
        show (TL.tl (numS (n : Int))).headD 0 ≠ 48
        rw [tl_numS]
        exact numL_head (by omega)
      rw [decide_eq_false (p := (⟨#[headC (numS (n : Int))]⟩ : Str) = "0") (fun z => e ?_), Bool.and_false]
      have z2 := congrArg TL.tl z
      have e0 : TL.tl ("0" : Str) = [48] := by decide +kernel
      rw [e0] at z2
      exact (List.cons.inj z2).1
  unfold digO
  rw [if_pos hd, if_neg (by rw [hz]; decide)]
  show some ((NumText.digitsVal (TL.tl (numS (n : Int))) : Nat) : Int) = _
  rw [tl_numS, TL.numL_val]
/-- good pairs of a text -/
structure WkOk (q : Int × Int) : Prop where
  pr : 0 < q.1 ∧ q.1 < 1000 ∧ isPB q.1 = true
  pos : 0 < q.2 ∧ q.2 < 2 ^ 99
theorem lt30 {i : Int} (h : 0 < i ∧ i < 2 ^ 99) : ∃ n : Nat, i = (n : Int) ∧ n < 10 ^ 30 := ⟨i.toNat, by omega, by
  have : (2 : Int) ^ 99 < 10 ^ 30 := by decide
  have h3 : ((i.toNat : Nat) : Int) < 10 ^ 30 := by omega
  exact_mod_cast h3⟩
theorem free_num {i : Int} {s : Nat} (h : 0 < i) (hs : s < 48 ∨ 57 < s) : s ∉ TL.tl (numS i) := by
  obtain ⟨n, rfl⟩ : ∃ n : Nat, i = (n : Int) := ⟨i.toNat, by omega⟩
  rw [tl_numS]
  exact TL.numL_free hs
theorem wordR_word {q : Int × Int} (h : WkOk q) : wordR (wordK q) = some q := by
  obtain ⟨p, e⟩ := q
  obtain ⟨n, hn, hn2⟩ := lt30 (i := p) ⟨h.pr.1, by have := h.pr.2.1; omega⟩
  obtain ⟨m, hm, hm2⟩ := lt30 (i := e) h.pos
  have hk : knownB p = true := by
    unfold knownB
    rw [h.pr.2.2, decide_eq_true h.pr.2.1]
    rfl
  have hf : 94 ∉ TL.tl (numS p) := free_num h.pr.1 (.inr (by decide))
  have d1 : digO (numS p) = some p := by
    have hn' : p = (n : Int) := hn
    rw [hn']
    exact dig_num hn2
  have d2 : digO (numS e) = some e := by
    have hm' : e = (m : Int) := hm
    rw [hm']
    exact dig_num hm2
  have hpos : 0 < e := h.pos.1
  unfold wordR wordK
  by_cases he : 1 < e
  · have z : Txt.partition (numS p ++ (if 1 < e then "^" ++ numS e else "")) "^" = (numS p, ("^" : Str), numS e) := by
      rw [if_pos he]
      have z2 := TL.partition_app (y := "^") hat1 (a := numS p) (b := numS e) hf
      have e3 : numS p ++ ("^" : Str) ++ numS e = numS p ++ ("^" ++ numS e) := TL.ext_tl (by simp only [TL.tl_append, List.append_assoc])
      rw [e3] at z2
      exact z2
    show okW (Txt.partition (numS p ++ (if 1 < e then "^" ++ numS e else "")) "^").1 (Txt.partition (numS p ++ (if 1 < e then "^" ++ numS e else "")) "^").2.1 (Txt.partition (numS p ++ (if 1 < e then "^" ++ numS e else "")) "^").2.2 = _
    rw [z]
    show okW (numS p) "^" (numS e) = _
    unfold okW
    rw [d1, exp1, d2]
    have hl : ((("^" : Str).length : Nat) : Int) = 1 := by decide +kernel
    show (if (knownB p && !decide (e < 1 + ((("^" : Str).length : Nat) : Int))) = true then some (p, e) else none) = _
    rw [hl, hk, decide_eq_false (by omega)]
    rfl
  · have he1 : e = 1 := by omega
    have z : Txt.partition (numS p ++ (if 1 < e then "^" ++ numS e else "")) "^" = (numS p, Str.empty, Str.empty) := by
      rw [if_neg he]
      have e3 : numS p ++ ("" : Str) = numS p := TL.ext_tl (by rw [TL.tl_append]; exact List.append_nil _)
      rw [e3]
      exact TL.partition_none hat1 hf
    show okW (Txt.partition (numS p ++ (if 1 < e then "^" ++ numS e else "")) "^").1 (Txt.partition (numS p ++ (if 1 < e then "^" ++ numS e else "")) "^").2.1 (Txt.partition (numS p ++ (if 1 < e then "^" ++ numS e else "")) "^").2.2 = _
    rw [z]
    show okW (numS p) Str.empty Str.empty = _
    unfold okW
    rw [d1, exp0]
    show (if (knownB p && !decide ((1 : Int) < 1 + ((Str.empty : Str).length : Int))) = true then some (p, (1 : Int)) else none) = _
    rw [show (!decide ((1 : Int) < 1 + ((Str.empty : Str).length : Int))) = true from by decide +kernel, Bool.and_true, hk, he1]
    rfl
/-- numbers with a text -/
structure TxOk (l : NK) : Prop where
  asc : (l.map (·.1)).Pairwise (· < ·)
  wk : ∀ q ∈ l, WkOk q
theorem word_free {q : Int × Int} (h : WkOk q) : 42 ∉ TL.tl (wordK q) := by
  unfold wordK
  rw [TL.tl_append, List.mem_append]
  rintro (z | z)
  · exact free_num h.pr.1 (.inl (by decide)) z
  · split at z
    · rw [TL.tl_append, hat1] at z
      rcases List.mem_cons.mp z with z | z
      · exact absurd z (by decide)
      · exact free_num h.pos.1 (.inl (by decide)) z
    · exact absurd z (by decide +kernel)
theorem split_text {l : NK} (h : TxOk l) (hne : l ≠ []) : Txt.split (textK l) "*" = l.map wordK := by
  unfold textK
  rw [if_neg hne]
  refine TL.split_join star1 (by decide +kernel) (fun z => hne (List.map_eq_nil_iff.mp z)) fun p hp => ?_
  obtain ⟨q, hq, rfl⟩ := List.mem_map.mp hp
  exact word_free (h.wk q hq)
theorem text_one {l : NK} (h : TxOk l) (hne : l ≠ []) : textK l ≠ "1" := fun z => by
  have h1 := split_text h hne
  rw [z] at h1
  have e : Txt.split "1" "*" = [("1" : Str)] := by
    refine TL.map_tl_inj ?_
    rw [split1 _ _ star1 (by decide), TL.spl_last1 (by decide +kernel)]
    rfl
  rw [e] at h1
  cases l with
  | nil => exact hne rfl
  | cons q r =>
    rw [List.map_cons] at h1
    have h2 := (List.cons.inj h1).1
    have h3 := wordR_word (h.wk q List.mem_cons_self)
    rw [← h2] at h3
    have h4 : wordR ("1" : Str) = none := by decide +kernel
    rw [h4] at h3
    cases h3
theorem fold_text : ∀ {l m : NK}, TxOk (m ++ l) → (l.map wordK).foldl rdStep (some m) = some (m ++ l)
  | [], m, _ => by rw [List.append_nil]; rfl
  | q :: r, m, h => by
    have hw := wordR_word (h.wk q (by simp))
    have hl : lateB m q.1 = false := by
      unfold lateB
      by_cases hm : m = []
      · rw [hm]; rfl
      · have h1 := h.asc
        rw [List.map_append] at h1
        have h2 := (List.pairwise_append.mp h1).2.2 _ (last_in hm) q.1 (by simp)
        rw [decide_eq_false (p := q.1 ≤ lastP m) (by omega), Bool.and_false]
    rw [List.map_cons, List.foldl_cons, step_good hw hl, fold_text (l := r) (m := m ++ [q]) (by rwa [List.append_assoc])]
    rw [List.append_assoc]
    rfl
theorem read_text {l : NK} (h : TxOk l) : readX (textK l) = some l := by
  unfold readX wordsX
  by_cases hne : l = []
  · rw [hne]
    rfl
  · rw [if_neg (text_one h hne), split_text h hne]
    exact fold_text (m := []) h
theorem words_text {l : NK} (h : TxOk l) : (TL.tl (textK l)).count 42 ≤ l.length := by
  by_cases hne : l = []
  · rw [hne]
    decide +kernel
  · have z := split1_len (x := textK l) star1 (by decide)
    rw [split_text h hne, List.length_map] at z
    omega
theorem str_len_app (a b : Str) : (a ++ b).length = a.length + b.length := by
  rw [TL.len_tl, TL.tl_append, List.length_append, ← TL.len_tl, ← TL.len_tl]
theorem word_len {q : Int × Int} (h : WkOk q) : (wordK q).length ≤ 61 := by
  obtain ⟨p, e⟩ := q
  obtain ⟨n, hn, hn2⟩ := lt30 (i := p) ⟨h.pr.1, by have := h.pr.2.1; omega⟩
  obtain ⟨m, hm, hm2⟩ := lt30 (i := e) h.pos
  have h1 : (numS p).length ≤ 30 := by
    have hn' : p = (n : Int) := hn
    rw [hn']
    exact (numS_len hn2).2
  have h2 : (numS e).length ≤ 30 := by
    have hm' : e = (m : Int) := hm
    rw [hm']
    exact (numS_len hm2).2
  unfold wordK
  rw [str_len_app]
  have h3 : (if 1 < e then ("^" : Str) ++ numS e else "").length ≤ 31 := by
    split
    · rw [str_len_app]
      have : ("^" : Str).length = 1 := by decide +kernel
      omega
    · exact Nat.zero_le _
  show (numS p).length + (if 1 < e then ("^" : Str) ++ numS e else "").length ≤ 61
  omega
theorem sum_le {ys : List Str} (h : ∀ y ∈ ys, y.length ≤ 61) : (ys.map (·.length)).sum ≤ ys.length * 61 := by
  induction ys with
  | nil => exact Nat.le_refl _
  | cons y r ih =>
    rw [List.map_cons, List.sum_cons, List.length_cons]
    have := h y List.mem_cons_self
    have := ih fun z hz => h z (List.mem_cons_of_mem _ hz)
    omega
theorem join_len (y : Str) : ∀ ys : List Str, (Str.join y ys).length ≤ (ys.map (·.length)).sum + ys.length * y.length
  | [] => Nat.zero_le _
  | [x] => by
    show x.length ≤ _
    simp
  | x :: z :: r => by
    have := join_len y (z :: r)
    show (x ++ y ++ Str.join y (z :: r)).length ≤ _
    rw [str_len_app, str_len_app, List.map_cons, List.sum_cons, List.length_cons, Nat.add_mul]
    omega
theorem text_len {l : NK} (h : TxOk l) (h9 : l.length ≤ 9) : (textK l).length ≤ 600 := by
  unfold textK
  split
  · decide +kernel
  · rw [TL.join_eq]
    have h1 := join_len "*" (l.map wordK)
    have h2 := sum_le (ys := l.map wordK) fun y hy => by
      obtain ⟨q, hq, rfl⟩ := List.mem_map.mp hy
      exact word_len (h.wk q hq)
    have h3 : ("*" : Str).length = 1 := by decide +kernel
    rw [List.length_map] at h1 h2
    rw [h3] at h1
    omega
end K03

set_option Elab.async false
set_option linter.all false
set_option maxRecDepth 100000
set_option maxHeartbeats 8000000
/-! K03U: text, repr, _law_text -/
namespace K03
open PySem PySem.Spec PyProof.Rows L2 RL NM
section
variable {P : Program} {w : World} {K : PySem.W.Frag} {mg : Str → Option Value} {base : Heap}
theorem log_low {n : Nat} (h : n < 2 ^ 100) : n.log2 < 1920 := by
  by_cases h0 : n = 0
  · subst h0; decide
  · have := (Nat.log2_lt h0 (k := 100)).mpr h
    omega
theorem low1 {q : Int × Int} (h : WkOk q) : q.1.natAbs.log2 < 1920 := log_low (by
  have := h.pr
  have : (1000 : Nat) < 2 ^ 100 := by decide
  omega)
theorem low2 {q : Int × Int} (h : WkOk q) : q.2.natAbs.log2 < 1920 := log_low (by
  have h1 := h.pos
  have h2 : (2 : Int) ^ 99 < 2 ^ 100 := by decide
  have h3 : ((q.2.natAbs : Nat) : Int) < 2 ^ 100 := by omega
  exact_mod_cast h3)
theorem kv_ints' (l : NK) : (lstT ((kvN l).map fun z => valT (kV z.1)) : RL.Ty) = lstT ((l.map (·.1)).map fun p => intT p) := by rw [kv_ints]
theorem neb_nil (l : NK) : (!PyData.eqv (.list ((l.map wordK).map PyData.str)) (.list [])) = !decide (l = []) := by
  cases l with
  | nil => decide +kernel
  | cons q r =>
    rw [show decide ((q :: r : NK) = []) = false from decide_eq_false (by simp)]
    rfl
theorem txt_ok {x : Str} (h : ∀ c ∈ TL.tl x, c < 256) : PyData.strOk x = true := by
  unfold PyData.strOk
  rw [← Array.all_toList, List.all_eq_true]
  intro c hc
  have := h c hc
  rw [decide_eq_true_eq]
  omega
theorem num_low {i : Int} (h : 0 < i) : ∀ c ∈ TL.tl (numS i), c < 256 := by
  obtain ⟨n, rfl⟩ : ∃ n : Nat, i = (n : Int) := ⟨i.toNat, by omega⟩
  rw [tl_numS]
  intro c hc
  have := TL.numL_digits n c hc
  omega
theorem word_low {q : Int × Int} (h : WkOk q) : ∀ c ∈ TL.tl (wordK q), c < 256 := fun c hc => by
  unfold wordK at hc
  rw [TL.tl_append, List.mem_append] at hc
  rcases hc with z | z
  · exact num_low h.pr.1 c z
  · split at z
    · rw [TL.tl_append, hat1] at z
      rcases List.mem_cons.mp z with z | z
      · omega
      · exact num_low h.pos.1 c z
    · exact absurd z (by rw [show TL.tl ("" : Str) = [] from by decide +kernel]; simp)
abbrev TxL := { l : NK // TxOk l ∧ l.length ≤ 9 }
theorem sc_text : FnScope ["self", "words", "prime", "power"] ["self"] (defScope s_Number_text) := ⟨rfl, rfl, rfl, by decide +kernel, rfl, by decide +kernel, by decide +kernel⟩
theorem m_text (T : Tx fa fn ex K mg) : MtG P w K mg base 1 (NamesC K numCs) "text" ["self"] (spG (fun l : TxL => [numT K l.1]) fun l => strT (textK l.1)) := by
  refine mt_text T rfl (fun _ _ _ _ _ _ us hl => match us, hl with | [_], _ => rfl) fun f fd kws F => ?_
  refine fn_G F sc_text (fun _ => rfl) fun z cdv Ar outer s H E hr nd D hD _ => ?_
  obtain ⟨l, hl, h9⟩ := z
  have hstr := T.free _ q_free_str
  refine b_asgLc2 (j := 2) (k := 3) 1 l (fun q => intT q.1) (fun q => intT q.2) (fun q => strT (wordK q)) ?_ (Nat.le_trans h9 (by decide)) (fun q hq s H C cl fp => ?_) ?_
  · refine GI.is (gi_items (g_fld (g_var 0) (fld_powers T))) ?_
    unfold kvN
    rw [List.map_map]
    rfl
  · have hw := hl.wk q hq
    refine g_ite (k := decide (1 < q.2)) (gt_gt (g_var (T := intT q.2) 3) g_int) (fun h => ?_) fun h => ?_
    · refine g_joined (xs := [numS q.1, ("^" : Str), numS q.2]) (gj_cons (g_fmtI (g_var (T := intT q.1) 2) (low1 hw)) (gj_cons g_str (gj_cons (g_fmtI (g_var (T := intT q.2) 3) (low2 hw)) gj_nil))) ?_ ?_
      · have h1 := word_len hw
        unfold wordK at h1
        rw [if_pos (of_decide_eq_true h), str_len_app, str_len_app] at h1
        show (numS q.1).length + (("^" : Str).length + ((numS q.2).length + 0)) ≤ sizeLine
        have h2 : (61 : Nat) ≤ sizeLine := by decide
        omega
      · unfold wordK
        rw [if_pos (of_decide_eq_true h)]
        refine TL.ext_tl ?_
        have e0 : TL.tl Str.empty = [] := rfl
        simp only [List.foldl_cons, List.foldl_nil, TL.tl_append, e0, List.nil_append, List.append_assoc]
    · refine (g_strI (g_var (T := intT q.1) 2) (low1 hw) hstr).is ?_
      unfold wordK
      rw [if_neg (of_decide_eq_false h)]
      exact congrArg (fun y => strT y) (TL.ext_tl (by rw [TL.tl_append]; exact (List.append_nil _).symm))
  · have e : l.map (fun q => strT (wordK q)) = (l.map wordK).map fun z => strT z := by rw [List.map_map]; rfl
    rw [e]
    refine b_ret (T := strT (textK l)) (g_ite (k := !decide (l = [])) ((gt_neD (room64 hr) (g_var (T := lstT ((l.map wordK).map fun z => strT z)) 1) (g_lst ga_nil) (strs_dp _ (l.map wordK)) (strs_dp _ []) (strs_shaped ?_) (strs_shaped (by decide +kernel))).is (neb_nil l)) (fun h => ?_) fun h => ?_) hD
    · intro x hx
      obtain ⟨q, hq, rfl⟩ := List.mem_map.mp hx
      exact txt_ok (word_low (hl.wk q hq))
    · unfold textK
      rw [if_neg (by simpa using h)]
      refine g_join (sep := "*") (ys := l.map wordK) g_str (g_var (T := lstT ((l.map wordK).map fun z => strT z)) 1) ?_
      have h2 := sum_le (ys := l.map wordK) fun y hy => by
        obtain ⟨q, hq, rfl⟩ := List.mem_map.mp hy
        exact word_len (hl.wk q hq)
      have h3 : ("*" : Str).length = 1 := by decide +kernel
      rw [List.length_map] at h2 ⊢
      rw [h3]
      omega
    · unfold textK
      rw [if_pos (by simpa using h)]
      exact g_str
theorem sc_repr : FnScope ["self"] ["self"] (defScope s_Number___repr__) := ⟨rfl, rfl, rfl, by decide +kernel, rfl, by decide +kernel, by decide +kernel⟩
def reprK (l : NK) : Str := "Number(" ++ textK l ++ ")"
theorem m_repr (T : Tx fa fn ex K mg) : MtG P w K mg base 2 (NamesC K numCs) "__repr__" ["self"] (spG (fun l : TxL => [numT K l.1]) fun l => strT (reprK l.1)) := by
  have F1 : MtG P w K mg base 1 (NamesC K numCs) "text" ["self"] _ := m_text T
  refine mt___repr__ T rfl (fun _ _ _ _ _ _ us hl => match us, hl with | [_], _ => rfl) fun f fd kws F => ?_
  refine fn_G F sc_repr (fun _ => rfl) fun z cdv Ar outer s H E hr nd D hD _ => ?_
  obtain ⟨l, hl, h9⟩ := z
  have hlen := text_len hl h9
  refine b_ret (T := strT (reprK l)) (g_joined (xs := [("Number(" : Str), textK l, ")"]) (gj_cons g_str (gj_cons (g_fmtS (g_meth0 F1 hr ⟨l, hl, h9⟩ (g_var (T := numT K l) 0) fun v H h => num_of (by decide +kernel) h) (Nat.le_trans hlen (by decide))) (gj_cons g_str gj_nil))) ?_ ?_) hD
  · show ("Number(" : Str).length + ((textK l).length + ((")" : Str).length + 0)) ≤ sizeLine
    have h1 : ("Number(" : Str).length = 7 := by decide +kernel
    have h2 : (")" : Str).length = 1 := by decide +kernel
    have h3 : (1000 : Nat) ≤ sizeLine := by decide
    omega
  · unfold reprK
    refine TL.ext_tl ?_
    have e0 : TL.tl Str.empty = [] := rfl
    simp only [List.foldl_cons, List.foldl_nil, TL.tl_append, e0, List.nil_append, List.append_assoc]
theorem sc_ltext : FnScope ["_law_powers", "_law_words", "_law_prime"] ["_law_powers"] (defScope s__law_text) := ⟨rfl, rfl, rfl, by decide +kernel, rfl, by decide +kernel, by decide +kernel⟩
theorem f_ltext (T : Tx fa fn ex K mg) : FnG P w K mg base 1 "_law_text" ["_law_powers"] (spG (fun l : TxL => [dicT (kvN l.1)]) fun l => strT (textK l.1)) := by
  refine T.fn d__law_text i__law_text "_law_text" rfl q_glo__law_text rfl (fun _ _ _ _ _ _ us hl => match us, hl with | [_], _ => rfl) fun f fd F => ?_
  refine fn_G F sc_ltext (fun _ => rfl) fun z cdv Ar outer s H E hr nd D hD _ => ?_
  obtain ⟨l, hl, h9⟩ := z
  have hstr := T.free _ q_free_str
  have hu := hu_of hr
  have nd2 : (l.map (·.1)).Nodup := hl.asc.imp fun h z => by omega
  refine b_asgLc (j := 2) 1 l (fun q => intT q.1) (fun q => strT (wordK q)) ?_ (Nat.le_trans h9 (by decide)) (fun q hq s H C cl fp => ?_) ?_
  · refine GI.is (gi_list (g_sortedL (ks := l.map (·.1)) ((g_listD (g_var (T := dicT (kvN l)) 0) (T.free _ q_free_list)).is (kv_ints' l)) (T.free _ q_free_sorted) (l.map (·.1)) fun zs hp hs => (sortU_perm hp hs nd2).trans (sortU_is hl.asc fun _ => Iff.rfl).symm)) ?_
    rw [List.map_map]
    rfl
  · have hw := hl.wk q hq
    have hval : valV (kvN l) (Sum.inl q.1 : Key) = some (.int q.2) := by rw [kvN_val' (List.mem_map_of_mem hq), look_mem nd2 hq]
    refine G.is (g_addS (y := numS q.1) (z := if 1 < q.2 then "^" ++ numS q.2 else "") (g_strI (g_var (T := intT q.1) 2) (low1 hw) hstr) (g_ite (k := decide (1 < q.2)) (gt_gt (g_ixd (k := Sum.inl q.1) hu (g_var (T := dicT (kvN l)) 0) (g_var (T := intT q.1) 2) hval) g_int) (fun h => ?_) fun h => ?_) ?_) rfl
    · rw [if_pos (of_decide_eq_true h)]
      refine g_addS g_str (g_strI (g_ixd (k := Sum.inl q.1) hu (g_var (T := dicT (kvN l)) 0) (g_var (T := intT q.1) 2) hval) (low2 hw) hstr) ?_
      have h1 := word_len hw
      unfold wordK at h1
      rw [if_pos (of_decide_eq_true h), str_len_app, str_len_app] at h1
      have h2 : (61 : Nat) ≤ sizeLine := by decide
      show ("^" : Str).length + (numS q.2).length ≤ sizeLine
      omega
    · rw [if_neg (of_decide_eq_false h)]
      exact g_str
    · have h1 := word_len hw
      unfold wordK at h1
      rw [str_len_app] at h1
      exact Nat.le_trans h1 (by decide)
  · have e : l.map (fun q => strT (wordK q)) = (l.map wordK).map fun z => strT z := by rw [List.map_map]; rfl
    rw [e]
    refine b_ret (T := strT (textK l)) (g_ite (k := !decide (l = [])) ((gt_neD (room64 hr) (g_var (T := lstT ((l.map wordK).map fun z => strT z)) 1) (g_lst ga_nil) (strs_dp _ (l.map wordK)) (strs_dp _ []) (strs_shaped ?_) (strs_shaped (by decide +kernel))).is (neb_nil l)) (fun h => ?_) fun h => ?_) hD
    · intro x hx
      obtain ⟨q, hq, rfl⟩ := List.mem_map.mp hx
      exact txt_ok (word_low (hl.wk q hq))
    · unfold textK
      rw [if_neg (by simpa using h)]
      refine g_join (sep := "*") (ys := l.map wordK) g_str (g_var (T := lstT ((l.map wordK).map fun z => strT z)) 1) ?_
      have h2 := sum_le (ys := l.map wordK) fun y hy => by
        obtain ⟨q, hq, rfl⟩ := List.mem_map.mp hy
        exact word_len (hl.wk q hq)
      have h3 : ("*" : Str).length = 1 := by decide +kernel
      rw [List.length_map] at h2 ⊢
      rw [h3]
      omega
    · unfold textK
      rw [if_pos (by simpa using h)]
      exact g_str
end
end K03

set_option Elab.async false
set_option linter.all false
set_option maxRecDepth 100000
set_option maxHeartbeats 2000000
/-! RLlaw: a def whose code object is known (lambdas stand in it); x, y = {}, e; a method of nothing -/
namespace RL
open PySem PySem.Spec PyProof.Rows L2 LamX
section
variable {P : Program} {w : World} {K : PySem.W.Frag} {mg : Str → Option Value} {base : Heap} {x qual : Str} {params : Arguments} {body : List Stmt} {scope : Scope} {dvs : List V} {kws : List (Str × V)} {fd : FuncData} {N ps : List Str} {k : Nat} {p : He.Defn}
theorem fn_GC {α : Type} {A : α → List Ty} {R : α → Ty} (F : FunD K x qual params body scope dvs kws (He.fAd K p) fd) (S : FnScope N ps scope) (hl : ∀ a, (A a).length = ps.length)
    (h : ∀ a Ar outer s H E, Room k (Ar.deeper (envOfC qual scope s.heap.objs.size (He.fAd K p) (.ref (He.cT K p).1))) → (BX P w K mg base N qual scope (He.fAd K p) (.ref (He.cT K p).1) Ar outer s H E).N.Nodup → ∀ D : Ends, (∀ v H', (Bs.of H).ok H' → R a v H' → D.rt v H') → (∀ σ H', (Bs.of H).ok H' → R a .non H' → D.nx σ H') → Bd (BX P w K mg base N qual scope (He.fAd K p) (.ref (He.cT K p).1) Ar outer s H E) (ctx0 N (A a)) body (Bs.of H) D) :
    FnOk P w K mg base CX0 (k + 1) (He.fAd K p) fd ps (spG A R) := by
  obtain ⟨oc, od, dV, kV, doc, pm, an, cdv, ct, osl, rfl, lk, hcd, _, _⟩ := F.ex
  obtain ⟨c, rfl⟩ := He.codeIn_ref hcd
  have e : (He.cT K p).1 = c := He.codeOf_eq lk rfl
  rw [e] at h
  exact fn_of lk hcd S (fun vs H Q E ⟨a, h2, _⟩ => by rw [← h2.len]; exact hl a) fun Ar outer s H vs Q E hr ⟨a, h2, q⟩ => ⟨_, (pb body).nox, h a Ar outer s H E hr S.nd _ (fun v H' e hv => q v H' e.1 hv) (fun _ H' e hv => q _ H' e.1 hv) _ H (Bs.refl H) (typed0 h2)⟩
end
section
variable {X : Cx} {Γ : Ctx} {o b : Expr} {T : Ty} {pos px py pt pd pt2 apos : Pos} {x y m : Str} {H0 : Bs} {D : Ends} {rest : List Stmt}
/-- x, y = {}, e, one after the other from a tuple -/
theorem b_tupD {kt k2 : Nat} (i j : Nat) (hb : G X Γ b T) (h : ∀ d, H0.e d = none → Bd X ((Γ.set i (some (mdT d []))).set j (some T)) rest H0 D) (hi : X.N[i]? = some x := by rfl) (hj : X.N[j]? = some y := by rfl) (hN : X.N.Nodup := by first | assumption | decide) (hc : X.calm = true := by rfl)
    (hx : Loc X.env.scope x := by first | exact Or.inl rfl | exact Or.inr rfl) (hy : Loc X.env.scope y := by first | exact Or.inl rfl | exact Or.inr rfl) (h1 : starEach [.Dict [] [] pd, b] X.env = (false, eval (.Dict [] [] pd) X.env) :: starEach [b] X.env := by exact se_cons rfl) (h2 : starEach [b] X.env = (false, eval b X.env) :: starEach [] X.env := by exact se_cons rfl)
    (hs : swapsWithSole [.Tuple [.Name x px, .Name y py] kt pt] (.Tuple [.Dict [] [] pd, b] k2 pt2) pos.line X.env = pure false := by rfl) (hw : swappedStores [.Tuple [.Name x px, .Name y py] kt pt] (.Tuple [.Dict [] [] pd, b] k2 pt2) X.env = pure none := by rfl)
    (hf1 : X.fn x = true ∨ X.env.scope.names.lookup x = some .local := by first | exact .inl rfl | exact .inr rfl) (hf2 : X.fn y = true ∨ X.env.scope.names.lookup y = some .local := by first | exact .inl rfl | exact .inr rfl)
    (ha : (assignEach [.Tuple [.Name x px, .Name y py] kt pt] X.env).map (·.2) = [assign (.Tuple [.Name x px, .Name y py] kt pt) X.env] := by rfl) : Bd X Γ (.Assign [.Tuple [.Name x px, .Name y py] kt pt] (.Tuple [.Dict [] [] pd, b] k2 pt2) pos :: rest) H0 D :=
  b_cons fun σ H e0 t => toS (ps_asg (pe_tup (pa_cons pe_dnewK (pa_cons (pe b) pa_nil h2) h1)) (pg_tup hc (pgs_cons (pg_name hN hi hx hf1) (pgs_cons (pg_name hN hj hy hf2) pgs_nil))) hs hw ha) fun q hq => hb σ _ (t.up (Ex.new hq)) _ fun v H1 e1 hv => ⟨by show 2 ≤ sizeLine; decide, fun p hp => by
    have e2 : Ex H (upd H1 p (.tup [.ref q, v])) := ((Ex.new hq).trans e1).trans (Ex.new hp)
    exact ⟨p, _, rfl, .inl (.inl upd_same), rfl, _, _, rfl, _, _, rfl, rfl, h q (e0.1.free hq) _ _ (e0.trans e2) (((t.up e2).set i (T := mdT q []) ⟨rfl, Ex.new hp _ _ (e1 _ _ upd_same)⟩).set j (T.up (Ex.new hp) hv))⟩⟩
/-- o.m(), o never a value -/
theorem g_meth0F {pl : Sem Bool} (ho : G X Γ o falseT)
    (ht : eval (.Call (.Attribute o m apos) [] [] pos) X.env = (do
      let ov ← eval o X.env
      standAt apos.atName
      let (f, first) ← holding [ov] (getMethod ov m pl)
      callWith pos f first (backTo pos (starEach [] X.env)) (backToKw pos (keywordEach [] X.env))) := by rfl) : G X Γ (.Call (.Attribute o m apos) [] [] pos) falseT := fun σ H t Q q => ⟨fun pins s I =>
  PySem.W.methodCall_KW (pl := pl) (thn ((ho σ H t (fun _ _ => False) fun v H1 e1 h1 => h1).run pins s I) fun u s1 ⟨_, _, _, _, z⟩ => z.elim) ht⟩
end
end RL
namespace RL
open PySem PySem.Spec PyProof.Rows L2
theorem b_forget {X : Cx} {Γ : Ctx} {st : List Stmt} {H0 : Bs} {D : Ends} (i : Nat) (h : Bd X (Γ.set i none) st H0 D) : Bd X Γ st H0 D := fun σ H e t => h σ H e (t.drop i)
end RL
namespace RL
open PySem PySem.Spec PyProof.Rows L2
/-- a slot tells also that the heap has grown from the entry's -/
theorem b_since {X : Cx} {Γ : Ctx} {st : List Stmt} {B : Bs} {D : Ends} {U : Ty} (j : Nat) (hj : Γ[j]? = some (some U)) (h : Bd X (Γ.set j (some (bothT U (sinceT B.e)))) st B D) : Bd X Γ st B D := fun σ H e t => by
  obtain ⟨v, hv, hu⟩ := t.get j hj
  exact h σ H e (Typed.put (t.drop j) (List.getElem?_eq_some_iff.mp hj).1 hv ⟨hu, e.1⟩)
end RL

set_option Elab.async false
set_option linter.all false
set_option maxRecDepth 100000
set_option maxHeartbeats 8000000
/-! K03Y: _law_field, _law_why -/
namespace K03
open PySem PySem.Spec PyProof.Rows L2 RL LamX
section
variable {P : Program} {w : World} {K : PySem.W.Frag} {mg : Str → Option Value} {base : Heap}
theorem sc_field : FnScope ["_law_e"] ["_law_e"] (defScope s__law_field) := ⟨rfl, rfl, rfl, by decide +kernel, rfl, by decide +kernel, by decide +kernel⟩
theorem f_field (T : Tx fa fn ex K mg) : FldP P w K mg base 1 "_law_field" (He.ga K "InvalidNumber") "given" "InvalidNumber" := by
  obtain ⟨fd, F⟩ := T.def_ d__law_field i__law_field
  have e0 : d__law_field.dvs K = [] := rfl
  rw [e0] at F
  refine ⟨_, fd, ["_law_e"], T.glo _ q_glo__law_field, F.kp, F.bindsN fun _ _ _ _ _ _ us hl => match us, hl with | [_], _ => rfl, rfl, fun A outer s H args a dd oe y Q hr hpin hz hf e0 hb hh q => ?_⟩
  refine fld_run (N := ["_law_e"]) (ps := ["_law_e"]) F sc_field rfl (fun cdv A outer s H E a dd oe y hz hf nd D hD => ?_) hr hpin hz hf e0 hb hh q
  have O := exc T
  refine b_if (k := true) (g_inSL (y := "InvalidNumber") (zs := ["InvalidNumber", "InvalidLimit"]) (g_xtag List.mem_cons_self O hz hf (g_var 0)) (g_lst (ga_cons g_str (ga_cons g_str ga_nil)))) (fun _ => ?_) fun h => by cases h
  exact b_ret (T := valT y) (g_xfld List.mem_cons_self O hz hf (by decide) (by decide) (g_var (T := xcT a dd "given" "InvalidNumber" (valT y)) 0)) fun v H' ok hv => by
    have hv' : v = y := hv
    rw [hv']
    exact hD H' ok
theorem sc_why : FnScope NWhy ["_law_ask"] (defScope s__law_why) := ⟨rfl, rfl, rfl, by decide +kernel, rfl, by decide +kernel, by decide +kernel⟩
section
variable {X : Cx} {Γ : RL.Ctx} {Tv Tf R : RL.Ty} {c Pt : Addr} {kl : Nat} {params : Arguments} {scope : Scope} {body : Expr} {p pos lpos : Pos}
theorem g_why (T : Tx fa fn ex K mg) (hX : X.K = K ∧ X.mg = mg) (TB : TabB X.base X.mg c Pt) (hcode : X.env.code = .ref c) (hq : X.env.qual ++ "<lambda>" = lamNm) (hT : ∀ σ H, Typed σ Γ H → TabS H Pt lamNm)
    (hr : Room (kl + 2) X.A) (L : LamS X.env.scope scope) (hdef : defaultsOf params X.env = ([], [])) (hbind : ∀ (q : Str) (cl : List (Str × Addr)) (pm cv ctv : Value), bindArgs (PySem.W.kla_fn "<lambda>" q params body scope cl pm cv ctv) ⟨[], []⟩ = pure [])
    (hB : LamB X scope kl Γ body (He.ga X.K "InvalidNumber") "given" "InvalidNumber" Tv Tf) (hR1 : ∀ v H, tupT X.K [strT "", Tv] v H → R v H) (hR2 : ∀ v H, tupT X.K [strT "InvalidNumber", Tf] v H → R v H) (hg : Gl X "_law_why" := by rfl) :
    G X Γ (.Call (.Name "_law_why" p) [.Lambda params body scope lpos] [] pos) R := by
  obtain ⟨rfl, rfl⟩ := hX
  obtain ⟨fd, F⟩ := T.def_ d__law_why i__law_why
  have e0 : d__law_why.dvs X.K = [] := rfl
  rw [e0] at F
  have hx := (ex_parts T).2.2.2.2
  have FP : FldP X.prog X.w X.K X.mg X.base 1 "_law_field" (He.ga X.K "InvalidNumber") "given" "InvalidNumber" := f_field T
  have hr2 : Room 2 X.A := hr.mono (by omega)
  refine g_lamwhy (x := "_law_why") (T.glo _ q_glo__law_why) F (F.bindsN fun _ _ _ _ _ _ us hl => match us, hl with | [_], _ => rfl) sc_why (Or.inl rfl) (fun cdg => ?_) TB hcode hq hT hr L hdef hbind hB hR1 hR2 hg (by decide)
  exact why_gives (exc T) (by decide) FP hr2 rfl rfl rfl (T.glo _ q_glo_TimesError) (T.glo _ q_glo_Missing) (T.glo _ q_glo_NothingLeft) hx rfl rfl rfl
end
end
end K03

set_option Elab.async false
set_option linter.all false
set_option maxRecDepth 100000
set_option maxHeartbeats 4000000
/-! K03O: is_one; what the law is due -/
namespace K03
open PySem PySem.Spec PyProof.Rows L2 RL NM
def pD (q : Int × Int) : Dat := .tup [.int q.1, .int q.2]
def prD (l : NK) : Dat := .lst (l.map pD)
theorem prD_T {K : PySem.W.Frag} (l : NK) : datT K (prD l) = lstT (l.map fun q => tupT K [intT q.1, intT q.2]) := by
  unfold prD
  rw [datT_lst, List.map_map]
  refine congrArg lstT (List.map_congr_left fun q _ => ?_)
  show datT K (.tup [.int q.1, .int q.2]) = _
  rw [datT_tup]
  simp only [List.map_cons, List.map_nil, datT_int]
theorem prD_ok {l : NK} (h : l.length ≤ 100) : DatOk 2 (prD l) := .lst (by rw [List.length_map]; exact h) fun x hx => by
  obtain ⟨q, _, rfl⟩ := List.mem_map.mp hx
  refine .tup (by show 2 ≤ 100; decide) fun x hx => ?_
  simp only [List.mem_cons, List.not_mem_nil, or_false] at hx
  rcases hx with rfl | rfl <;> exact .int
theorem datT_two {K : PySem.W.Frag} (x y : Dat) : datT K (.tup [x, y]) = tupT K [datT K x, datT K y] := by
  rw [datT_tup]
  rfl
def endR (x : Str) : Dat := match readX x with
  | none => .tup [.str "InvalidNumber", .str x]
  | some l => .tup [.str "", prD l]
theorem endR_no {K : PySem.W.Frag} {x : Str} (h : readX x = none) : datT K (endR x) = tupT K [strT "InvalidNumber", strT x] := by
  unfold endR
  rw [h]
  simp only [datT_two, datT_str]
theorem endR_yes {K : PySem.W.Frag} {x : Str} {l : NK} (h : readX x = some l) : datT K (endR x) = tupT K [strT "", prT K l] := by
  unfold endR
  rw [h]
  simp only [datT_two, datT_str, prD_T]
theorem read_ok {x : Str} {l : NK} (h : readX x = some l) : RdOk l ∧ l.length = (wordsX x).length := by
  obtain ⟨h1, h2⟩ := rd_ok RdOk.nil h
  exact ⟨h1, by rw [h2, List.length_nil]; omega⟩
theorem endR_ok {x : Str} (hw : (wordsX x).length < 60) : DatOk 3 (endR x) := by
  unfold endR
  split
  · exact DatOk.mono (d := 1) (.tup (by simp) fun y hy => by
      simp only [List.mem_cons, List.not_mem_nil, or_false] at hy
      rcases hy with rfl | rfl
      · exact .str
      · exact .str) (by omega)
  · rename_i l h
    have := (read_ok h).2
    exact .tup (by simp) fun y hy => by
      simp only [List.mem_cons, List.not_mem_nil, or_false] at hy
      rcases hy with rfl | rfl
      · exact .str
      · exact prD_ok (by omega)
theorem cut_count (x : Str) (lo hi : Option Int) (c : Nat) : (TL.tl (cutS x lo hi)).count c ≤ (TL.tl x).count c := by
  unfold cutS
  show (((x.cps.toList.drop _).take _)).count c ≤ x.cps.toList.count c
  exact ((List.take_sublist _ _).trans (List.drop_sublist _ _)).count_le c
theorem words_few (x : Str) : (wordsX x).length ≤ (TL.tl x).count 42 + 1 := by
  unfold wordsX
  split
  · exact Nat.zero_le _
  · exact Nat.le_of_eq (split1_len star1 (by decide))
def signs16 : List Str := ["*", "^", "^1", "2", "0", " ", "-", "*2", "^0", "7*", "a", "1", "*1", "^02", "*1009", "9"]
theorem signs_ok : ∀ x ∈ signs16, x.length ≤ 5 ∧ (TL.tl x).count 42 ≤ 1 := by decide +kernel
def bentS (t : Str) (at_ : Int) (sg : Str) (b : Int) : Str := cutS t none (some at_) ++ sg ++ cutS t (some b) none
theorem bent_ok {l : NK} (hl : TxOk l) (h9 : l.length ≤ 9) {at_ b : Int} {sg : Str} (hs : sg ∈ signs16) : (bentS (textK l) at_ sg b).length ≤ 2000 ∧ (wordsX (bentS (textK l) at_ sg b)).length < 60 := by
  have h1 := text_len hl h9
  have h2 := words_text hl
  obtain ⟨h3, h4⟩ := signs_ok sg hs
  have h5 := cutS_length (textK l) none (some at_)
  have h6 := cutS_length (textK l) (some b) none
  have h7 := cut_count (textK l) none (some at_) 42
  have h8 := cut_count (textK l) (some b) none 42
  have h10 := words_few (bentS (textK l) at_ sg b)
  unfold bentS at *
  rw [TL.tl_append, TL.tl_append, List.count_append, List.count_append] at h10
  rw [str_len_app, str_len_app]
  omega
theorem text_rd {l : NK} (hl : TxOk l) (h9 : l.length ≤ 9) : (textK l).length ≤ 2000 ∧ (wordsX (textK l)).length < 60 := by
  have h1 := text_len hl h9
  have h2 := words_text hl
  have h10 := words_few (textK l)
  omega
section
variable {P : Program} {w : World} {K : PySem.W.Frag} {mg : Str → Option Value} {base : Heap}
theorem gt_resN {X : Cx} {Γ : RL.Ctx} {a : Expr} {pos p2 : Pos} {k : Nat} {o : Option NK} (h : G X Γ a (resT X.K o)) : GT X Γ (.Compare a [.Is] [.Constant .none k p2] pos) o.isNone := by
  cases o with
  | none => exact gt_isN1 h
  | some x => exact gt_isN0 h fun v H ⟨a, vs, e, _, _⟩ z => by rw [z] at e; cases e
theorem one_strS {l : List Str} {v : V} {H : Hp} (h : oneT (l.map fun z => strT z) v H) : exT (fun z : { z // z ∈ l } => strT z.1) v H := by
  obtain ⟨⟨i, hi⟩, hv⟩ := h
  have hi' : i < l.length := by simpa using hi
  exact ⟨⟨l[i], List.getElem_mem hi'⟩, by simpa using hv⟩
theorem sc_one : FnScope ["self"] ["self"] (defScope s_Number_is_one) := ⟨rfl, rfl, rfl, by decide +kernel, rfl, by decide +kernel, by decide +kernel⟩
theorem m_one (T : Tx fa fn ex K mg) (hs : ∀ d ∈ sd, d.ok K = true ∧ fnA K (d.adr K) = d.val) : PrG P w K mg base 1 (NamesC K numCs) "is_one" (spG (fun z : NK => [numT K z]) fun z => blT (decide ((z.length : Int) = 0))) := by
  have ok : ∀ (f : Addr) (fd : FuncData), FunD K "is_one" "Number.is_one" (defArgs s_Number_is_one) (defBody s_Number_is_one) (defScope s_Number_is_one) [] [] f fd → FnOk P w K mg base CX0 1 f fd ["self"] (spG (fun z : NK => [numT K z]) fun z => blT (decide ((z.length : Int) = 0))) := fun f fd F => by
    refine fn_G F sc_one (fun _ => rfl) fun z cdv Ar outer s H E hr nd D hD _ => ?_
    refine b_ret ((g_eqI (g_lenD (g_fld (g_var 0) (fld_powers T)) (T.free _ q_free_len)) g_int).is ?_) hD
    unfold kvN
    rw [List.length_map]
  refine ⟨?_⟩
  rintro C ⟨x, hx, rfl⟩
  simp only [numCs, List.mem_cons, List.not_mem_nil, or_false] at hx
  rcases hx with rfl | rfl
  · have h1 := hs sd_one (by simp [sd])
    obtain ⟨fd, F, p⟩ := StD.getP h1.2 h1.1
    exact ⟨_, _, fd, ok _ _ F, He.cls_ok (T.fact _ q_cls_Number), p, F.bindsN fun _ _ _ _ _ _ us hl => match us, hl with | [_], _ => rfl⟩
  · have h1 := hs sd_oneM (by simp [sd])
    obtain ⟨fd, F, p⟩ := StD.getP h1.2 h1.1
    exact ⟨_, _, fd, ok _ _ F, He.cls_ok (T.fact _ q_cls_MadeNumber), p, F.bindsN fun _ _ _ _ _ _ us hl => match us, hl with | [_], _ => rfl⟩
end
end K03

set_option Elab.async false
set_option linter.all false
set_option maxRecDepth 100000
set_option maxHeartbeats 8000000
/-! K03Z: the law -/
namespace K03
open PySem PySem.Spec PyProof.Rows L2 RL NM LamX
def odds : List Str := ["", "0", "4", "2*2", "3*2", "2^1", "2^", "^2", "2**3", "02", "2^01", "1*2", "1009", "2^" ++ repS "9" 31]
theorem odds_ok : ∀ x ∈ odds, readX x = none ∧ x.length ≤ 2000 ∧ (wordsX x).length < 60 := by decide +kernel
def topS : Str := "2^" ++ repS "9" 30
theorem top_ok : readX topS = some [(2, 10 ^ 30 - 1)] ∧ topS.length ≤ 2000 ∧ (wordsX topS).length < 60 := by decide +kernel
theorem one_ok : readX "1" = some [] ∧ ("1" : Str).length ≤ 2000 ∧ (wordsX "1").length < 60 := by decide +kernel
def oddP (x : Str) : PyData := .tuple [.str "InvalidNumber", .str x]
section
variable {P : Program} {w : World} {K : PySem.W.Frag} {mg : Str → Option Value} {base : Heap}
theorem oddP_dp : IsDp K (lstT (odds.map fun x => tupT K [strT "InvalidNumber", strT x])) (.list (odds.map oddP)) := dp_lst (areDp_map odds fun x _ => dp_tup (.cons dp_str (.cons dp_str .nil)))
abbrev NW : List Str := ["_law_script", "_law_bag_here", "_law_turn", "_law_powers", "_law_number", "_law_text_here", "_law_signs", "_law_at", "_law_sign", "_law_bent", "_law_due", "_law_told", "_law_odd", "_law_one"]
theorem sc_law : FnScope NW ["_law_script"] (defScope s_law) := ⟨rfl, rfl, rfl, by decide +kernel, rfl, by decide +kernel, by decide +kernel⟩
abbrev ptA (K : PySem.W.Frag) : Addr := (He.cT K ("law", none)).2
abbrev S0 (K : PySem.W.Frag) (ns : List Int) : RL.Ty := bothT (rlT K (ns.map fun z => intT z)) (tabT (ptA K))
theorem ok_law (T : Tx fa fn ex K mg) (hs : ∀ d ∈ sd, d.ok K = true ∧ fnA K (d.adr K) = d.val) (TB : TabB base mg (He.cT K ("law", none)).1 (ptA K)) {fd : FuncData} (F : FunD K d_law.name d_law.qual d_law.params d_law.body d_law.scope [] (d_law.kws K) (He.fAd K ("law", none)) fd) : FnOk P w K mg base CX0 8 (He.fAd K ("law", none)) fd ["_law_script"] (spG (fun ns : List Int => [S0 K ns]) fun _ => blT true) := by
  have FB : FnG P w K mg base 1 "_law_bag" ["_law_script"] _ := f_bag T
  have FT : FnG P w K mg base 1 "_law_take" ["_law_bag_here", "_law_many"] _ := f_take T
  have FO : FnG P w K mg base 2 "_law_of" ["_law_bag_here", "_law_things"] _ := f_of T
  have FW : FnG P w K mg base 3 "_law_some_powers" ["_law_bag_here", "_law_most", "_law_top"] _ := f_powers T
  have FM : FnG P w K mg base 5 "_law_made" ["_law_powers"] _ := f_made T
  have FX : FnG P w K mg base 1 "_law_text" ["_law_powers"] _ := f_ltext T
  have FL : FnG P w K mg base 3 "_law_number_in" ["_law_text_here"] _ := f_lin T
  have FA2 : FnG P w K mg base 3 "_law_alike" ["_law_found", "_law_due"] _ := f_alike T 2
  have FA3 : FnG P w K mg base 4 "_law_alike" ["_law_found", "_law_due"] _ := f_alike T 3
  have FR : StG P w K mg base 4 (He.ga K "Number") "read" ["text"] _ := f_read T (hs sd_read (by simp [sd]))
  have FP : MtG P w K mg base 1 (NamesC K numCs) "pairs" ["self"] _ := m_pairs T
  have FE : MtG P w K mg base 1 (NamesC K numCs) "exponent" ["self", "prime"] _ := m_exponent T
  have F1 : MtG P w K mg base 1 (NamesC K numCs) "text" ["self"] _ := m_text T
  have FI : PrG P w K mg base 1 (NamesC K numCs) "is_one" _ := m_one T hs
  have F2 : MtG P w K mg base 2 (NamesC K numCs) "__repr__" ["self"] _ := m_repr T
  refine fn_GC F sc_law (fun _ => rfl) fun ns Ar outer s H E hr nd D hD _ => ?_
  have hr5 := hr.mono (j := 5) (by decide)
  have hr4 := hr.mono (j := 4) (by decide)
  have hr3 := hr.mono (j := 3) (by decide)
  have hr2 := hr.mono (j := 2) (by decide)
  have hr1 := hr.mono (j := 1) (by decide)
  have hrange := T.free _ q_free_range
  have hNum : mg "Number" = some (.ref (He.ga K "Number")) := T.glo _ q_glo_Number
  refine b_asg 1 (g_call FB hr1 ns (ga_cons ((g_var (T := S0 K ns) 0).imp fun v H h => h.1) ga_nil)) ?_
  refine b_impS (T := S0 K ns) (U := tabT (ptA K)) 0 rfl (fun v H h => h.2) ?_
  refine b_for (g := gName 2) (fun i Δ => ∃ u2, Δ = [some (tabT (ptA K)), some bagT, u2, none, none, none, none, none, none, none, none, none, none, none]) (gi_rng1 g_int hrange) (pg_name nd rfl (Or.inl rfl)) ⟨none, rfl⟩ (fun H1 i T1 Δ b1 hT hΔ => ?_) fun Δ hΔ => ?_
  · obtain ⟨u2, rfl⟩ := hΔ
    refine ⟨_, tgt_name, ?_⟩
    refine b_forget 2 ?_
    change Bd _ [some (tabT (ptA K)), some bagT, none, none, none, none, none, none, none, none, none, none, none, none] _ _ _
    refine b_asgX (F := fun l : Pows => dicT (kvN l.1)) 3 (g_callE (Ts := [bagT, intT 6, oneT (([1, 3, 1000000000000000000] : List Int).map fun z => intT z)]) (fun _ => True) FW hr3 (ga_cons (g_var 1) (ga_cons g_int (ga_cons ?_ ga_nil))) (fun vs H h => ?_) fun i _ v H h => h) fun l => ?_
    · exact g_call FO hr2 ⟨([1, 3, 1000000000000000000] : List Int).map fun z => intT z, by decide, by decide⟩ (ga_cons (g_var 1) (ga_cons (g_lst (Ts := ([1, 3, 1000000000000000000] : List Int).map fun z => intT z) (ga_cons g_int (ga_cons g_int (ga_cons ((g_pow (i := 10) (j := 18) g_int g_int ⟨by decide, by decide, by decide⟩).is (by rw [show (10 : Int) ^ (18 : Int).toNat = 1000000000000000000 from by decide])) ga_nil))) (hl := by show 3 ≤ sizeLine; decide)) ga_nil))
    · obtain ⟨v0, v1, v2, rfl, h0, h1, h2⟩ := all2_3 h
      obtain ⟨⟨n, hn⟩, h2⟩ := one_in (p := fun i => 0 < i ∧ i < 2 ^ 99) (by decide) h2
      exact ⟨(6, ⟨n, hn⟩), ⟨h0, h1, h2, trivial⟩, trivial⟩
    obtain ⟨l, pw⟩ := l
    have hl : TxOk l := ⟨pw.ok.asc, fun q hq => ⟨pw.ok.pr q hq, pw.ok.pos q hq, pw.low q hq⟩⟩
    have h9 : l.length ≤ 9 := pw.few
    have htl := text_len hl h9
    obtain ⟨tr1, tr2⟩ := text_rd hl h9
    have small : ∀ {n : Nat}, n ≤ 10000 → n ≤ sizeLine := fun h => Nat.le_trans h (by decide)
    have hcm : CmpN l := ⟨pw.ok.canon, by omega⟩
    refine b_par2 4 5 (T := numT K l) (U := strT (textK l)) (g_call FM hr5 ⟨l, pw.ok⟩ (ga_cons (g_var (T := dicT (kvN l)) 3) ga_nil)) (g_call FX hr1 ⟨l, hl, h9⟩ (ga_cons (g_var (T := dicT (kvN l)) 3) ga_nil)) ?_
    change Bd _ [some (tabT (ptA K)), some bagT, none, some (dicT (kvN l)), some (numT K l), some (strT (textK l)), none, none, none, none, none, none, none, none] _ _ _
    have hd0 : datT K (.lst [.str (textK l), .str (reprK l)]) = lstT [strT (textK l), strT (reprK l)] := by
      rw [datT_lst]
      simp only [List.map_cons, List.map_nil, datT_str]
    have two : 2 ≤ sizeLine := by decide
    have e7 : ("Number(" : Str).length = 7 := by decide +kernel
    have e1 : (")" : Str).length = 1 := by decide +kernel
    refine b_if (k := false) (gt_not (k := true) (gt_bl (g_call FA2 hr3 ⟨.lst [.str (textK l), .str (reprK l)], DatOk.mono (d := 1) (.lst (by simp) fun y hy => by
      simp only [List.mem_cons, List.not_mem_nil, or_false] at hy
      rcases hy with rfl | rfl
      · exact .str
      · exact .str) (by decide)⟩ (ga_cons (T := datT K (.lst [.str (textK l), .str (reprK l)])) ?_ (ga_cons (T := datT K (.lst [.str (textK l), .str (reprK l)])) ?_ ga_nil))))) (fun h => by cases h) fun _ => b_skip ?_
    · rw [hd0]
      exact g_lst (ga_cons (g_meth0 F1 hr1 ⟨l, hl, h9⟩ (g_var (T := numT K l) 4) fun v H h => num_of (by decide +kernel) h) (ga_cons (g_reprO (y := fun z : TxL => reprK z.1) F2 hr3 ⟨l, hl, h9⟩ (g_var (T := numT K l) 4) (T.free _ q_free_repr) fun v H h => num_any h) ga_nil)) (hl := two)
    · rw [hd0]
      exact g_lst (ga_cons (g_var (T := strT (textK l)) 5) (ga_cons (g_addS (g_addS g_str (g_var (T := strT (textK l)) 5) (small (by omega))) g_str (small (by rw [str_len_app]; omega))) ga_nil)) (hl := two)
    refine b_if (k := false) (gt_or2 (k := false) (l := false) (GT.is (gt_neN T ⟨rfl, rfl⟩ hr3 hcm hcm (g_statR FR hr4 (⟨textK l, tr1, tr2⟩ : RdI) (outR_some (read_text hl)) hNum (ga_cons (g_var (T := strT (textK l)) 5) ga_nil)) (g_var (T := numT K l) 4)) (by simp)) fun _ => gt_not (k := true) (gt_bl (g_call FA2 hr3 ⟨prD l, prD_ok (by omega)⟩ (ga_cons (T := datT K (prD l)) ?_ (ga_cons (T := datT K (prD l)) ?_ ga_nil))))) (fun h => by cases h) fun _ => b_skip ?_
    · rw [prD_T]
      exact g_meth0 FP hr1 ⟨l, hcm⟩ (g_statR FR hr4 (⟨textK l, tr1, tr2⟩ : RdI) (outR_some (read_text hl)) hNum (ga_cons (g_var (T := strT (textK l)) 5) ga_nil)) fun v H h => num_of (by decide +kernel) h
    · rw [prD_T]
      exact g_meth0 FP hr1 ⟨l, hcm⟩ (g_var (T := numT K l) 4) fun v H h => num_of (by decide +kernel) h
    refine b_asg 6 (T := lstT (signs16.map fun z => strT z)) (g_lst (Ts := signs16.map fun z => strT z) (ga_cons g_str (ga_cons g_str (ga_cons g_str (ga_cons g_str (ga_cons g_str (ga_cons g_str (ga_cons g_str (ga_cons g_str (ga_cons g_str (ga_cons g_str (ga_cons g_str (ga_cons g_str (ga_cons g_str (ga_cons g_str (ga_cons g_str (ga_cons g_str ga_nil)))))))))))))))) (hl := by show 16 ≤ sizeLine; decide)) ?_
    refine b_par2 7 8 (T := choT (((textK l).length : Int) + 1)) (U := exT fun z : { z // z ∈ signs16 } => strT z.1) (g_call FT hr1 ⟨((textK l).length : Int) + 1, by omega, by
      have : (1000 : Int) < 2 ^ 100 := by decide
      omega⟩ (ga_cons (g_var 1) (ga_cons (g_add (g_lenS (g_var (T := strT (textK l)) 5) (small (by omega)) (T.free _ q_free_len)) g_int) ga_nil))) ((g_call FO hr2 ⟨signs16.map fun z => strT z, by show 0 < 16; decide, by show 16 < 1000; decide⟩ (ga_cons (g_var 1) (ga_cons (g_var (T := lstT (signs16.map fun z => strT z)) 6) ga_nil))).imp fun v H h => one_strS h) ?_
    refine b_openS (F := fun r : Below (((textK l).length : Int) + 1) => intT r.1) 7 rfl fun at_ => ?_
    refine b_openS (F := fun z : { z // z ∈ signs16 } => strT z.1) 8 rfl fun sg => ?_
    obtain ⟨at_, ha0, ha1⟩ := at_
    obtain ⟨sg, hsg⟩ := sg
    change Bd _ [some (tabT (ptA K)), some bagT, none, some (dicT (kvN l)), some (numT K l), some (strT (textK l)), some (lstT (signs16.map fun z => strT z)), some (intT at_), some (strT sg), none, none, none, none, none] _ _ _
    have hsl := (signs_ok sg hsg).1
    have hcl := cutS_length (textK l) none (some at_)
    refine b_asgX (F := fun z : { i : Int // True } => strT (bentS (textK l) at_ sg z.1)) 9 (g_addSX (y := cutS (textK l) none (some at_) ++ sg) (f := fun z : { i : Int // True } => cutS (textK l) (some z.1) none) (g_addS (g_cutToS (g_var (T := strT (textK l)) 5) (g_var (T := intT at_) 7) (small (by omega))) (g_var (T := strT sg) 8) (small (by omega))) (g_cutFromSX (n := fun z : { i : Int // True } => z.1) (g_var (T := strT (textK l)) 5) (gx_add (p := fun _ => True) (q := fun i => 0 ≤ i ∧ i < 2) ((g_var (T := intT at_) 7).ofI trivial) (g_call FT hr1 ⟨2, by decide⟩ (ga_cons (g_var 1) (ga_cons g_int ga_nil))) fun _ _ _ _ => trivial) (small (by omega))) fun z => (by
      have := cutS_length (textK l) (some z.1) none
      rw [str_len_app]
      exact small (by omega))) fun b => ?_
    obtain ⟨b, _⟩ := b
    obtain ⟨br1, br2⟩ := bent_ok hl h9 (at_ := at_) (b := b) hsg
    change Bd _ [some (tabT (ptA K)), some bagT, none, some (dicT (kvN l)), some (numT K l), some (strT (textK l)), some (lstT (signs16.map fun z => strT z)), some (intT at_), some (strT sg), some (strT (bentS (textK l) at_ sg b)), none, none, none, none] _ _ _
    generalize bentS (textK l) at_ sg b = x at br1 br2
    refine b_asg 10 (T := resT K (readX x)) (g_call FL hr3 ⟨x, br1, br2⟩ (ga_cons (g_var (T := strT x) 9) ga_nil)) ?_
    refine b_asg 11 (T := datT K (endR x)) ?_ ?_
    · cases hb : readX x with
      | none =>
        rw [endR_no hb]
        refine g_why (Tv := falseT) (Tf := strT x) (kl := 4) T ⟨rfl, rfl⟩ TB rfl rfl (fun σ H t => ?_) (hr.mono (by decide)) (lamS_by (sc := defScope s_law) (by decide +kernel)) rfl (fun _ _ _ _ _ => rfl) (lamB_of 0 (tabT (ptA K)) rfl fun A outer s H0 E f c' H1 W hr' tk hw => ?_) (fun v H h => ?_) fun v H h => h
        · obtain ⟨v, hv, h0⟩ := t.get 0 rfl
          exact h0
        · exact g_meth0F (g_statX FR hr' (⟨x, br1, br2⟩ : RdI) (outR_none hb) tk (fun σ H t σ' dd y H' e hh hy => by
            obtain ⟨v, hv, h0⟩ := t.get 0 rfl
            exact hw σ' dd y H' (h0.2.trans e) hh hy) hNum (ga_cons (g_var (T := strT x) 9) ga_nil))
        · obtain ⟨a, vs, _, _, h3⟩ := h
          obtain ⟨v0, v1, rfl, _, h4⟩ := all2_2 h3
          exact h4.elim
      | some m =>
        rw [endR_yes hb]
        obtain ⟨m1, m2⟩ := read_ok hb
        refine g_why (Tv := prT K m) (Tf := falseT) (kl := 4) T ⟨rfl, rfl⟩ TB rfl rfl (fun σ H t => ?_) (hr.mono (by decide)) (lamS_by (sc := defScope s_law) (by decide +kernel)) rfl (fun _ _ _ _ _ => rfl) (lamB_of 0 (tabT (ptA K)) rfl fun A outer s H0 E f c' H1 W hr' tk hw => ?_) (fun v H h => h) fun v H h => ?_
        · obtain ⟨v, hv, h0⟩ := t.get 0 rfl
          exact h0
        · exact g_meth0 FP (hr'.mono (j := 1) (by decide)) ⟨m, m1.canon, by omega⟩ (g_statR FR hr' (⟨x, br1, br2⟩ : RdI) (outR_some hb) hNum (ga_cons (g_var (T := strT x) 9) ga_nil)) (fun v H h => num_of (by decide +kernel) h)
        · obtain ⟨a, vs, _, _, h3⟩ := h
          obtain ⟨v0, v1, rfl, _, h4⟩ := all2_2 h3
          exact h4.elim
    · change Bd _ [some (tabT (ptA K)), some bagT, none, some (dicT (kvN l)), some (numT K l), some (strT (textK l)), some (lstT (signs16.map fun z => strT z)), some (intT at_), some (strT sg), some (strT x), some (resT K (readX x)), some (datT K (endR x)), none, none] _ _ _
      refine b_if (k := false) (gt_not (k := true) (gt_bl (g_call FA3 hr4 ⟨endR x, endR_ok br2⟩ (ga_cons (T := datT K (endR x)) (g_var (T := datT K (endR x)) 11) (ga_cons (T := datT K (endR x)) ?_ ga_nil))))) (fun h => by cases h) fun _ => b_skip ?_
      · refine g_ite (k := (readX x).isNone) (gt_resN (g_var (T := resT K (readX x)) 10)) (fun h => ?_) fun h => ?_
        · have hb : readX x = none := by cases hb : readX x with | none => rfl | some m => rw [hb] at h; cases h
          rw [endR_no hb]
          exact g_tup (ga_cons g_str (ga_cons (g_var (T := strT x) 9) ga_nil)) (hl := two)
        · obtain ⟨m, hb⟩ : ∃ m, readX x = some m := by cases hb : readX x with | none => rw [hb] at h; cases h | some m => exact ⟨m, rfl⟩
          rw [endR_yes hb, hb]
          exact g_tup (ga_cons g_str (ga_cons (g_var (T := prT K m) 10) ga_nil)) (hl := two)
      · refine b_forget 3 (b_forget 4 (b_forget 5 (b_forget 6 (b_forget 7 (b_forget 8 (b_forget 9 (b_forget 10 (b_forget 11 ?_))))))))
        refine turn_nx ?_
        exact ⟨none, rfl⟩
  · obtain ⟨u2, rfl⟩ := hΔ
    refine b_forget 2 ?_
    have ho := odds_ok
    refine b_asg 12 (T := lstT (odds.map fun z => strT z)) (g_lst (Ts := odds.map fun z => strT z) (ga_cons g_str (ga_cons g_str (ga_cons g_str (ga_cons g_str (ga_cons g_str (ga_cons g_str (ga_cons g_str (ga_cons g_str (ga_cons g_str (ga_cons g_str (ga_cons g_str (ga_cons g_str (ga_cons g_str (ga_cons (g_addS g_str (g_mulS g_str g_int) (by decide +kernel)) ga_nil)))))))))))))) (hl := by show 14 ≤ sizeLine; decide)) ?_
    change Bd _ [some (tabT (ptA K)), some bagT, none, none, none, none, none, none, none, none, none, none, some (lstT (odds.map fun z => strT z)), none] _ _ _
    refine b_if (k := !PyData.eqv (.list (odds.map oddP)) (.list (odds.map oddP))) (gt_neD (room64 hr1) (T := lstT (odds.map fun x => tupT K [strT "InvalidNumber", strT x])) (U := lstT (odds.map fun x => tupT K [strT "InvalidNumber", strT x])) ?_ ?_ oddP_dp oddP_dp (by decide +kernel) (by decide +kernel)) (fun h => absurd h (by decide +kernel)) fun _ => b_skip ?_
    · refine g_lc (T' := lstT (odds.map fun x => tupT K [strT "InvalidNumber", strT x])) (g := gName 13) (own := [("_law_one", 13)]) (odds.map fun x => some (tupT K [strT "InvalidNumber", strT x])) (gi_list (g_var (T := lstT (odds.map fun z => strT z)) 12)) ?_ ?_ ?_ ?_ ?_ ?_ own_name ?_
      · first | exact blkOk_by rfl | exact blkOk_by (by decide +kernel)
      · exact fun _ _ _ _ _ => pg_name nd rfl (Or.inr rfl)
      · rw [List.length_map, List.length_map]
      · rw [List.length_map]; show 14 ≤ sizeLine; decide
      rotate_left
      · intro R hR
        obtain ⟨x, _, e⟩ := List.mem_map.mp hR
        cases e
        infer_instance
      · unfold keptT
        rw [kept_all]
      intro j T3 hT3
      rw [List.getElem?_map] at hT3
      cases hp : odds[j]? with
      | none => rw [hp] at hT3; cases hT3
      | some x =>
      rw [hp] at hT3
      cases hT3
      have hx : x ∈ odds := List.mem_of_getElem? hp
      refine ⟨_, tgt_name, .inr ⟨tupT K [strT "InvalidNumber", strT x], by rw [List.getElem?_map, hp]; rfl, gct_nil, fun s2 H2 C cl fp => ?_⟩⟩
      obtain ⟨x1, x2, x3⟩ := odds_ok x hx
      refine g_why (Tv := falseT) (Tf := strT x) (kl := 4) T ⟨rfl, rfl⟩ TB rfl rfl (fun σ H t => ?_) (hr.mono (by decide)) (lamS_by (by first | rfl | (show lamSB (relabel _ _) _ = true; rfl))) rfl (fun _ _ _ _ _ => rfl) (lamB_of 0 (tabT (ptA K)) rfl fun A outer s H0 E f c' H1 W hr' tk hw => ?_) (fun v H h => ?_) fun v H h => h
      · obtain ⟨v, hv, h0⟩ := t.get 0 rfl
        exact h0
      · exact g_statX FR hr' ⟨x, x2, x3⟩ (outR_none x1) tk (fun σ H t σ' dd y H' e hh hy => by
          obtain ⟨v, hv, h0⟩ := t.get 0 rfl
          exact hw σ' dd y H' (h0.2.trans e) hh hy) hNum (ga_cons (g_var (T := strT x) 13) ga_nil)
      · obtain ⟨a, vs, _, _, h3⟩ := h
        obtain ⟨v0, v1, rfl, _, h4⟩ := all2_2 h3
        exact h4.elim
    · exact g_lcM (i := 13) odds (fun z => strT z) (fun x => tupT K [strT "InvalidNumber", strT x]) (gi_list (g_var (T := lstT (odds.map fun z => strT z)) 12)) (by show 14 ≤ sizeLine; decide) (fun x hx s2 H2 C cl fp => g_tup (ga_cons g_str (ga_cons (g_var (T := strT x) 13) ga_nil)) (hl := by show 2 ≤ sizeLine; decide))
    · refine b_ret (T := blT true) (G.is (g_and2 (k := true) (l := true) (G.is (g_eqI (i := 10 ^ 30 - 1) (j := 10 ^ 30 - 1) (G.is (g_meth FE hr1 ([(2, 10 ^ 30 - 1)], 2) (g_statR FR hr4 (⟨topS, top_ok.2⟩ : RdI) (outR_some top_ok.1) hNum (ga_cons (T := strT topS) (g_addS g_str (g_mulS g_str g_int) (by decide +kernel)) ga_nil)) (ga_cons g_int ga_nil) fun v H h => num_of (by decide +kernel) h) (congrArg (fun z => intT z) (by decide +kernel))) (G.is (g_sub (g_pow (i := 10) (j := 30) g_int g_int ⟨by decide, by decide, by decide⟩) g_int) (congrArg (fun z => intT z) (by decide +kernel)))) (by simp)) fun _ => G.is (g_prop FI hr2 ([] : NK) (g_statR FR hr4 (⟨"1", one_ok.2⟩ : RdI) (outR_some one_ok.1) hNum (ga_cons (T := strT "1") g_str ga_nil)) fun v H h => num_any h) rfl) rfl) hD
end
end K03

set_option Elab.async false
set_option linter.all false
set_option maxRecDepth 100000
set_option maxHeartbeats 0
namespace K03
open PySem PySem.Spec PyProof.Rows L2 RL LamX
theorem facts {P : Program} {w : World} {K : PySem.W.Frag} {h : Heap} {mg : Str → Option Value} {f : Addr} (X : K.In h) (G : h.Ns mainGlobals mg) (hfa : mg ("law" : Str) = some (.ref f)) (c : SaysY fa fn ts tf ex sd w h K) :
    ∃ fd : FuncData, (∀ (s : Shared) (v : Value), BindsTo s fd ⟨[v], []⟩ [("_law_script", v)]) ∧ ∀ base : Heap, K.In base → base.Ns mainGlobals mg → TabB base mg (He.cT K ("law", none)).1 (ptA K) → FnOk P w K mg base CX0 8 f fd ["_law_script"] (spG (fun ns : List Int => [S0 K ns]) fun _ => blT true) := by
  have T : Tx fa fn ex K mg := c.tx X G
  obtain ⟨fd, F⟩ := T.def_ d_law i_law
  have e0 : d_law.dvs K = [] := rfl
  rw [e0] at F
  have e1 : He.fAd K d_law.at_ = He.ga K "law" := rfl
  have e2 : He.fAd K ("law", none) = He.ga K "law" := rfl
  have e := hfa.symm.trans (T.glo _ q_glo_law)
  have b := FunD.bindsA (ps := ["_law_script"]) F fun _ _ _ _ _ _ us hl => match us, hl with | [_], _ => rfl
  have ef : f = He.ga K "law" := by cases e; rfl
  refine ⟨fd, fun s v => b s [v] rfl, fun base _ _ TB => ?_⟩
  rw [ef]
  exact ok_law T c.st TB F
theorem htf : (("law", none) : He.Defn) ∈ tf := List.mem_singleton.mpr rfl
end K03
open PySem PySem.W PySem.Calls PyProof.Rows
theorem PySem.Challenge.cw_timesalone_k03_texts_of_numbers_holds : PySem.Challenge.rw_timesalone_k03_texts_of_numbers.Holds := by
  w_on; o_law
  refine HandSHeadRun.head_any (r := OpenLaw.row PySem.Challenge.rw_timesalone_k03_texts_of_numbers) (q := view (OpenLaw.row PySem.Challenge.rw_timesalone_k03_texts_of_numbers).prog [33]) (H := K03.hk) (ob := K03.ob) (M := 20000) (loose := K03.loose) (d := HandSHeadRun.topDef (OpenLaw.row PySem.Challenge.rw_timesalone_k03_texts_of_numbers).prog 33) (kwd := []) K03.ob_eq
    (by kernel_rfl) (fun s => by kernel_rfl) K03.run (by kernel_rfl) (by kernel_rfl) (by kernel_rfl) (by rfl) (by first | assumption | decide +kernel) (by decide +kernel) ⟨rfl, rfl, rfl, rfl, rfl, by decide +kernel⟩ ?hw ?hc
  case hw => w_witness2
  case hc =>
    refine LamX.walk_ofTsE (l := PySem.Challenge.rw_timesalone_k03_texts_of_numbers) (n := 63) (k := 8) (x := "_law_script") (CX := fun _ => L2.CX0) rfl (by decide) (by kernel_rfl) ⟨rfl, by decide, by decide⟩ ?F (fun _ _ _ _ _ z => z)
    intro w mg fa h Y G hmg0
    obtain ⟨K, KX, c⟩ := Y
    have hmg : mg ("law" : PySem.Str) = some (.ref fa) := by
      have e : (HandSHeadRun.topDef (OpenLaw.row PySem.Challenge.rw_timesalone_k03_texts_of_numbers).prog 33).name = ("law" : PySem.Str) := by kernel_rfl
      rw [← e]
      exact hmg0
    obtain ⟨fd, hb, hF⟩ := K03.facts (P := (PySem.Challenge.rw_timesalone_k03_texts_of_numbers).prog) (w := w) KX G hmg c
    refine ⟨K, KX, fd, [He.cT K ("law", none)], _, ?_, ?_, ?_, hb, fun H a ns hl _ hC hS => ⟨ns, ⟨⟨⟨a, ns.map L2.V.int, rfl, hS, ?_⟩, LamX.TabS.nil (hC _ List.mem_cons_self)⟩, trivial⟩, fun v H' _ hv => hv⟩, fun base hk hn hT => hF base hk hn (hT _ List.mem_cons_self)⟩
    · intro p hp
      rw [List.mem_singleton.mp hp]
      exact c.empty _ K03.htf
    · intro p hp
      rw [List.mem_singleton.mp hp]
      exact c.out _ K03.htf
    · intro p hp
      rw [List.mem_singleton.mp hp]
      exact PySem.W.codeHd_of_K KX (c.hd _ K03.htf)
    · have z := RL.All2.of_vals (H := H) (ws := ns.map L2.V.int)
      rwa [List.map_map] at z
