import PyProof.Rows.All
import HandS.ForMost
import HandS.Evl
import HandS.Exc
import HandS.ExcOwn
import HandS.TryOnly
import HandS.Wide
import HandS.IsInst
import HandS.TupAny
import HandS.HeadHook1
import HandS.Style
import HandS.WordsExc
import HandS.Gcd
import HandS.Defaults
import HandS.HeadHook2
import HandS.Head2
import HandS.HeadEnd
import HandS.CallSlots
import HandS.Small
import HandS.MakeKw
import HandS.ExcIs
import HandS.HotCalls
import KE.KExcIs
import HandS.ExcField
import HandS.Text
import HandS.TupMul
import HandS.Iter
import KE.GoesMore
import HandS.ExcInit
import PyProof.ListCopy
import HandS.Head3
import HandS.Codes
import PyProof.Rows.StrDigitsNeg
import PySem.Challenge.RW_printstacks_k03_texts_read_to_items_with
set_option Elab.async false
set_option linter.all false
section
set_option maxRecDepth 100000
set_option maxHeartbeats 2000000
/-! A data layer over HandS: values as plain data, a body as a function on environments. -/
namespace DL
open PySem L2
open Evl (Ex)

/-- plain data: shared things, an owned list (own), a borrowed one (bor), an alias of a slot's own object (al) -/
inductive D where
  | non | bl (b : Bool) | int (i : Int) | str (s : Str) | ty (n : String) | ref (a : Addr)
  | tup (xs : List D) | lst (xs : List D) | klst (xs : List D) | own (xs : List D) | bor (xs : List D) | al (i : Nat)

abbrev Env := List (Option D)
structure Exn where
  cls : Str
  fs : List (Str × D)
inductive Rs (α : Type) where
  | ok (a : α) (e : Env)
  | ex (x : Exn) (e : Env)
  | no
abbrev M (α : Type) := Env → Rs α
def Rs.bind {α β : Type} (r : Rs α) (f : α → M β) : Rs β := match r with
  | .ok a e => f a e
  | .ex x e => .ex x e
  | .no => .no

mutual
inductive Sh (K : PySem.W.Frag) (B : Hp) : D → V → Prop
  | non : Sh K B .non .non
  | bl (b : Bool) : Sh K B (.bl b) (.bl b)
  | int (i : Int) : Sh K B (.int i) (.int i)
  | str (s : Str) : Sh K B (.str s) (.str s)
  | ty (n : String) : Sh K B (.ty n) (.ty n)
  | ref (a : Addr) : Sh K B (.ref a) (.ref a)
  | tup {a : Addr} {vs : List V} {ds : List D} (h : SqT K B a vs) (r : Shs K B ds vs) : Sh K B (.tup ds) (.ref a)
  | lst {a : Addr} {vs : List V} {ds : List D} (h : B a = some (.lst vs)) (r : Shs K B ds vs) : Sh K B (.lst ds) (.ref a)
  | klst {a : Addr} {vs : List V} {ds : List D} (h : SqL K B a vs) (r : Shs K B ds vs) : Sh K B (.klst ds) (.ref a)
inductive Shs (K : PySem.W.Frag) (B : Hp) : List D → List V → Prop
  | nil : Shs K B [] []
  | cons {d : D} {v : V} {ds : List D} {vs : List V} (h : Sh K B d v) (r : Shs K B ds vs) : Shs K B (d :: ds) (v :: vs)
end

mutual
inductive Ow (K : PySem.W.Frag) (B H : Hp) : D → V → List Addr → Prop
  | sh {d : D} {v : V} (h : Sh K B d v) : Ow K B H d v []
  | own {a : Addr} {vs : List V} {ds : List D} {F : List Addr} (h : H a = some (.lst vs)) (n : B a = none) (r : Ows K B H ds vs F) : Ow K B H (.own ds) (.ref a) (a :: F)
  | bor {a : Addr} {vs : List V} {ds : List D} {F : List Addr} (h : H a = some (.lst vs)) (n : B a = none) (r : Ows K B H ds vs F) : Ow K B H (.bor ds) (.ref a) (a :: F)
  | exc (i : Nat) (a : Addr) : Ow K B H (.al i) (.ref a) []
inductive Ows (K : PySem.W.Frag) (B H : Hp) : List D → List V → List Addr → Prop
  | nil : Ows K B H [] [] []
  | cons {d : D} {v : V} {ds : List D} {vs : List V} {F G FG : List Addr} (h : Ow K B H d v F) (r : Ows K B H ds vs G) (e : FG = F ++ G) : Ows K B H (d :: ds) (v :: vs) FG
end

section
variable {K : PySem.W.Frag} {B B' H H' : Hp}
mutual
theorem Sh.mono (e : Ex B B') : ∀ {d : D} {v : V}, Sh K B d v → Sh K B' d v
  | _, _, .non => .non
  | _, _, .bl b => .bl b
  | _, _, .int i => .int i
  | _, _, .str s => .str s
  | _, _, .ty n => .ty n
  | _, _, .ref a => .ref a
  | _, _, .tup h r => .tup (Evl.ex_t e h) (Shs.mono e r)
  | _, _, .lst h r => .lst (e _ _ h) (Shs.mono e r)
  | _, _, .klst h r => .klst (Evl.ex_l e h) (Shs.mono e r)
theorem Shs.mono (e : Ex B B') : ∀ {ds : List D} {vs : List V}, Shs K B ds vs → Shs K B' ds vs
  | _, _, .nil => .nil
  | _, _, .cons h r => .cons (Sh.mono e h) (Shs.mono e r)
end
mutual
theorem Ow.mono (e : Ex B B') : ∀ {d : D} {v : V} {F : List Addr}, Ow K B H d v F → (∀ a ∈ F, B' a = none) → (∀ a ∈ F, ∀ o, H a = some o → H' a = some o) → Ow K B' H' d v F
  | _, _, _, .sh h, _, _ => .sh (h.mono e)
  | _, _, _, .own h n r, hb, hh => .own (hh _ List.mem_cons_self _ h) (hb _ List.mem_cons_self) (Ows.mono e r (fun a m => hb a (List.mem_cons_of_mem _ m)) fun a m => hh a (List.mem_cons_of_mem _ m))
  | _, _, _, .bor h n r, hb, hh => .bor (hh _ List.mem_cons_self _ h) (hb _ List.mem_cons_self) (Ows.mono e r (fun a m => hb a (List.mem_cons_of_mem _ m)) fun a m => hh a (List.mem_cons_of_mem _ m))
  | _, _, _, .exc i a, _, _ => .exc i a
theorem Ows.mono (e : Ex B B') : ∀ {ds : List D} {vs : List V} {F : List Addr}, Ows K B H ds vs F → (∀ a ∈ F, B' a = none) → (∀ a ∈ F, ∀ o, H a = some o → H' a = some o) → Ows K B' H' ds vs F
  | _, _, _, .nil, _, _ => .nil
  | _, _, _, .cons h r q, hb, hh => by
    subst q
    exact .cons (Ow.mono e h (fun a m => hb a (List.mem_append_left _ m)) fun a m => hh a (List.mem_append_left _ m)) (Ows.mono e r (fun a m => hb a (List.mem_append_right _ m)) fun a m => hh a (List.mem_append_right _ m)) rfl
end
mutual
/-- what is owned is not shared, and stands -/
theorem Ow.free : ∀ {d : D} {v : V} {F : List Addr}, Ow K B H d v F → ∀ a ∈ F, B a = none ∧ H a ≠ none
  | _, _, _, .sh h, _, m => nomatch m
  | _, _, _, .exc _ _, _, m => nomatch m
  | _, _, _, .own h n r, a, m => by
    rcases List.mem_cons.mp m with e | m
    · subst e
      exact ⟨n, by rw [h]; exact fun z => nomatch z⟩
    · exact Ows.free r a m
  | _, _, _, .bor h n r, a, m => by
    rcases List.mem_cons.mp m with e | m
    · subst e
      exact ⟨n, by rw [h]; exact fun z => nomatch z⟩
    · exact Ows.free r a m
theorem Ows.free : ∀ {ds : List D} {vs : List V} {F : List Addr}, Ows K B H ds vs F → ∀ a ∈ F, B a = none ∧ H a ≠ none
  | _, _, _, .nil, _, m => nomatch m
  | _, _, _, .cons h r q, a, m => by
    subst q
    rcases List.mem_append.mp m with m | m
    · exact Ow.free h a m
    · exact Ows.free r a m
end
theorem Ow.inv {d : D} {v : V} {F : List Addr} (h : Ow K B H d v F) : match d with
    | .own ds => ∃ a vs G, v = .ref a ∧ F = a :: G ∧ H a = some (.lst vs) ∧ B a = none ∧ Ows K B H ds vs G
    | .bor ds => ∃ a vs G, v = .ref a ∧ F = a :: G ∧ H a = some (.lst vs) ∧ B a = none ∧ Ows K B H ds vs G
    | .al _ => F = []
    | d => Sh K B d v ∧ F = [] := by
  cases h with
  | exc i a => exact rfl
  | own h n r => exact ⟨_, _, _, rfl, rfl, h, n, r⟩
  | bor h n r => exact ⟨_, _, _, rfl, rfl, h, n, r⟩
  | sh h => cases d <;> first | exact ⟨h, rfl⟩ | cases h
theorem Shs.length : ∀ {ds : List D} {vs : List V}, Shs K B ds vs → ds.length = vs.length
  | _, _, .nil => rfl
  | _, _, .cons _ r => congrArg Nat.succ (Shs.length r)
theorem Shs.get : ∀ {ds : List D} {vs : List V} {i : Nat} {d : D}, Shs K B ds vs → ds[i]? = some d → ∃ v, vs[i]? = some v ∧ Sh K B d v
  | _, _, _, _, .nil, e => by simp at e
  | _, _, 0, _, .cons h _, e => by simp at e; subst e; exact ⟨_, rfl, h⟩
  | _, _, i + 1, _, .cons _ r, e => by
    obtain ⟨v, h1, h2⟩ := Shs.get (i := i) r (by simpa using e)
    exact ⟨v, by simpa using h1, h2⟩
theorem Shs.append : ∀ {ds es : List D} {vs us : List V}, Shs K B ds vs → Shs K B es us → Shs K B (ds ++ es) (vs ++ us)
  | _, _, _, _, .nil, s => s
  | _, _, _, _, .cons h r, s => .cons h (Shs.append r s)
theorem Shs.take : ∀ {ds : List D} {vs : List V} (n : Nat), Shs K B ds vs → Shs K B (ds.take n) (vs.take n)
  | _, _, 0, _ => .nil
  | _, _, _ + 1, .nil => .nil
  | _, _, n + 1, .cons r t => .cons r (Shs.take n t)
theorem Shs.drop : ∀ {ds : List D} {vs : List V} (n : Nat), Shs K B ds vs → Shs K B (ds.drop n) (vs.drop n)
  | _, _, 0, r => r
  | _, _, _ + 1, .nil => .nil
  | _, _, n + 1, .cons _ t => Shs.drop n t
theorem Ows.length : ∀ {ds : List D} {vs : List V} {F : List Addr}, Ows K B H ds vs F → ds.length = vs.length
  | _, _, _, .nil => rfl
  | _, _, _, .cons _ r _ => congrArg Nat.succ (Ows.length r)
theorem Shs.ows : ∀ {ds : List D} {vs : List V}, Shs K B ds vs → Ows K B H ds vs []
  | _, _, .nil => .nil
  | _, _, .cons h r => .cons (.sh h) (Shs.ows r) rfl
theorem Ows.append : ∀ {ds es : List D} {vs us : List V} {F G : List Addr}, Ows K B H ds vs F → Ows K B H es us G → Ows K B H (ds ++ es) (vs ++ us) (F ++ G)
  | _, _, _, _, _, _, .nil, s => s
  | _, _, _, _, _, _, .cons h r q, s => .cons h (Ows.append r s) (by rw [q, List.append_assoc])
end

/-! ### the state of a body -/
/-- a def's entry: the arguments, what was shared, the heap, what was lent with each argument -/
structure Ctx where
  vs : List V
  B0 : Hp
  H0 : Hp
  fp0 : Nat → List Addr
  exa : Addr := 0
def Ctx.lent (c : Ctx) (a : Addr) : Prop := ∃ i, a ∈ c.fp0 i
/-- what a slot's root says of what it owns -/
def Cond (c : Ctx) (i : Nat) (d : D) (v : V) (F : List Addr) : Prop := match d with
  | .bor _ => c.vs[i]? = some v ∧ ∀ a ∈ F, a ∈ c.fp0 i ∨ c.H0 a = none
  | .al j => j = i ∧ v = .ref c.exa
  | _ => ∀ a ∈ F, c.H0 a = none
def SlotOk (K : PySem.W.Frag) (c : Ctx) (B H : Hp) (σ : L2.St) (i : Nat) (d : D) (F : List Addr) : Prop := ∃ v, σ[i]? = some (some v) ∧ Ow K B H d v F ∧ Cond c i d v F
structure StOk (K : PySem.W.Frag) (c : Ctx) (T : List (Addr × HO)) (B H : Hp) (σ : L2.St) (e : Env) : Prop where
  len : e.length = σ.length
  slots : ∃ fp : Nat → List Addr, (∀ i d, e[i]? = some (some d) → SlotOk K c B H σ i d (fp i)) ∧ (∀ i, (∀ d, e[i]? ≠ some (some d)) → fp i = []) ∧ (∀ i, (fp i).Nodup) ∧ (∀ i j a, i ≠ j → a ∈ fp i → a ∉ fp j) ∧ ∀ q ∈ T, ∀ i, q.1 ∉ fp i
  tmp : ∀ q ∈ T, c.H0 q.1 = none ∧ H q.1 = some q.2 ∧ B q.1 = none
  tnd : (T.map (·.1)).Nodup
  bh : Ex B H
  b0 : Ex c.B0 B
  keep : ∀ a o, ¬ c.lent a → c.H0 a = some o → H a = some o
  there : ∀ a, c.H0 a ≠ none → H a ≠ none
  old : ∀ a, c.H0 a ≠ none → c.B0 a = none → B a = none

theorem StOk.tmp_ne {K : PySem.W.Frag} {c : Ctx} {T : List (Addr × HO)} {B H : Hp} {σ : L2.St} {e : Env} {p : Addr} {o : HO} (s : StOk K c ((p, o) :: T) B H σ e) : ∀ q ∈ T, q.1 ≠ p := fun q m z => by
  have h := (List.nodup_cons.mp s.tnd).1
  exact h (List.mem_map.mpr ⟨q, m, z⟩)
/-- a value handed on: shared, or the very object of a slot -/
def RT (K : PySem.W.Frag) (B : Hp) (σ : L2.St) (d : D) (v : V) : Prop := match d with
  | .al i => σ[i]? = some (some v)
  | d => Sh K B d v
theorem RT.of {K : PySem.W.Frag} {B : Hp} {σ : L2.St} {d : D} {v : V} (h : Sh K B d v) : RT K B σ d v := by
  cases d <;> first | exact h | cases h
theorem RT.mono {K : PySem.W.Frag} {B B' : Hp} {σ : L2.St} {d : D} {v : V} (e : Ex B B') (h : RT K B σ d v) : RT K B' σ d v := by
  cases d <;> first | exact h | exact Sh.mono e h
/-- an exception's class, its own dict -/
def RX (K : PySem.W.Frag) (B : Hp) (x : Exn) (cls : Value) (dd : Option Addr) : Prop := cls = .ref (He.ga K x.cls) ∧
  ((x.fs = [] ∧ dd = none) ∨ ∃ p fs, dd = some p ∧ B p = some (.xd fs) ∧ fs.map (·.1) = x.fs.map (·.1) ∧ Shs K B (x.fs.map (·.2)) (fs.map (·.2)))

/-- how a computation ends -/
def Pst (K : PySem.W.Frag) (c : Ctx) (T : List (Addr × HO)) (W : WX) (σ : L2.St) (B : Hp) {α : Type} (r : Rs α) (k : α → Env → Hp → Hp → Prop) : Prop := match r with
  | .ok a e' => ∀ B' H', Ex B B' → k a e' B' H'
  | .ex x e' => ∀ cls dd B' H', Ex B B' → StOk K c T B' H' σ e' → RX K B' x cls dd → W cls dd σ H'
  | .no => False
section
variable {K : PySem.W.Frag} {c : Ctx} {W : WX} {σ : L2.St} {T : List (Addr × HO)} {B B' : Hp} {α β : Type}
theorem Pst.imp {r : Rs α} {k k' : α → Env → Hp → Hp → Prop} (h : Pst K c T W σ B r k) (i : ∀ a e B' H', Ex B B' → k a e B' H' → k' a e B' H') : Pst K c T W σ B r k' := by
  cases r with
  | ok a e => exact fun B' H' x => i a e B' H' x (h B' H' x)
  | ex x e => exact h
  | no => exact h
theorem Pst.mono {r : Rs α} {k : α → Env → Hp → Hp → Prop} (e : Ex B B') (h : Pst K c T W σ B r k) : Pst K c T W σ B' r k := by
  cases r with
  | ok a e' => exact fun B2 H' x => h B2 H' (e.trans x)
  | ex x e' => exact fun cls dd B2 H' z => h cls dd B2 H' (e.trans z)
  | no => exact h
theorem Pst.bind {r : Rs α} {g : α → M β} {k : β → Env → Hp → Hp → Prop} (h : Pst K c T W σ B (r.bind g) k) : Pst K c T W σ B r (fun a e' B' _ => Pst K c T W σ B' (g a e') k) := by
  cases r with
  | ok a e => exact fun B' _ x => Pst.mono x h
  | ex x e => exact h
  | no => exact h
end
def lift (K : PySem.W.Frag) (c : Ctx) (W : WX) (f : M D) : TE := fun σ H Q => ∃ T B e, StOk K c T B H σ e ∧ Pst K c T W σ B (f e) fun d e' B' H' => StOk K c T B' H' σ e' → ∀ v, RT K B' σ d v → Q v H'
/-- argument lists -/
def RTs (K : PySem.W.Frag) (B : Hp) (σ : L2.St) : List D → List V → Prop
  | [], vs => vs = []
  | d :: ds, vs => ∃ v us, vs = v :: us ∧ RT K B σ d v ∧ RTs K B σ ds us
def liftA (K : PySem.W.Frag) (c : Ctx) (W : WX) (f : M (List D)) : TA := fun σ H Q => ∃ T B e, StOk K c T B H σ e ∧ Pst K c T W σ B (f e) fun ds e' B' H' => StOk K c T B' H' σ e' → ∀ vs, RTs K B' σ ds vs → Q vs H'
/-- a new list, owned by nobody yet -/
def liftF (K : PySem.W.Frag) (c : Ctx) (W : WX) (f : M (List D)) : TE := fun σ H Q => ∃ T B e, StOk K c T B H σ e ∧ Pst K c T W σ B (f e) fun ds e' B' H' => ∀ p vs, StOk K c ((p, .lst vs) :: T) B' H' σ e' → Shs K B' ds vs → Q (.ref p) H'
/-- a test -/
def liftT (K : PySem.W.Frag) (c : Ctx) (W : WX) (f : M Bool) : TT := fun σ H Q => ∃ T B e, StOk K c T B H σ e ∧ Pst K c T W σ B (f e) fun b e' B' H' => StOk K c T B' H' σ e' → Q b H'
inductive Fl where
  | nx | bk | ct | rt (d : D)
def liftS (K : PySem.W.Frag) (c : Ctx) (W : WX) (f : M Fl) : TS := fun D' σ H => ∃ B e, StOk K c [] B H σ e ∧ match f e with
  | .ok .nx e' => ∀ σ' B' H', Ex B B' → StOk K c [] B' H' σ' e' → D'.nx σ' H'
  | .ok .bk e' => ∀ σ' B' H', Ex B B' → StOk K c [] B' H' σ' e' → D'.bk σ' H'
  | .ok .ct e' => ∀ σ' B' H', Ex B B' → StOk K c [] B' H' σ' e' → D'.ct σ' H'
  | .ok (.rt d) e' => ∀ v σ' B' H', Ex B B' → StOk K c [] B' H' σ' e' → Sh K B' d v → D'.rt v H'
  | .ex x e' => ∀ cls dd σ' B' H', Ex B B' → StOk K c [] B' H' σ' e' → RX K B' x cls dd → W cls dd σ' H'
  | .no => False

/-! ### combinators -/
def mret {α : Type} (a : α) : M α := fun e => .ok a e
def mbind {α β : Type} (f : M α) (g : α → M β) : M β := fun e => (f e).bind g
def mopt {α : Type} (o : Option α) : M α := fun e => match o with
  | some a => .ok a e
  | none => .no
/-- an alias seen through -/
def rs (e : Env) (d : D) : D := match d with
  | .al i => (match e[i]? with
    | some (some (.own xs)) => .own xs
    | some (some (.bor xs)) => .bor xs
    | _ => .al i)
  | d => d
/-- a name as it stands: a shared value, an alias of what the slot owns -/
def eVar (i : Nat) : M D := fun e => match e[i]? with
  | some (some (.own _)) => .ok (.al i) e
  | some (some (.bor _)) => .ok (.al i) e
  | some (some d) => .ok d e
  | _ => .no
def eC (d : D) : M D := mret d
def eBin (op : D → D → Option D) (fa fb : M D) : M D := mbind fa fun x => mbind fb fun y => fun e => mopt (op (rs e x) (rs e y)) e
def eUn (op : D → Option D) (fa : M D) : M D := mbind fa fun x => fun e => mopt (op (rs e x)) e

/-! ### the rules -/
theorem PE_of {X : Cx} {e : Expr} {t t' : TE} (h : PE X e t) (k : ∀ σ H Q, t' σ H Q → t σ H Q) : PE X e t' := ⟨fun pins s σ H Q I q => h.run pins s σ H Q I (k σ H Q q)⟩
theorem PT_of {X : Cx} {e : Expr} {t t' : TT} (h : PT X e t) (k : ∀ σ H Q, t' σ H Q → t σ H Q) : PT X e t' := ⟨fun pins s σ H Q I q => h.run pins s σ H Q I (k σ H Q q)⟩
theorem PA_of {X : Cx} {es : List Expr} {t t' : TA} (h : PA X es t) (k : ∀ σ H Q, t' σ H Q → t σ H Q) : PA X es t' := ⟨fun pos pins s σ H Q I q => h.run pos pins s σ H Q I (k σ H Q q)⟩
theorem PS_of {X : Cx} {st : Stmt} {t t' : TS} (h : PS X st t) (k : ∀ Dn σ H, t' Dn σ H → t Dn σ H) : PS X st t' := ⟨fun pins s σ H Dn I q => h.run pins s σ H Dn I (k Dn σ H q)⟩
theorem PSs_of {X : Cx} {st : List Stmt} {t t' : TS} (h : PSs X st t) (k : ∀ Dn σ H, t' Dn σ H → t Dn σ H) : PSs X st t' := ⟨fun pins s σ H Dn I q => h.run pins s σ H Dn I (k Dn σ H q)⟩

section
variable {X : Cx} {c : Ctx} {W : WX} {σ : L2.St} {B B' H H' : Hp} {e : Env}
/-- names -/
theorem de_var {x : Expr} {i : Nat} (h : PE X x (tVar i)) : PE X x (lift X.K c W (eVar i)) := by
  refine PE_of h fun σ H Q q => ?_
  obtain ⟨T, B, e, st, m⟩ := q
  obtain ⟨fp, s1, _⟩ := st.slots
  unfold eVar at m
  cases he : e[i]? with
  | none =>
    rw [he] at m
    exact m.elim
  | some o =>
    rw [he] at m
    cases o with
    | none => exact m.elim
    | some d =>
      obtain ⟨v, hv, ow, cd⟩ := s1 i d he
      refine ⟨v, hv, ?_⟩
      have ow := ow.inv
      cases d with
      | al j => exact m B H (Evl.Ex.refl B) st v (show σ[j]? = some (some v) by rw [cd.1]; exact hv)
      | own xs => exact m B H (Evl.Ex.refl B) st v hv
      | bor xs => exact m B H (Evl.Ex.refl B) st v hv
      | _ => exact m B H (Evl.Ex.refl B) st v (RT.of ow.1)
theorem de_c {x : Expr} {d : D} {v : V} (h : PE X x (tC v)) (r : ∀ B, Sh X.K B d v) : PE X x (lift X.K c W (eC d)) := by
  refine PE_of h fun σ H Q q => ?_
  obtain ⟨T, B, e, st, m⟩ := q
  exact m B H (Evl.Ex.refl B) st v (RT.of (r B))
end
end DL
end

section
set_option maxRecDepth 100000
set_option maxHeartbeats 2000000
namespace DL
open PySem L2
open Evl (Ex)

/-! ### new things -/
structure Grow (B H B' H' : Hp) : Prop where
  b : Ex B B'
  h : Ex H H'
  bh : Ex B' H'
  old : ∀ a, H a ≠ none → B' a = B a
theorem Grow.refl {B H : Hp} (e : Ex B H) : Grow B H B H := ⟨Evl.Ex.refl B, Evl.Ex.refl H, e, fun _ _ => rfl⟩
theorem Grow.trans {B H B1 H1 B2 H2 : Hp} (x : Grow B H B1 H1) (y : Grow B1 H1 B2 H2) : Grow B H B2 H2 :=
  ⟨x.b.trans y.b, x.h.trans y.h, y.bh, fun a n => (y.old a (fun z => by
    cases e : H a with
    | none => exact n e
    | some o =>
      rw [x.h a o e] at z
      cases z)).trans (x.old a n)⟩
theorem ex_none {H H' : Hp} (e : Ex H H') {a : Addr} (n : H a ≠ none) : H' a ≠ none := fun z => by
  cases q : H a with
  | none => exact n q
  | some o =>
    rw [e a o q] at z
    cases z
theorem none_ex {B H : Hp} (e : Ex B H) {a : Addr} (n : H a = none) : B a = none := by
  cases q : B a with
  | none => rfl
  | some o =>
    rw [e a o q] at n
    cases n
theorem Grow.new {B H : Hp} (e : Ex B H) {p : Addr} (o : HO) (n : H p = none) : Grow B H (upd B p o) (upd H p o) :=
  ⟨Evl.Ex.new (none_ex e n), Evl.Ex.new n, fun a u q => by
    by_cases h : a = p
    · subst h
      rw [upd_same] at q ⊢
      exact q
    · rw [upd_ne h] at q ⊢
      exact e a u q, fun a h => upd_ne fun z => h (z ▸ n)⟩
theorem Sh.grow {K : PySem.W.Frag} {B H B' H' : Hp} (g : Grow B H B' H') {d : D} {v : V} (h : Sh K B d v) : Sh K B' d v := h.mono g.b
theorem StOk.ex {K : PySem.W.Frag} {c : Ctx} {T : List (Addr × HO)} {B H : Hp} {σ : L2.St} {e : Env} (s : StOk K c T B H σ e) : Ex B H := s.bh
theorem StOk.grow {K : PySem.W.Frag} {c : Ctx} {T : List (Addr × HO)} {B H B' H' : Hp} {σ : L2.St} {e : Env} (s : StOk K c T B H σ e) (g : Grow B H B' H') : StOk K c T B' H' σ e where
  len := s.len
  slots := by
    obtain ⟨fp, h1, h2, h3, h4, h5⟩ := s.slots
    refine ⟨fp, fun i d hd => ?_, h2, h3, h4, h5⟩
    obtain ⟨v, hv, ow, cd⟩ := h1 i d hd
    exact ⟨v, hv, ow.mono g.b (fun a m => (g.old a (ow.free a m).2).trans (ow.free a m).1) (fun a m o q => g.h a o q), cd⟩
  tmp := fun q m => by
    obtain ⟨t1, t2, t3⟩ := s.tmp q m
    exact ⟨t1, g.h _ _ t2, (g.old _ (by rw [t2]; exact fun z => (nomatch z))).trans t3⟩
  tnd := s.tnd
  bh := g.bh
  b0 := s.b0.trans g.b
  keep := fun a o nl h => g.h a o (s.keep a o nl h)
  there := fun a n => ex_none g.h (s.there a n)
  old := fun a n z => (g.old a (s.there a n)).trans (s.old a n z)

/-! ### operands -/
def isSh : D → Bool
  | .own _ => false
  | .bor _ => false
  | .al _ => false
  | _ => true
/-- an operand as it stands: shared, or what its owner holds -/
def RS (K : PySem.W.Frag) (B H : Hp) (d : D) (v : V) : Prop := match d with
  | .al _ => True
  | .own ds => ∃ a vs G, v = .ref a ∧ H a = some (.lst vs) ∧ Ows K B H ds vs G
  | .bor ds => ∃ a vs G, v = .ref a ∧ H a = some (.lst vs) ∧ Ows K B H ds vs G
  | d => Sh K B d v
section
variable {K : PySem.W.Frag} {c : Ctx} {W : WX} {σ : L2.St} {B B' H H' : Hp} {e : Env} {T : List (Addr × HO)} {d : D} {v : V}
theorem RS.of (h : Sh K B d v) : RS K B H d v := by
  cases d <;> first | exact h | cases h
theorem rs_ok (st : StOk K c T B H σ e) (h : RT K B σ d v) : RS K B H (rs e d) v := by
  cases d with
  | al i =>
    obtain ⟨fp, h1, _⟩ := st.slots
    show RS K B H (match e[i]? with
      | some (some (.own xs)) => .own xs
      | some (some (.bor xs)) => .bor xs
      | _ => .al i) v
    cases he : e[i]? with
    | none => exact True.intro
    | some o => cases o with
      | none => exact True.intro
      | some d =>
        obtain ⟨u, hu, ow, _⟩ := h1 i d he
        have e2 : σ[i]? = some (some v) := h
        rw [hu] at e2
        have e3 : u = v := Option.some.inj (Option.some.inj e2)
        subst e3
        have ow := ow.inv
        cases d with
        | own xs =>
          obtain ⟨a, vs, G, q1, _, q2, _, q3⟩ := ow
          exact ⟨a, vs, G, q1, q2, q3⟩
        | bor xs =>
          obtain ⟨a, vs, G, q1, _, q2, _, q3⟩ := ow
          exact ⟨a, vs, G, q1, q2, q3⟩
        | _ => exact True.intro
  | _ => exact RS.of h
theorem Ows.shs : ∀ {ds : List D} {vs : List V} {G : List Addr}, Ows K B H ds vs G → ds.all isSh = true → Shs K B ds vs
  | _, _, _, .nil, _ => .nil
  | d :: ds, _, _, .cons h r q, a => by
    rw [List.all_cons, Bool.and_eq_true] at a
    have h2 := h.inv
    refine .cons ?_ (Ows.shs r a.2)
    cases d with
    | own _ => exact absurd a.1 Bool.false_ne_true
    | bor _ => exact absurd a.1 Bool.false_ne_true
    | al _ => exact absurd a.1 Bool.false_ne_true
    | _ => exact h2.1
end

/-! ### operations on two values -/
def OpD (K : PySem.W.Frag) (r : R2) (op : D → D → Option D) : Prop := ∀ (B H : Hp) (x y : D) (v u : V) (z : D) (Q : VK), Ex B H → RS K B H x v → RS K B H y u → op x y = some z →
  (∀ w B' H', Grow B H B' H' → Sh K B' z w → Q w H') → r v u H Q
section
variable {X : Cx} {c : Ctx} {W : WX} {a b : Expr} {fa fb : M D} {pos : Pos} {op : D → D → Option D} {r : R2}
theorem bin_conv (ok : OpD X.K r op) : ∀ σ H Q, lift X.K c W (eBin op fa fb) σ H Q → tOp r (lift X.K c W fa) (lift X.K c W fb) σ H Q := fun σ H Q q => by
  obtain ⟨T, B, e, st, m⟩ := q
  refine ⟨T, B, e, st, m.bind.imp fun x e1 B1 H1 x1 m1 st1 v rv => ?_⟩
  refine ⟨T, B1, e1, st1, m1.bind.imp fun y e2 B2 H2 x2 m2 st2 u ru => ?_⟩
  have m2 : Pst X.K c T W σ B2 (mopt (op (rs e2 x) (rs e2 y)) e2) _ := m2
  cases ho : op (rs e2 x) (rs e2 y) with
  | none =>
    rw [ho] at m2
    exact m2.elim
  | some z =>
    rw [ho] at m2
    exact ok B2 H2 _ _ v u z Q st2.ex (rs_ok st2 (rv.mono x2)) (rs_ok st2 ru) ho fun w B' H' g s => m2 B' H' g.b (st2.grow g) w (RT.of s)
theorem de_bin {o : Operator} (hr : OpR X (binaryOp o) r) (ok : OpD X.K r op) (ha : PE X a (lift X.K c W fa)) (hb : PE X b (lift X.K c W fb)) : PE X (.BinOp a o b pos) (lift X.K c W (eBin op fa fb)) :=
  PE_of (pe_op hr ha hb) (bin_conv ok)
theorem de_cmp {o : CmpOp} (hr : OpR X (compareOp o) r) (ok : OpD X.K r op) (ha : PE X a (lift X.K c W fa)) (hb : PE X b (lift X.K c W fb)) (hm : behindInMarks o b = false) : PE X (.Compare a [o] [b] pos) (lift X.K c W (eBin op fa fb)) :=
  PE_of (pe_cmpR hr ha hb hm) (bin_conv ok)
/-- a value as a test -/
def bOf : D → Option Bool
  | .bl b => some b
  | _ => none
def tOf (f : M D) : M Bool := mbind f fun d => mopt (bOf d)
theorem test_conv {f : M D} : ∀ σ H Q, liftT X.K c W (tOf f) σ H Q → tTest (lift X.K c W f) σ H Q := fun σ H Q q => by
  obtain ⟨T, B, e, st, m⟩ := q
  refine ⟨T, B, e, st, m.bind.imp fun d e1 B1 H1 x1 m1 st1 v rv => ?_⟩
  have m1 : Pst X.K c T W σ B1 (mopt (bOf d) e1) _ := m1
  cases d with
  | bl b =>
    cases rv
    exact ⟨b, rfl, m1 B1 H1 (Evl.Ex.refl _) st1⟩
  | _ => exact m1.elim
theorem dt_cmp {o : CmpOp} (hr : OpR X (compareOp o) r) (ok : OpD X.K r op) (ha : PE X a (lift X.K c W fa)) (hb : PE X b (lift X.K c W fb)) (hm : behindInMarks o b = false) : PT X (.Compare a [o] [b] pos) (liftT X.K c W (tOf (eBin op fa fb))) :=
  PT_of (pt_cmpR hr ha hb hm) fun σ H Q q => bin_conv ok σ H _ (test_conv σ H Q q)
theorem dt_val {x : Expr} {f : M D} (h : PE X x (lift X.K c W f)) (he : ∀ whole, isTrue x X.env whole = (do let v ← whole; standAt x.pos; holding [v] (truthy v)) := by intro _; rfl) : PT X x (liftT X.K c W (tOf f)) :=
  PT_of (pt_val h he) fun σ H Q q => test_conv σ H Q q
end

/-! #### ints -/
def dInt2 (f : Int → Int → Option D) : D → D → Option D
  | .int i, .int j => f i j
  | _, _ => none
theorem dInt2_some {f : Int → Int → Option D} {x y z : D} (h : dInt2 f x y = some z) : ∃ i j, x = .int i ∧ y = .int j ∧ f i j = some z := by
  cases x with
  | int i => cases y with
    | int j => exact ⟨i, j, rfl, rfl, h⟩
    | _ => cases h
  | _ => cases h
section
variable {K : PySem.W.Frag}
theorem ok_int0 {g : Int → Int → V} {f : Int → Int → D} (hg : ∀ i j B, Sh K B (f i j) (g i j)) : OpD K (rI0 g) (dInt2 fun i j => some (f i j)) := by
  intro B H x y v u z Q e rx ry ho k
  obtain ⟨i, j, rfl, rfl, q⟩ := dInt2_some ho
  cases q
  cases (show Sh K B (.int i) v from rx)
  cases (show Sh K B (.int j) u from ry)
  exact ⟨i, j, rfl, rfl, k _ B H (Grow.refl e) (hg i j B)⟩
theorem ok_intC {C : Int → Int → Prop} {g : Int → Int → V} {f : Int → Int → D} {P : Int → Int → Prop} [∀ i j, Decidable (P i j)] (hc : ∀ i j, P i j → C i j) (hg : ∀ i j B, Sh K B (f i j) (g i j)) : OpD K (rI C g) (dInt2 fun i j => if P i j then some (f i j) else none) := by
  intro B H x y v u z Q e rx ry ho k
  obtain ⟨i, j, rfl, rfl, q⟩ := dInt2_some ho
  cases (show Sh K B (.int i) v from rx)
  cases (show Sh K B (.int j) u from ry)
  by_cases h : P i j
  · rw [if_pos h] at q
    cases q
    exact ⟨i, j, rfl, rfl, hc i j h, k _ B H (Grow.refl e) (hg i j B)⟩
  · rw [if_neg h] at q
    cases q
end
/-- the operations on ints -/
abbrev dSub : D → D → Option D := dInt2 fun i j => some (.int (i - j))
abbrev dMulI : D → D → Option D := dInt2 fun i j => if i.natAbs.log2 + j.natAbs.log2 < 1000000 then some (.int (i * j)) else none
abbrev dDiv : D → D → Option D := dInt2 fun i j => if j ≠ 0 ∧ j.natAbs.log2 < 9000 then some (.int (i.fdiv j)) else none
abbrev dMod : D → D → Option D := dInt2 fun i j => if j ≠ 0 then some (.int (i.fmod j)) else none
abbrev dLt : D → D → Option D := dInt2 fun i j => some (.bl (decide (i < j)))
abbrev dLe : D → D → Option D := dInt2 fun i j => some (.bl (decide (i ≤ j)))
abbrev dGt : D → D → Option D := dInt2 fun i j => some (.bl (decide (j < i)))
abbrev dGe : D → D → Option D := dInt2 fun i j => some (.bl (decide (j ≤ i)))
def CDivA (i j : Int) : Prop := j ≠ 0 ∧ j.natAbs.log2 < 9000
theorem op_fdivA {X : Cx} : OpR X (binaryOp .FloorDiv) (rI CDivA fun i j => .int (i.fdiv j)) := opI fun _ _ _ _ _ _ _ hc q => PyProof.Rows.floordiv_int hc.1 q (.inl (PyProof.noPylong_of_log2 hc.2))
section
variable {K : PySem.W.Frag}
theorem ok_sub : OpD K (rI0 fun i j => .int (i - j)) dSub := ok_int0 fun _ _ _ => .int _
theorem ok_mulI : OpD K (rI CMulW fun i j => .int (i * j)) dMulI := ok_intC (fun _ _ h => h) fun _ _ _ => .int _
theorem ok_div : OpD K (rI CDivA fun i j => .int (i.fdiv j)) dDiv := ok_intC (fun _ _ h => h) fun _ _ _ => .int _
theorem ok_mod : OpD K (rI (fun _ j => j ≠ 0) fun i j => .int (i.fmod j)) dMod := ok_intC (fun _ _ h => h) fun _ _ _ => .int _
theorem ok_lt : OpD K (rI0 fun i j => .bl (decide (i < j))) dLt := ok_int0 fun _ _ _ => .bl _
theorem ok_le : OpD K (rI0 fun i j => .bl (decide (i ≤ j))) dLe := ok_int0 fun _ _ _ => .bl _
theorem ok_gt : OpD K (rI0 fun i j => .bl (decide (j < i))) dGt := ok_int0 fun _ _ _ => .bl _
theorem ok_ge : OpD K (rI0 fun i j => .bl (decide (j ≤ i))) dGe := ok_int0 fun _ _ _ => .bl _
end
end DL
end

section
set_option maxRecDepth 100000
set_option maxHeartbeats 2000000
namespace DL
open PySem L2
open Evl (Ex)

/-! #### sequences -/
/-- a list's items, the list one that can be joined | any sequence's items -/
def mls : D → Option (List D)
  | .lst xs => some xs
  | .own xs => if (xs.all isSh) = true then some xs else none
  | .bor xs => if (xs.all isSh) = true then some xs else none
  | _ => none
def lsq : D → Option (List D)
  | .lst xs => some xs
  | .klst xs => some xs
  | .own xs => if (xs.all isSh) = true then some xs else none
  | .bor xs => if (xs.all isSh) = true then some xs else none
  | _ => none
def tsq : D → Option (List D)
  | .tup xs => some xs
  | _ => none
section
variable {K : PySem.W.Frag} {B H : Hp} {d : D} {v : V} {xs : List D}
theorem mls_ok (e : Ex B H) (h : RS K B H d v) (m : mls d = some xs) : ∃ a vs, v = .ref a ∧ H a = some (.lst vs) ∧ Shs K B xs vs := by
  cases d with
  | lst ys =>
    cases (show some ys = some xs from m)
    cases (show Sh K B (.lst xs) v from h) with
    | lst h1 r => exact ⟨_, _, rfl, e _ _ h1, r⟩
  | own ys =>
    obtain ⟨a, vs, G, q1, q2, q3⟩ := h
    by_cases hs : (ys.all isSh) = true
    · rw [mls, if_pos hs] at m
      cases m
      exact ⟨a, vs, q1, q2, q3.shs hs⟩
    · rw [mls, if_neg hs] at m
      cases m
  | bor ys =>
    obtain ⟨a, vs, G, q1, q2, q3⟩ := h
    by_cases hs : (ys.all isSh) = true
    · rw [mls, if_pos hs] at m
      cases m
      exact ⟨a, vs, q1, q2, q3.shs hs⟩
    · rw [mls, if_neg hs] at m
      cases m
  | _ => cases m
theorem lsq_ok (e : Ex B H) (h : RS K B H d v) (m : lsq d = some xs) : ∃ a vs, v = .ref a ∧ SqL K H a vs ∧ Shs K B xs vs := by
  cases d with
  | lst ys =>
    obtain ⟨a, vs, q1, q2, q3⟩ := mls_ok e h (show mls (.lst ys) = some xs from m)
    exact ⟨a, vs, q1, SqL.of q2, q3⟩
  | klst ys =>
    cases (show some ys = some xs from m)
    cases (show Sh K B (.klst xs) v from h) with
    | klst h1 r => exact ⟨_, _, rfl, Evl.ex_l e h1, r⟩
  | own ys =>
    obtain ⟨a, vs, q1, q2, q3⟩ := mls_ok e h (show mls (.own ys) = some xs from m)
    exact ⟨a, vs, q1, SqL.of q2, q3⟩
  | bor ys =>
    obtain ⟨a, vs, q1, q2, q3⟩ := mls_ok e h (show mls (.bor ys) = some xs from m)
    exact ⟨a, vs, q1, SqL.of q2, q3⟩
  | _ => cases m
theorem tsq_ok (e : Ex B H) (h : RS K B H d v) (m : tsq d = some xs) : ∃ a vs, v = .ref a ∧ SqT K H a vs ∧ Shs K B xs vs := by
  cases d with
  | tup ys =>
    cases (show some ys = some xs from m)
    cases (show Sh K B (.tup xs) v from h) with
    | tup h1 r => exact ⟨_, _, rfl, Evl.ex_t e h1, r⟩
  | _ => cases m
theorem line_ok {n : Nat} (h : n ≤ 1000000) : n ≤ sizeLine := Nat.le_trans h (by decide)
end

/-! #### + -/
def dAddSeq (x y : D) : Option D := match x, y with
  | .tup xs, .tup ys => if xs.length + ys.length ≤ 1000000 then some (.tup (xs ++ ys)) else none
  | x, y => (mls x).bind fun xs => (mls y).bind fun ys => if xs.length + ys.length ≤ 1000000 then some (.lst (xs ++ ys)) else none
def dAdd (x y : D) : Option D := match x, y with
  | .int i, .int j => some (.int (i + j))
  | .str s, .str t => if s.length + t.length ≤ 1000000 then some (.str (s ++ t)) else none
  | x, y => dAddSeq x y
def rAddAll (K : PySem.W.Frag) : R2 := fun x y H Q =>
  rI0 (fun i j => .int (i + j)) x y H Q ∨ (∃ i j, x = .str i ∧ y = .str j ∧ i.length + j.length ≤ sizeLine ∧ Q (.str (i ++ j)) H) ∨ rCat x y H Q ∨ rCatA K x y H Q
theorem op_addAll {X : Cx} : OpR X (binaryOp .Add) (rAddAll X.K) := op_add.or (op_add_str.or (op_cat.or op_catA))
theorem ok_addSeq {K : PySem.W.Frag} {B H : Hp} {x y : D} {v u : V} {z : D} {Q : VK} (e : Ex B H) (rx : RS K B H x v) (ry : RS K B H y u) (ho : dAddSeq x y = some z)
    (k : ∀ w B' H', Grow B H B' H' → Sh K B' z w → Q w H') : rCat v u H Q ∨ rCatA K v u H Q := by
  have lists : ∀ x y, RS K B H x v → RS K B H y u → ((mls x).bind fun xs => (mls y).bind fun ys => if xs.length + ys.length ≤ 1000000 then some (D.lst (xs ++ ys)) else none) = some z → rCat v u H Q := fun x y rx ry ho => by
    cases hx : mls x with
    | none =>
      rw [hx] at ho
      cases ho
    | some xs => cases hy : mls y with
      | none =>
        rw [hx, hy] at ho
        cases ho
      | some ys =>
        rw [hx, hy] at ho
        have ho : (if xs.length + ys.length ≤ 1000000 then some (D.lst (xs ++ ys)) else none) = some z := ho
        by_cases hl : xs.length + ys.length ≤ 1000000
        · rw [if_pos hl] at ho
          cases ho
          obtain ⟨a, vs, rfl, h1, r1⟩ := mls_ok e rx hx
          obtain ⟨b, us, rfl, h2, r2⟩ := mls_ok e ry hy
          refine ⟨a, b, vs, us, rfl, rfl, h1, h2, by rw [← r1.length, ← r2.length]; exact line_ok hl, fun p hp => ?_⟩
          have g := Grow.new e (.lst (vs ++ us)) hp
          exact k _ _ _ g (.lst upd_same ((r1.append r2).mono g.b))
        · rw [if_neg hl] at ho
          cases ho
  unfold dAddSeq at ho
  split at ho
  · rename_i xs ys
    by_cases hl : xs.length + ys.length ≤ 1000000
    · rw [if_pos hl] at ho
      cases ho
      obtain ⟨a, vs, rfl, h1, r1⟩ := tsq_ok e rx (show tsq (.tup xs) = some xs from rfl)
      obtain ⟨b, us, rfl, h2, r2⟩ := tsq_ok e ry (show tsq (.tup ys) = some ys from rfl)
      refine .inr ⟨a, b, vs, us, rfl, rfl, h1, h2, by rw [← r1.length, ← r2.length]; exact line_ok hl, fun z => ?_, fun _ z => ?_, fun _ _ p hp => ?_⟩
      · subst z
        cases r1
        rw [List.nil_append] at k
        refine k _ B H (Grow.refl e) ?_
        exact (show Sh K B (.tup ys) (.ref b) from ry)
      · subst z
        cases r2
        rw [List.append_nil] at k
        refine k _ B H (Grow.refl e) ?_
        exact (show Sh K B (.tup xs) (.ref a) from rx)
      · have g := Grow.new e (.tup (vs ++ us)) hp
        exact k _ _ _ g (.tup (SqT.of upd_same) ((r1.append r2).mono g.b))
    · rw [if_neg hl] at ho
      cases ho
  · exact .inl (lists _ _ rx ry ho)
theorem ok_add {K : PySem.W.Frag} : OpD K (rAddAll K) dAdd := by
  intro B H x y v u z Q e rx ry ho k
  unfold dAdd at ho
  split at ho
  · rename_i i j
    cases ho
    cases (show Sh K B (.int i) v from rx)
    cases (show Sh K B (.int j) u from ry)
    exact .inl ⟨i, j, rfl, rfl, k _ B H (Grow.refl e) (.int _)⟩
  · rename_i i j
    cases (show Sh K B (.str i) v from rx)
    cases (show Sh K B (.str j) u from ry)
    by_cases hl : i.length + j.length ≤ 1000000
    · rw [if_pos hl] at ho
      cases ho
      exact .inr (.inl ⟨i, j, rfl, rfl, line_ok hl, k _ B H (Grow.refl e) (.str _)⟩)
    · rw [if_neg hl] at ho
      cases ho
  · rcases ok_addSeq e rx ry ho k with h | h
    · exact .inr (.inr (.inl h))
    · exact .inr (.inr (.inr h))

/-! #### == -/
mutual
def toPy : D → Option PyData
  | .non => some .none
  | .bl b => some (.bool b)
  | .int i => some (.int i)
  | .str s => some (.str s)
  | .tup xs => (toPys xs).map .tuple
  | .lst xs => (toPys xs).map .list
  | .klst xs => (toPys xs).map .list
  | _ => none
def toPys : List D → Option (List PyData)
  | [] => some []
  | x :: xs => (toPy x).bind fun d => (toPys xs).map (d :: ·)
end
mutual
theorem toPy_ok {K : PySem.W.Frag} {B : Hp} : ∀ (d : D) (v : V) (p : PyData), Sh K B d v → toPy d = some p → Dp K B v p
  | .non, _, _, h, e => by cases h; cases e; exact .non
  | .bl b, _, _, h, e => by cases h; cases e; exact .bl b
  | .int i, _, _, h, e => by cases h; cases e; exact .int i
  | .str s, _, _, h, e => by cases h; cases e; exact .str s
  | .tup xs, _, p, h, e => by
    cases h with
    | tup h1 r =>
      cases q : toPys xs with
      | none =>
        rw [toPy, q] at e
        cases e
      | some ps =>
        rw [toPy, q] at e
        cases e
        exact .tup h1 (toPys_ok xs _ ps r q)
  | .lst xs, _, p, h, e => by
    cases h with
    | lst h1 r =>
      cases q : toPys xs with
      | none =>
        rw [toPy, q] at e
        cases e
      | some ps =>
        rw [toPy, q] at e
        cases e
        exact .lst (SqL.of h1) (toPys_ok xs _ ps r q)
  | .klst xs, _, p, h, e => by
    cases h with
    | klst h1 r =>
      cases q : toPys xs with
      | none =>
        rw [toPy, q] at e
        cases e
      | some ps =>
        rw [toPy, q] at e
        cases e
        exact .lst h1 (toPys_ok xs _ ps r q)
  | .ty _, _, _, _, e => by cases e
  | .ref _, _, _, _, e => by cases e
  | .own _, _, _, _, e => by cases e
  | .bor _, _, _, _, e => by cases e
  | .al _, _, _, _, e => by cases e
theorem toPys_ok {K : PySem.W.Frag} {B : Hp} : ∀ (ds : List D) (vs : List V) (ps : List PyData), Shs K B ds vs → toPys ds = some ps → DpAll K B vs ps
  | [], _, _, h, e => by cases h; cases e; exact .nil
  | d :: ds, _, ps, h, e => by
    cases h with
    | cons h1 r =>
      cases q1 : toPy d with
      | none =>
        rw [toPys, q1] at e
        cases e
      | some p => cases q2 : toPys ds with
        | none =>
          rw [toPys, q1, q2] at e
          cases e
        | some qs =>
          rw [toPys, q1, q2] at e
          cases e
          exact .cons (toPy_ok d _ p h1 q1) (toPys_ok ds _ qs r q2)
end
/-- the data of an operand -/
def pyOf (d : D) : Option PyData := match d with
  | .own xs => if (xs.all isSh) = true then toPy (.lst xs) else none
  | .bor xs => if (xs.all isSh) = true then toPy (.lst xs) else none
  | d => toPy d
theorem pyOf_ok {K : PySem.W.Frag} {B H : Hp} {d : D} {v : V} {p : PyData} (e : Ex B H) (h : RS K B H d v) (q : pyOf d = some p) : Dp K H v p := by
  have lst : ∀ (xs : List D) (a : Addr) (vs : List V), H a = some (.lst vs) → Shs K B xs vs → toPy (.lst xs) = some p → Dp K H (.ref a) p := fun xs a vs h1 r q =>
    toPy_ok (.lst xs) _ p (.lst h1 (r.mono e)) q
  cases d with
  | own xs =>
    obtain ⟨a, vs, G, rfl, h1, r⟩ := h
    by_cases hs : (xs.all isSh) = true
    · rw [pyOf, if_pos hs] at q
      exact lst xs a vs h1 (r.shs hs) q
    · rw [pyOf, if_neg hs] at q
      cases q
  | bor xs =>
    obtain ⟨a, vs, G, rfl, h1, r⟩ := h
    by_cases hs : (xs.all isSh) = true
    · rw [pyOf, if_pos hs] at q
      exact lst xs a vs h1 (r.shs hs) q
    · rw [pyOf, if_neg hs] at q
      cases q
  | al i => cases q
  | _ => exact toPy_ok _ _ _ (Sh.mono e h) q
def dEqG (x y : D) : Option Bool := (pyOf x).bind fun p => (pyOf y).bind fun q => if (SeqAt.shaped p && SeqAt.shaped q) = true then some (PyData.eqv p q) else none
/-- two scalars -/
def dEqS (x y : D) : Option Bool := match x, y with
  | .int i, .int j => some (decide (i = j))
  | .str s, .str t => some (decide (s = t))
  | .bl a, .bl b => some (decide (a = b))
  | .non, .non => some true
  | .int _, .str _ => some false
  | .str _, .int _ => some false
  | .bl _, .str _ => some false
  | .str _, .bl _ => some false
  | .non, .int _ => some false
  | .int _, .non => some false
  | .non, .bl _ => some false
  | .bl _, .non => some false
  | .non, .str _ => some false
  | .str _, .non => some false
  | _, _ => none
def dEqB (x y : D) : Option Bool := match dEqS x y with
  | some b => some b
  | none => dEqG x y
def dEq (x y : D) : Option D := (dEqB x y).map .bl
def dNe (x y : D) : Option D := (dEqB x y).map fun b => .bl (!b)
theorem eqG_ok {K : PySem.W.Frag} {B H : Hp} {x y : D} {v u : V} {b : Bool} (e : Ex B H) (rx : RS K B H x v) (ry : RS K B H y u) (ho : dEqG x y = some b) :
    ∃ p q, Dp K H v p ∧ Dp K H u q ∧ SeqAt.shaped p = true ∧ SeqAt.shaped q = true ∧ b = PyData.eqv p q := by
  unfold dEqG at ho
  cases hx : pyOf x with
  | none =>
    rw [hx] at ho
    cases ho
  | some p => cases hy : pyOf y with
    | none =>
      rw [hx, hy] at ho
      cases ho
    | some q =>
      rw [hx, hy] at ho
      have ho : (if (SeqAt.shaped p && SeqAt.shaped q) = true then some (PyData.eqv p q) else none) = some b := ho
      by_cases hs : (SeqAt.shaped p && SeqAt.shaped q) = true
      · rw [if_pos hs] at ho
        cases ho
        rw [Bool.and_eq_true] at hs
        exact ⟨p, q, pyOf_ok e rx hx, pyOf_ok e ry hy, hs.1, hs.2, rfl⟩
      · rw [if_neg hs] at ho
        cases ho
theorem eqS_ok {K : PySem.W.Frag} {B H : Hp} {x y : D} {v u : V} {b : Bool} (rx : RS K B H x v) (ry : RS K B H y u) (ho : dEqS x y = some b) : scal v u = true ∧ b = decide (v = u) := by
  unfold dEqS at ho
  split at ho <;> first
    | (cases ho; done)
    | (cases ho
       have rx : Sh K B _ v := rx
       have ry : Sh K B _ u := ry
       cases rx
       cases ry
       first
         | exact ⟨rfl, (decide_eq_false (fun z => nomatch z)).symm⟩
         | exact ⟨rfl, (decide_eq_true rfl).symm⟩
         | exact ⟨rfl, by simp⟩)
theorem eqB_ok {K : PySem.W.Frag} {B H : Hp} {x y : D} {v u : V} {b : Bool} (e : Ex B H) (rx : RS K B H x v) (ry : RS K B H y u) (ho : dEqB x y = some b) :
    (scal v u = true ∧ b = decide (v = u)) ∨ ∃ p q, Dp K H v p ∧ Dp K H u q ∧ SeqAt.shaped p = true ∧ SeqAt.shaped q = true ∧ b = PyData.eqv p q := by
  unfold dEqB at ho
  cases q : dEqS x y with
  | some b' =>
    rw [q] at ho
    cases ho
    exact .inl (eqS_ok rx ry q)
  | none =>
    rw [q] at ho
    exact .inr (eqG_ok e rx ry ho)
def rEqAll (K : PySem.W.Frag) : R2 := fun x y H Q => rEq x y H Q ∨ rEqD K x y H Q
def rNeAll (K : PySem.W.Frag) : R2 := fun x y H Q => rNe x y H Q ∨ rNeD K x y H Q
theorem op_eqAll {X : Cx} (hu : X.A.units + 64 < cLine) : OpR X (compareOp .Eq) (rEqAll X.K) := op_eq.or (op_eqD hu)
theorem op_neAll {X : Cx} (hu : X.A.units + 64 < cLine) : OpR X (compareOp .NotEq) (rNeAll X.K) := op_ne.or (op_neD hu)
theorem ok_eq {K : PySem.W.Frag} : OpD K (rEqAll K) dEq := by
  intro B H x y v u z Q e rx ry ho k
  unfold dEq at ho
  cases q : dEqB x y with
  | none =>
    rw [q] at ho
    cases ho
  | some b =>
    rw [q] at ho
    cases ho
    rcases eqB_ok e rx ry q with ⟨hs, rfl⟩ | ⟨p, q', h1, h2, s1, s2, rfl⟩
    · exact .inl ⟨hs, k _ B H (Grow.refl e) (.bl _)⟩
    · exact .inr ⟨p, q', h1, h2, s1, s2, k _ B H (Grow.refl e) (.bl _)⟩
theorem ok_ne {K : PySem.W.Frag} : OpD K (rNeAll K) dNe := by
  intro B H x y v u z Q e rx ry ho k
  unfold dNe at ho
  cases q : dEqB x y with
  | none =>
    rw [q] at ho
    cases ho
  | some b =>
    rw [q] at ho
    cases ho
    rcases eqB_ok e rx ry q with ⟨hs, rfl⟩ | ⟨p, q', h1, h2, s1, s2, rfl⟩
    · exact .inl ⟨hs, k _ B H (Grow.refl e) (.bl _)⟩
    · exact .inr ⟨p, q', h1, h2, s1, s2, k _ B H (Grow.refl e) (.bl _)⟩

/-! #### is None, is True -/
def dIsB (x y : D) : Option Bool := match x, y with
  | .bl a, .bl b => some (decide (a = b))
  | .non, .non => some true
  | .al _, _ => none
  | _, .non => some false
  | _, _ => none
def dIs (x y : D) : Option D := (dIsB x y).map .bl
def dIsNot (x y : D) : Option D := (dIsB x y).map fun b => .bl (!b)
def rIsAll : R2 := fun x y H Q => (y = .non ∧ Q (.bl (decide (x = .non))) H) ∨ rIsB x y H Q
def rNotAll : R2 := fun x y H Q => (y = .non ∧ Q (.bl (!decide (x = .non))) H) ∨ rNotB x y H Q
theorem op_isAll {X : Cx} : OpR X (compareOp .Is) rIsAll := op_isN.or op_isBl
theorem op_notAll {X : Cx} : OpR X (compareOp .IsNot) rNotAll := op_notN.or op_notBl
theorem isB_ok {K : PySem.W.Frag} {B H : Hp} {x y : D} {v u : V} {b : Bool} (rx : RS K B H x v) (ry : RS K B H y u) (ho : dIsB x y = some b) :
    (u = .non ∧ b = decide (v = .non)) ∨ ∃ a a', v = .bl a ∧ u = .bl a' ∧ b = decide (a = a') := by
  cases x with
  | bl a => cases y with
    | bl a' =>
      cases ho
      cases (show Sh K B (.bl a) v from rx)
      cases (show Sh K B (.bl a') u from ry)
      exact .inr ⟨a, a', rfl, rfl, rfl⟩
    | non =>
      cases ho
      cases (show Sh K B (.bl a) v from rx)
      cases (show Sh K B .non u from ry)
      exact .inl ⟨rfl, rfl⟩
    | _ => cases ho
  | al i => cases ho
  | own xs =>
    obtain ⟨a, vs, G, rfl, _⟩ := rx
    cases y with
    | non =>
      cases ho
      cases (show Sh K B .non u from ry)
      exact .inl ⟨rfl, rfl⟩
    | _ => cases ho
  | bor xs =>
    obtain ⟨a, vs, G, rfl, _⟩ := rx
    cases y with
    | non =>
      cases ho
      cases (show Sh K B .non u from ry)
      exact .inl ⟨rfl, rfl⟩
    | _ => cases ho
  | _ => cases y with
    | non =>
      cases ho
      cases (show Sh K B .non u from ry)
      have rx : Sh K B _ v := rx
      cases rx <;> exact .inl ⟨rfl, rfl⟩
    | _ => cases ho
theorem ok_is {K : PySem.W.Frag} : OpD K rIsAll dIs := by
  intro B H x y v u z Q e rx ry ho k
  unfold dIs at ho
  cases q : dIsB x y with
  | none =>
    rw [q] at ho
    cases ho
  | some b =>
    rw [q] at ho
    cases ho
    rcases isB_ok rx ry q with ⟨h1, rfl⟩ | ⟨a, a', h1, h2, rfl⟩
    · exact .inl ⟨h1, k _ B H (Grow.refl e) (.bl _)⟩
    · exact .inr ⟨a, a', h1, h2, k _ B H (Grow.refl e) (.bl _)⟩
theorem ok_isNot {K : PySem.W.Frag} : OpD K rNotAll dIsNot := by
  intro B H x y v u z Q e rx ry ho k
  unfold dIsNot at ho
  cases q : dIsB x y with
  | none =>
    rw [q] at ho
    cases ho
  | some b =>
    rw [q] at ho
    cases ho
    rcases isB_ok rx ry q with ⟨h1, rfl⟩ | ⟨a, a', h1, h2, rfl⟩
    · exact .inl ⟨h1, k _ B H (Grow.refl e) (.bl _)⟩
    · exact .inr ⟨a, a', h1, h2, k _ B H (Grow.refl e) (.bl _)⟩
end DL
end

section
set_option maxRecDepth 100000
set_option maxHeartbeats 2000000
namespace DL
open PySem L2
open Evl (Ex)

/-! ### arguments -/
section
variable {X : Cx} {c : Ctx} {W : WX} {K : PySem.W.Frag}
theorem RTs.mono {B B' : Hp} {σ : L2.St} (e : Ex B B') : ∀ {ds : List D} {vs : List V}, RTs K B σ ds vs → RTs K B' σ ds vs
  | [], _, h => h
  | _ :: _, _, ⟨v, us, q, h, r⟩ => ⟨v, us, q, h.mono e, RTs.mono e r⟩
theorem RTs.length {B : Hp} {σ : L2.St} : ∀ {ds : List D} {vs : List V}, RTs K B σ ds vs → ds.length = vs.length
  | [], _, h => by cases (show _ = _ from h); rfl
  | _ :: _, _, ⟨v, us, q, h, r⟩ => by rw [q, List.length_cons, List.length_cons, RTs.length r]
theorem RTs.get {B : Hp} {σ : L2.St} : ∀ {ds : List D} {vs : List V} {i : Nat} {d : D}, RTs K B σ ds vs → ds[i]? = some d → ∃ v, vs[i]? = some v ∧ RT K B σ d v
  | [], _, _, _, h, e => by simp at e
  | x :: ds, _, 0, d, ⟨v, us, q, h, r⟩, e => by
    simp at e
    subst e q
    exact ⟨v, rfl, h⟩
  | x :: ds, _, i + 1, d, ⟨v, us, q, h, r⟩, e => by
    obtain ⟨u, h1, h2⟩ := RTs.get (i := i) r (by simpa using e)
    subst q
    exact ⟨u, by simpa using h1, h2⟩
theorem RTs.shs {B : Hp} {σ : L2.St} : ∀ {ds : List D} {vs : List V}, RTs K B σ ds vs → ds.all isSh = true → Shs K B ds vs
  | [], _, h, _ => by cases (show _ = _ from h); exact .nil
  | d :: ds, _, ⟨v, us, q, h, r⟩, a => by
    rw [List.all_cons, Bool.and_eq_true] at a
    subst q
    refine .cons ?_ (RTs.shs r a.2)
    cases d with
    | al i => exact absurd a.1 Bool.false_ne_true
    | _ => exact h
def aNil : M (List D) := mret []
def aCons (f : M D) (g : M (List D)) : M (List D) := mbind f fun d => mbind g fun ds => mret (d :: ds)
theorem da_nil : PA X [] (liftA X.K c W aNil) := PA_of pa_nil fun σ H Q q => by
  obtain ⟨T, B, e, st, m⟩ := q
  exact m B H (Evl.Ex.refl B) st [] rfl
theorem da_cons {x : Expr} {xs : List Expr} {f : M D} {g : M (List D)} (h : PE X x (lift X.K c W f)) (r : PA X xs (liftA X.K c W g)) (hs : starEach (x :: xs) X.env = (false, eval x X.env) :: starEach xs X.env := by rfl) : PA X (x :: xs) (liftA X.K c W (aCons f g)) :=
  PA_of (pa_cons h r hs) fun σ H Q q => by
    obtain ⟨T, B, e, st, m⟩ := q
    refine ⟨T, B, e, st, m.bind.imp fun d e1 B1 H1 x1 m1 st1 v rv => ?_⟩
    refine ⟨T, B1, e1, st1, m1.bind.imp fun ds e2 B2 H2 x2 m2 st2 us ru => ?_⟩
    exact m2 B2 H2 (Evl.Ex.refl _) st2 (v :: us) ⟨v, us, rfl, rv.mono x2, ru⟩
end

/-! ### a def as a function on data -/
structure After (B H : Hp) (L : Addr → Prop) (B' H' : Hp) : Prop where
  b : Ex B B'
  bh : Ex B' H'
  keep : ∀ a o, ¬ L a → H a = some o → H' a = some o
  there : ∀ a, H a ≠ none → H' a ≠ none
  old : ∀ a, H a ≠ none → B a = none → B' a = none
/-- what is lent comes back -/
def Outs (K : PySem.W.Frag) (H B' H' : Hp) (vs : List V) (ds : List D) (fp : Nat → List Addr) (outs : Env) (fp' : Nat → List Addr) : Prop :=
  (∀ (i : Nat) (xs : List D), ds[i]? = some (D.bor xs) → ∃ ys v, outs[i]? = some (some (.bor ys)) ∧ vs[i]? = some v ∧ Ow K B' H' (.bor ys) v (fp' i) ∧ (fp' i).Nodup ∧ ∀ a ∈ fp' i, a ∈ fp i ∨ H a = none) ∧
  ∀ i j a, i ≠ j → a ∈ fp' i → a ∉ fp' j
structure ArgsOk (K : PySem.W.Frag) (B H : Hp) (vs : List V) (ds : List D) (fp : Nat → List Addr) : Prop where
  bh : Ex B H
  len : vs.length = ds.length
  at_ : ∀ i d, ds[i]? = some d → ∃ v, vs[i]? = some v ∧ Ow K B H d v (fp i)
  out : ∀ i, ds.length ≤ i → fp i = []
  nd : ∀ i, (fp i).Nodup
  sep : ∀ i j a, i ≠ j → a ∈ fp i → a ∉ fp j
  noown : ∀ (i : Nat) (xs : List D), ds[i]? ≠ some (D.own xs)
  noal : ∀ (i j : Nat), ds[i]? ≠ some (D.al j)
def spF (K : PySem.W.Frag) (n : Nat) (F : List D → Rs D) : Sp := fun vs H Q E => ∃ B ds fp, ArgsOk K B H vs ds fp ∧ ds.length = n ∧ match F ds with
  | .ok r outs => ∀ v B' H' fp', After B H (fun a => ∃ i, a ∈ fp i) B' H' → Sh K B' r v → Outs K H B' H' vs ds fp outs fp' → Q v H'
  | .ex x outs => ∀ cls dd B' H' fp', After B H (fun a => ∃ i, a ∈ fp i) B' H' → RX K B' x cls dd → Outs K H B' H' vs ds fp outs fp' → E cls dd H'
  | .no => False
/-- lent slots stay lent -/
def borOk : List D → Env → Bool
  | [], _ => true
  | .bor _ :: ds, some (.bor _) :: e => borOk ds e
  | .bor _ :: _, _ => false
  | _ :: ds, _ :: e => borOk ds e
  | _ :: ds, [] => borOk ds []
theorem borOk_at : ∀ {ds : List D} {e : Env} {i : Nat} {xs : List D}, borOk ds e = true → ds[i]? = some (D.bor xs) → ∃ ys, e[i]? = some (some (D.bor ys))
  | [], _, _, _, _, h => by simp at h
  | d :: ds, [], 0, xs, b, h => by
    simp at h
    subst h
    exact absurd b Bool.false_ne_true
  | d :: ds, [], i + 1, xs, b, h => by
    have b2 : borOk ds [] = true := by cases d <;> first | exact b | exact absurd b Bool.false_ne_true
    obtain ⟨ys, q⟩ := borOk_at (i := i) b2 (by simpa using h)
    simp at q
  | d :: ds, o :: e, 0, xs, b, h => by
    simp at h
    subst h
    cases o with
    | none => exact absurd b Bool.false_ne_true
    | some u => cases u with
      | bor ys => exact ⟨ys, rfl⟩
      | _ => exact absurd b Bool.false_ne_true
  | d :: ds, o :: e, i + 1, xs, b, h => by
    have b2 : borOk ds e = true := by
      cases d with
      | bor zs => cases o with
        | none => exact absurd b Bool.false_ne_true
        | some u => cases u with
          | bor ys => exact b
          | _ => exact absurd b Bool.false_ne_true
      | _ => exact b
    obtain ⟨ys, q⟩ := borOk_at (i := i) b2 (by simpa using h)
    exact ⟨ys, by simpa using q⟩
/-- a body run -/
def endF (ds : List D) (r : Rs Fl) : Rs D := match r with
  | .ok (.rt d) e => if borOk ds e = true then .ok d e else .no
  | .ok .nx e => if borOk ds e = true then .ok .non e else .no
  | .ok _ _ => .no
  | .ex x e => if borOk ds e = true then .ex x e else .no
  | .no => .no
def runF (N : Nat) (g : M Fl) (ds : List D) : Rs D := endF ds (g (ds.map some ++ List.replicate (N - ds.length) none))
section
variable {K : PySem.W.Frag} {B H : Hp} {vs : List V} {ds : List D} {fp : Nat → List Addr} {N : List Str}
theorem start_ok (A : ArgsOk K B H vs ds fp) (hN : ds.length ≤ N.length) : StOk K { vs := vs, B0 := B, H0 := H, fp0 := fp } [] B H (L2.start N vs) (ds.map some ++ List.replicate (N.length - ds.length) none) where
  len := by simp [L2.start, A.len]
  slots := by
    have lt : ∀ (i : Nat) (d : D), (ds.map some ++ List.replicate (N.length - ds.length) none)[i]? = some (some d) → ds[i]? = some d := fun i d h => by
      by_cases hi : i < ds.length
      · rw [List.getElem?_append_left (by simpa using hi), List.getElem?_map] at h
        cases q : ds[i]? with
        | none =>
          rw [q] at h
          cases h
        | some u =>
          rw [q] at h
          cases h
          rfl
      · rw [List.getElem?_append_right (by simp; omega)] at h
        rw [List.getElem?_replicate] at h
        split at h <;> cases h
    refine ⟨fp, fun i d h => ?_, fun i h => ?_, A.nd, A.sep, fun a m => nomatch m⟩
    · have hd := lt i d h
      obtain ⟨v, hv, ow⟩ := A.at_ i d hd
      refine ⟨v, ?_, ow, ?_⟩
      · have hi : i < vs.length := (List.getElem?_eq_some_iff.mp hv).1
        unfold L2.start
        rw [List.getElem?_append_left (by simpa using hi), List.getElem?_map, hv] <;> rfl
      · cases d with
        | own xs => exact absurd hd (A.noown i xs)
        | al j => exact absurd hd (A.noal i j)
        | bor xs => exact ⟨hv, fun a m => .inl m⟩
        | _ =>
          have e := ow.inv.2
          rw [e]
          exact fun a m => nomatch m
    · by_cases hi : i < ds.length
      · exfalso
        refine h ds[i] ?_
        rw [List.getElem?_append_left (by simpa using hi), List.getElem?_map, List.getElem?_eq_getElem hi] <;> rfl
      · exact A.out i (by omega)
  tmp := fun a m => nomatch m
  tnd := List.nodup_nil
  bh := A.bh
  b0 := Evl.Ex.refl B
  keep := fun a o _ h => h
  there := fun a h => h
  old := fun a _ h => h
theorem after_ok {c : Ctx} {T : List (Addr × HO)} {B' H' : Hp} {σ : L2.St} {e : Env} (s : StOk K c T B' H' σ e) : After c.B0 c.H0 c.lent B' H' := ⟨s.b0, s.bh, s.keep, s.there, s.old⟩
theorem outs_ok {B' H' : Hp} {σ : L2.St} {e : Env} (A : ArgsOk K B H vs ds fp) (s : StOk K { vs := vs, B0 := B, H0 := H, fp0 := fp } [] B' H' σ e) (k : borOk ds e = true) : ∃ fp', Outs K H B' H' vs ds fp e fp' := by
  obtain ⟨gp, h1, h2, h3, h4, _⟩ := s.slots
  refine ⟨fun i => gp i, fun i xs hi => ?_, fun i j a hij hi hj => h4 i j a hij hi hj⟩
  obtain ⟨ys, hy⟩ := borOk_at k hi
  obtain ⟨v, _, ow, cd⟩ := h1 i _ hy
  exact ⟨ys, v, hy, cd.1, ow, h3 i, cd.2⟩
end
/-! ### the rule for a def -/
section
variable {P : Program} {w : World} {K : PySem.W.Frag} {mg : Str → Option Value} {base : Heap}
/-- a body's context -/
structure Bx (X : Cx) (W : WX) (k : Nat) : Prop where
  tk : Takes X W
  calm : X.calm = true
  room : Room k X.A
structure Body (X : Cx) (W : WX) (k : Nat) : Prop extends Bx X W k where
  hs : X.stack = X.env :: X.outer
  hf : X.env.frame = some X.env.locals
  po : PassesOwn (model X.prog X.w) X.A X.env X.xe
theorem fn_D {x qual : Str} {st : Stmt} {f : Addr} {fd : FuncData} {N ps : List Str} {k : Nat} {g : M Fl} (F : Fun K x qual st f fd) (S : FnScope N ps (defScope st)) (hN : ps.length ≤ N.length)
    (hb : ∀ (cdv : Value) (A : Around) (outer : List PySem.Env) (s : Shared) (H : Hp) (E : XK) (c : Ctx) (W : WX), Body (cxOf (L2.CX P w) P w K mg base N qual (defScope st) f cdv A outer s H E) W k →
      PSs (cxOf (L2.CX P w) P w K mg base N qual (defScope st) f cdv A outer s H E) (defBody st) (liftS K c W g)) :
    FnOk P w K mg base (L2.CX P w) (k + 1) f fd ps (spF K ps.length (runF N.length g)) := by
  refine F.okX S (fun vs H Q E h => ?_) (fun cdv A outer s H vs Q E hr h => ?_)
  · obtain ⟨B, ds, fp, a, hl, _⟩ := h
    rw [a.len, hl]
  · obtain ⟨B, ds, fp, a, hl, m⟩ := h
    refine ⟨_, hb cdv A outer s H E { vs := vs, B0 := B, H0 := H, fp0 := fp } (fun cls d _ H' => E cls d H') ⟨⟨takes_of rfl rfl rfl rfl, rfl, hr⟩, rfl, rfl, passes_of rfl⟩, ?_⟩
    refine ⟨B, _, start_ok a (by omega), ?_⟩
    unfold runF at m
    generalize g (ds.map some ++ List.replicate (N.length - ds.length) none) = r at m ⊢
    cases r with
    | no => exact m
    | ex y e =>
      by_cases hb : borOk ds e = true
      · rw [endF, if_pos hb] at m
        exact fun cls dd σ' B' H' x st rx => by
          obtain ⟨fp', o⟩ := outs_ok a st hb
          exact m cls dd B' H' fp' (after_ok st) rx o
      · rw [endF, if_neg hb] at m
        exact m.elim
    | ok fl e => cases fl with
      | nx =>
        by_cases hb : borOk ds e = true
        · rw [endF, if_pos hb] at m
          exact fun σ' B' H' x st => by
            obtain ⟨fp', o⟩ := outs_ok a st hb
            exact m .non B' H' fp' (after_ok st) .non o
        · rw [endF, if_neg hb] at m
          exact m.elim
      | rt d =>
        by_cases hb : borOk ds e = true
        · rw [endF, if_pos hb] at m
          exact fun v σ' B' H' x st sh => by
            obtain ⟨fp', o⟩ := outs_ok a st hb
            exact m v B' H' fp' (after_ok st) sh o
        · rw [endF, if_neg hb] at m
          exact m.elim
      | bk => exact m.elim
      | ct => exact m.elim
end

/-! ### the rule for a call -/
def isAl (j : Nat) : D → Bool
  | .al i => i == j
  | _ => false
def relab (o : Option D) (ys : List D) : Option D := match o with
  | some (.own _) => some (.own ys)
  | some (.bor _) => some (.bor ys)
  | o => o
/-- what was lent, put back -/
def putO (e : Env) (ds : List D) (outs : Env) : Env := e.mapIdx fun j o => match ds.findIdx? (isAl j) with
  | some k => (match outs[k]? with
    | some (some (.bor ys)) => relab o ys
    | _ => none)
  | none => o
/-- an argument as the def has it -/
def borOf : D → D
  | .own xs => .bor xs
  | .bor xs => .bor xs
  | _ => .own []
def rsB (e : Env) (d : D) : D := match d with
  | .al i => (match e[i]? with
    | some (some d) => borOf d
    | _ => .own [])
  | d => d
def alN : List D → Bool
  | [] => true
  | .al i :: r => !(r.any (isAl i)) && alN r
  | _ :: r => alN r
def noOwn : D → Bool
  | .own _ => false
  | _ => true
def eCall (n : Nat) (F : List D → Rs D) (fs : M (List D)) : M D := mbind fs fun ds => fun e =>
  if ds.length = n ∧ alN ds = true ∧ (ds.map (rsB e)).all noOwn = true then
    match F (ds.map (rsB e)) with
    | .ok r outs => .ok r (putO e ds outs)
    | .ex x outs => .ex x (putO e ds outs)
    | .no => .no
  else .no
theorem alN_at : ∀ {ds : List D} {i j k : Nat}, alN ds = true → ds[i]? = some (D.al k) → ds[j]? = some (D.al k) → i = j
  | [], _, _, _, _, h, _ => by simp at h
  | d :: r, 0, 0, _, _, _, _ => rfl
  | d :: r, 0, j + 1, k, a, h1, h2 => by
    simp at h1
    subst h1
    have a1 : (!(r.any (isAl k)) && alN r) = true := a
    rw [Bool.and_eq_true] at a1
    have : r.any (isAl k) = true := List.any_eq_true.mpr ⟨.al k, List.mem_of_getElem? (by simpa using h2), by simp [isAl]⟩
    rw [this] at a1
    exact absurd a1.1 Bool.false_ne_true
  | d :: r, i + 1, 0, k, a, h1, h2 => by
    simp at h2
    subst h2
    have a1 : (!(r.any (isAl k)) && alN r) = true := a
    rw [Bool.and_eq_true] at a1
    have : r.any (isAl k) = true := List.any_eq_true.mpr ⟨.al k, List.mem_of_getElem? (by simpa using h1), by simp [isAl]⟩
    rw [this] at a1
    exact absurd a1.1 Bool.false_ne_true
  | d :: r, i + 1, j + 1, k, a, h1, h2 => by
    have a2 : alN r = true := by
      cases d with
      | al m =>
        have a1 : (!(r.any (isAl m)) && alN r) = true := a
        rw [Bool.and_eq_true] at a1
        exact a1.2
      | _ => exact a
    exact congrArg Nat.succ (alN_at a2 (by simpa using h1) (by simpa using h2))
section
variable {K : PySem.W.Frag} {c : Ctx} {σ : L2.St} {B H : Hp} {e : Env} {ds : List D} {vs : List V} {T : List (Addr × HO)}
/-- what is lent with each argument -/
def lentFp (fp : Nat → List Addr) (ds : List D) : Nat → List Addr := fun k => match ds[k]? with
  | some (.al i) => fp i
  | _ => []
theorem lentFp_al {fp : Nat → List Addr} {k i : Nat} (h : ds[k]? = some (D.al i)) : lentFp fp ds k = fp i := by
  unfold lentFp
  rw [h]
theorem lentFp_mem {fp : Nat → List Addr} {k : Nat} {a : Addr} (h : a ∈ lentFp fp ds k) : ∃ i, ds[k]? = some (D.al i) ∧ a ∈ fp i := by
  unfold lentFp at h
  split at h
  · rename_i i q
    exact ⟨i, q, h⟩
  · cases h
theorem rsB_al {i j : Nat} (h : (ds.map (rsB e))[i]? = some (D.al j)) : False := by
  rw [List.getElem?_map] at h
  cases q : ds[i]? with
  | none =>
    rw [q] at h
    cases h
  | some u =>
    rw [q] at h
    have h : rsB e u = D.al j := Option.some.inj h
    cases u with
    | al k =>
      have h : (match e[k]? with
        | some (some d) => borOf d
        | _ => D.own []) = D.al j := h
      split at h
      · rename_i d _
        cases d <;> cases h
      · cases h
    | _ => cases h
theorem call_args (st : StOk K c T B H σ e) (r : RTs K B σ ds vs) (hal : alN ds = true) (hno : (ds.map (rsB e)).all noOwn = true) :
    ∃ fp, (∀ i d, e[i]? = some (some d) → SlotOk K c B H σ i d (fp i)) ∧ (∀ i, (∀ d, e[i]? ≠ some (some d)) → fp i = []) ∧ (∀ i, (fp i).Nodup) ∧ (∀ i j a, i ≠ j → a ∈ fp i → a ∉ fp j) ∧ (∀ q ∈ T, ∀ i, q.1 ∉ fp i) ∧
      ArgsOk K B H vs (ds.map (rsB e)) (lentFp fp ds) := by
  obtain ⟨fp, h1, h2, h3, h4, h5⟩ := st.slots
  refine ⟨fp, h1, h2, h3, h4, h5, ⟨st.bh, by rw [List.length_map, r.length], fun i d hd => ?_, fun i hi => ?_, fun i => ?_, fun i j a hij hi hj => ?_, fun i xs hx => ?_, fun i j hx => rsB_al hx⟩⟩
  · rw [List.getElem?_map] at hd
    cases q : ds[i]? with
    | none =>
      rw [q] at hd
      cases hd
    | some u =>
      rw [q] at hd
      have hd : rsB e u = d := Option.some.inj hd
      subst hd
      obtain ⟨v, hv, rv⟩ := r.get q
      refine ⟨v, hv, ?_⟩
      cases u with
      | al j =>
        rw [lentFp_al q]
        have nno : noOwn (rsB e (.al j)) = true := List.all_eq_true.mp hno _ (List.mem_map_of_mem (List.mem_of_getElem? q))
        have rv : σ[j]? = some (some v) := rv
        revert nno
        show noOwn (match e[j]? with
          | some (some d) => borOf d
          | _ => .own []) = true → Ow K B H (match e[j]? with
          | some (some d) => borOf d
          | _ => .own []) v (fp j)
        cases he : e[j]? with
        | none => exact fun z => absurd z Bool.false_ne_true
        | some o => cases o with
          | none => exact fun z => absurd z Bool.false_ne_true
          | some d =>
            obtain ⟨u, hu, ow, _⟩ := h1 j d he
            rw [hu] at rv
            have e3 : u = v := Option.some.inj (Option.some.inj rv)
            subst e3
            have ow := ow.inv
            cases d with
            | own xs =>
              obtain ⟨a, vs, G, rfl, q2, q3, q4, q5⟩ := ow
              rw [q2]
              exact fun _ => .bor q3 q4 q5
            | bor xs =>
              obtain ⟨a, vs, G, rfl, q2, q3, q4, q5⟩ := ow
              rw [q2]
              exact fun _ => .bor q3 q4 q5
            | _ => exact fun z => absurd z Bool.false_ne_true
      | _ =>
        have z : lentFp fp ds i = [] := by
          unfold lentFp
          rw [q]
        rw [z]
        exact .sh rv
  · have z : ds[i]? = none := List.getElem?_eq_none_iff.mpr (by simpa using hi)
    unfold lentFp
    rw [z]
  · unfold lentFp
    split
    · exact h3 _
    · exact List.nodup_nil
  · obtain ⟨p, hp, m1⟩ := lentFp_mem hi
    obtain ⟨q, hq, m2⟩ := lentFp_mem hj
    by_cases hpq : p = q
    · subst hpq
      exact hij (alN_at hal hp hq)
    · exact h4 p q a hpq m1 m2
  · have nno : noOwn (.own xs) = true := List.all_eq_true.mp hno _ (List.mem_of_getElem? hx)
    exact absurd nno Bool.false_ne_true
theorem putO_at (e : Env) (ds : List D) (outs : Env) (j : Nat) : (putO e ds outs)[j]? = (e[j]?).map fun o => match ds.findIdx? (isAl j) with
  | some k => (match outs[k]? with
    | some (some (.bor ys)) => relab o ys
    | _ => none)
  | none => o := by
  unfold putO
  rw [List.getElem?_mapIdx]
theorem findAl {j k : Nat} (h : ds.findIdx? (isAl j) = some k) : ds[k]? = some (D.al j) := by
  obtain ⟨h1, h2, _⟩ := List.findIdx?_eq_some_iff_getElem.mp h
  rw [List.getElem?_eq_getElem h1]
  generalize ds[k] = d at h2
  cases d with
  | al i =>
    have : i = j := by simpa [isAl] using h2
    rw [this]
  | _ => exact absurd h2 Bool.false_ne_true
theorem call_after (st : StOk K c T B H σ e) {fp : Nat → List Addr} (h1 : ∀ i d, e[i]? = some (some d) → SlotOk K c B H σ i d (fp i)) (h2 : ∀ i, (∀ d, e[i]? ≠ some (some d)) → fp i = []) (h3 : ∀ i, (fp i).Nodup) (h4 : ∀ i j a, i ≠ j → a ∈ fp i → a ∉ fp j) (h5 : ∀ q ∈ T, ∀ i, q.1 ∉ fp i)
    (r : RTs K B σ ds vs) (hal : alN ds = true) {B' H' : Hp} {outs : Env} {gp : Nat → List Addr} (af : After B H (fun a => ∃ i, a ∈ lentFp fp ds i) B' H') (o : Outs K H B' H' vs (ds.map (rsB e)) (lentFp fp ds) outs gp) (A : ArgsOk K B H vs (ds.map (rsB e)) (lentFp fp ds)) : StOk K c T B' H' σ (putO e ds outs) := by
  -- what an alias's slot becomes
  have back : ∀ j k d, e[j]? = some (some d) → ds.findIdx? (isAl j) = some k → ∃ xs ys v, (d = .own xs ∨ d = .bor xs) ∧ outs[k]? = some (some (.bor ys)) ∧ σ[j]? = some (some v) ∧ Ow K B' H' (.bor ys) v (gp k) ∧ (gp k).Nodup ∧ (∀ a ∈ gp k, a ∈ fp j ∨ H a = none) ∧ Cond c j d v (fp j) := fun j k d hd hk => by
    have q := findAl hk
    obtain ⟨v, hv, rv⟩ := r.get q
    have rv : σ[j]? = some (some v) := rv
    obtain ⟨u, hu, ow, cd⟩ := h1 j d hd
    rw [hu] at rv
    have e3 : u = v := Option.some.inj (Option.some.inj rv)
    subst e3
    have hq : (ds.map (rsB e))[k]? = some (rsB e (.al j)) := by rw [List.getElem?_map, q] <;> rfl
    obtain ⟨_, _, ow'⟩ := A.at_ k _ hq
    have eq : rsB e (.al j) = borOf d := by
      show (match e[j]? with
        | some (some d) => borOf d
        | _ => .own []) = _
      rw [hd]
    rw [eq] at hq
    cases d with
    | own xs =>
      obtain ⟨ys, v', o1, o2, o3, o4, o5⟩ := o.1 k xs hq
      rw [hv] at o2
      cases o2
      exact ⟨xs, ys, u, .inl rfl, o1, hu, o3, o4, fun a m => by rw [← lentFp_al (fp := fp) q]; exact o5 a m, cd⟩
    | bor xs =>
      obtain ⟨ys, v', o1, o2, o3, o4, o5⟩ := o.1 k xs hq
      rw [hv] at o2
      cases o2
      exact ⟨xs, ys, u, .inr rfl, o1, hu, o3, o4, fun a m => by rw [← lentFp_al (fp := fp) q]; exact o5 a m, cd⟩
    | _ => exact absurd hq (A.noown k [])
  -- a slot that is not lent
  have keep : ∀ j a, ds.findIdx? (isAl j) = none → a ∈ fp j → ¬ ∃ i, a ∈ lentFp fp ds i := fun j a hn hm ⟨i, hi⟩ => by
    obtain ⟨p, hp, m1⟩ := lentFp_mem hi
    by_cases hpj : p = j
    · subst hpj
      have := List.findIdx?_eq_none_iff.mp hn (.al p) (List.mem_of_getElem? hp)
      simp [isAl] at this
    · exact h4 p j a hpj m1 hm
  let nfp : Nat → List Addr := fun j => match e[j]? with
    | some (some _) => (match ds.findIdx? (isAl j) with
      | some k => gp k
      | none => fp j)
    | _ => []
  have nfp_some : ∀ j d, e[j]? = some (some d) → nfp j = (match ds.findIdx? (isAl j) with
      | some k => gp k
      | none => fp j) := fun j d h => by
    show (match e[j]? with
      | some (some _) => (match ds.findIdx? (isAl j) with
        | some k => gp k
        | none => fp j)
      | _ => []) = _
    rw [h]
  have live : ∀ j a, a ∈ nfp j → (∃ d, e[j]? = some (some d)) ∧ ((∃ k, ds.findIdx? (isAl j) = some k ∧ a ∈ gp k) ∨ (ds.findIdx? (isAl j) = none ∧ a ∈ fp j)) := fun j a m => by
    have m : a ∈ (match e[j]? with
      | some (some _) => (match ds.findIdx? (isAl j) with
        | some k => gp k
        | none => fp j)
      | _ => []) := m
    cases he : e[j]? with
    | none =>
      rw [he] at m
      cases m
    | some od => cases od with
      | none =>
        rw [he] at m
        cases m
      | some d =>
        rw [he] at m
        refine ⟨⟨d, rfl⟩, ?_⟩
        cases hk : ds.findIdx? (isAl j) with
        | none =>
          rw [hk] at m
          exact .inr ⟨rfl, m⟩
        | some k =>
          rw [hk] at m
          exact .inl ⟨k, rfl, m⟩
  have alive : ∀ j a, a ∈ fp j → H a ≠ none ∧ B a = none := fun j a m => by
    cases he : e[j]? with
    | none =>
      rw [h2 j (fun d z => by rw [he] at z; cases z)] at m
      cases m
    | some od => cases od with
      | none =>
        rw [h2 j (fun d z => by rw [he] at z; cases z)] at m
        cases m
      | some d =>
        obtain ⟨v, _, ow, _⟩ := h1 j d he
        exact ⟨(ow.free a m).2, (ow.free a m).1⟩
  have fresh0 : ∀ a, H a = none → c.H0 a = none := fun a n => by
    cases q : c.H0 a with
    | none => rfl
    | some o => exact absurd n (st.there a (by rw [q]; exact fun z => nomatch z))
  refine ⟨?_, ⟨nfp, fun j d hd => ?_, fun j hn => ?_, fun j => ?_, fun i j a hij hi hj => ?_, fun q m i hi => ?_⟩, fun q m => ?_, st.tnd, af.bh, st.b0.trans af.b, fun a o nl h => ?_, fun a n => af.there a (st.there a n), fun a n z => af.old a (st.there a n) (st.old a n z)⟩
  · unfold putO
    rw [List.length_mapIdx]
    exact st.len
  · rw [putO_at] at hd
    cases he : e[j]? with
    | none =>
      rw [he] at hd
      cases hd
    | some od =>
      rw [he] at hd
      have hd : (match ds.findIdx? (isAl j) with
        | some k => (match outs[k]? with
          | some (some (.bor ys)) => relab od ys
          | _ => none)
        | none => od) = some d := Option.some.inj hd
      cases hk : ds.findIdx? (isAl j) with
      | none =>
        rw [hk] at hd
        have hd : od = some d := hd
        subst hd
        rw [nfp_some j d he, hk]
        obtain ⟨v, hv, ow, cd⟩ := h1 j d he
        exact ⟨v, hv, ow.mono af.b (fun a m => af.old a (ow.free a m).2 (ow.free a m).1) (fun a m o q => af.keep a o (keep j a hk m) q), cd⟩
      | some k =>
        rw [hk] at hd
        cases od with
        | none =>
          exfalso
          have hd : (match outs[k]? with
            | some (some (.bor ys)) => relab none ys
            | _ => none) = some d := hd
          split at hd <;> cases hd
        | some d0 =>
          obtain ⟨xs, ys, v, hx, o1, hv, ow, nd, hf, cd⟩ := back j k d0 he hk
          rw [nfp_some j d0 he, hk]
          have hd : (match outs[k]? with
            | some (some (.bor ys)) => relab (some d0) ys
            | _ => none) = some d := hd
          rw [o1] at hd
          have hd : relab (some d0) ys = some d := hd
          have ow := ow.inv
          obtain ⟨a0, us, G, rfl, q2, q3, q4, q5⟩ := ow
          show SlotOk K c B' H' σ j d (gp k)
          rcases hx with rfl | rfl
          · cases hd
            refine ⟨.ref a0, hv, by rw [q2]; exact .own q3 q4 q5, fun a m => ?_⟩
            rcases hf a m with z | z
            · exact cd a z
            · exact fresh0 a z
          · cases hd
            refine ⟨.ref a0, hv, by rw [q2]; exact .bor q3 q4 q5, cd.1, fun a m => ?_⟩
            rcases hf a m with z | z
            · exact cd.2 a z
            · exact .inr (fresh0 a z)
  · show nfp j = []
    cases he : e[j]? with
    | none =>
      show (match e[j]? with
        | some (some _) => _
        | _ => []) = []
      rw [he]
    | some od => cases od with
      | none =>
        show (match e[j]? with
          | some (some _) => _
          | _ => []) = []
        rw [he]
      | some d =>
        rw [nfp_some j d he]
        cases hk : ds.findIdx? (isAl j) with
        | none =>
          exfalso
          refine hn d ?_
          rw [putO_at, he, hk] <;> rfl
        | some k =>
          exfalso
          obtain ⟨xs, ys, v, hx, o1, _⟩ := back j k d he hk
          rcases hx with rfl | rfl
          · refine hn (.own ys) ?_
            rw [putO_at, he, hk]
            show some (match outs[k]? with
              | some (some (.bor ys)) => relab (some (D.own xs)) ys
              | _ => none) = _
            rw [o1] <;> rfl
          · refine hn (.bor ys) ?_
            rw [putO_at, he, hk]
            show some (match outs[k]? with
              | some (some (.bor ys)) => relab (some (D.bor xs)) ys
              | _ => none) = _
            rw [o1] <;> rfl
  · cases he : e[j]? with
    | none =>
      show (match e[j]? with
        | some (some _) => (match ds.findIdx? (isAl j) with
          | some k => gp k
          | none => fp j)
        | _ => []).Nodup
      rw [he]
      exact List.nodup_nil
    | some od => cases od with
      | none =>
        show (match e[j]? with
          | some (some _) => (match ds.findIdx? (isAl j) with
            | some k => gp k
            | none => fp j)
          | _ => []).Nodup
        rw [he]
        exact List.nodup_nil
      | some d =>
        rw [nfp_some j d he]
        cases hk : ds.findIdx? (isAl j) with
        | none => exact h3 j
        | some k =>
          obtain ⟨xs, ys, v, hx, o1, hv, ow, nd, hf, cd⟩ := back j k d he hk
          exact nd
  · obtain ⟨⟨di, hdi⟩, li⟩ := live i a hi
    obtain ⟨⟨dj, hdj⟩, lj⟩ := live j a hj
    rcases li with ⟨k, hk, mk⟩ | ⟨hk, mk⟩
    · rcases lj with ⟨l, hl, ml⟩ | ⟨hl, ml⟩
      · refine o.2 k l a (fun z => ?_) mk ml
        subst z
        have q1 := findAl hk
        rw [findAl hl] at q1
        cases q1
        exact hij rfl
      · obtain ⟨xs, ys, v, hx, o1, hv, ow, nd, hf, cd⟩ := back i k di hdi hk
        rcases hf a mk with z | z
        · exact h4 i j a hij z ml
        · exact (alive j a ml).1 z
    · rcases lj with ⟨l, hl, ml⟩ | ⟨hl, ml⟩
      · obtain ⟨xs, ys, v, hx, o1, hv, ow, nd, hf, cd⟩ := back j l dj hdj hl
        rcases hf a ml with z | z
        · exact h4 i j a hij mk z
        · exact (alive i a mk).1 z
      · exact h4 i j a hij mk ml
  · obtain ⟨⟨di, hdi⟩, li⟩ := live i _ hi
    rcases li with ⟨k, hk, mk⟩ | ⟨hk, mk⟩
    · obtain ⟨xs, ys, v, hx, o1, hv, ow, nd, hf, cd⟩ := back i k di hdi hk
      rcases hf _ mk with z | z
      · exact h5 q m i z
      · rw [(st.tmp q m).2.1] at z
        cases z
    · exact h5 q m i mk
  · obtain ⟨t1, t2, t3⟩ := st.tmp q m
    refine ⟨t1, af.keep _ _ (fun ⟨i, hi⟩ => ?_) t2, af.old _ (by rw [t2]; exact fun z => (nomatch z)) t3⟩
    obtain ⟨p, hp, m1⟩ := lentFp_mem hi
    exact h5 q m p m1
  · refine af.keep a o (fun ⟨i, hi⟩ => ?_) (st.keep a o nl h)
    obtain ⟨p, hp, m1⟩ := lentFp_mem hi
    -- what is lent is the caller's loan, or new
    cases he : e[p]? with
    | none =>
      rw [h2 p (fun d z => by rw [he] at z; cases z)] at m1
      cases m1
    | some od => cases od with
      | none =>
        rw [h2 p (fun d z => by rw [he] at z; cases z)] at m1
        cases m1
      | some d =>
        obtain ⟨v, _, ow, cd⟩ := h1 p d he
        have out : c.H0 a = none → False := fun z => by
          rw [h] at z
          cases z
        cases d with
        | bor xs =>
          rcases cd.2 a m1 with z | z
          · exact nl ⟨p, z⟩
          · exact out z
        | al j =>
          rw [show fp p = [] from ow.inv] at m1
          cases m1
        | _ => exact out (cd a m1)
end
section
variable {X : Cx} {c : Ctx} {W : WX} {k kf n : Nat} {f : Addr} {fd : FuncData} {ps : List Str} {x : Str} {p pos : Pos} {e : Expr} {es : List Expr} {fs : M (List D)} {Fm : List D → Rs D}
theorem call_conv : ∀ σ H Q, lift X.K c W (eCall n Fm fs) σ H Q → tCallS (spF X.K n Fm) (WE W) (liftA X.K c W fs) σ H Q := fun σ H Q q => by
  obtain ⟨T, B, e, st, m⟩ := q
  refine ⟨T, B, e, st, m.bind.imp fun ds e1 B1 H1 x1 m1 st1 vs rv => ?_⟩
  have m1 : Pst X.K c T W σ B1 (if ds.length = n ∧ alN ds = true ∧ (ds.map (rsB e1)).all noOwn = true then
    match Fm (ds.map (rsB e1)) with
    | .ok r outs => .ok r (putO e1 ds outs)
    | .ex x outs => .ex x (putO e1 ds outs)
    | .no => .no
  else .no) _ := m1
  by_cases hc : ds.length = n ∧ alN ds = true ∧ (ds.map (rsB e1)).all noOwn = true
  · rw [if_pos hc] at m1
    obtain ⟨h1, h2, h3⟩ := hc
    obtain ⟨fp, a1, a2, a3, a4, a5, A⟩ := call_args st1 rv h2 h3
    refine ⟨B1, ds.map (rsB e1), lentFp fp ds, A, by rw [List.length_map]; exact h1, ?_⟩
    generalize Fm (ds.map (rsB e1)) = r at m1 ⊢
    cases r with
    | no => exact m1
    | ok d outs => exact fun v B' H' gp af sh o => m1 B' H' af.b (call_after st1 a1 a2 a3 a4 a5 rv h2 af o A) v (RT.of sh)
    | ex y outs => exact fun cls dd B' H' gp af rx o => m1 cls dd B' H' af.b (call_after st1 a1 a2 a3 a4 a5 rv h2 af o A) rx
  · rw [if_neg hc] at m1
    exact m1.elim
theorem de_call (b : Bx X W k) (F : FnOk X.prog X.w X.K X.mg X.base (L2.CX X.prog X.w) kf f fd ps (spF X.K n Fm)) (hk : kf ≤ k) (hg : Gl X x) (hm : X.mg x = some (.ref f)) (hp : PySem.W.keepIn X.K (.ref f) = true) (hb : Binds X.K fd ps [])
    (ha : PA X (e :: es) (liftA X.K c W fs)) (hdb : (x == ("__debug__" : Str)) = false := by decide) (he : starEach (e :: es) X.env = (false, eval e X.env) :: starEach es X.env := by rfl) (hpl : (backTo pos (starEach es X.env)).any (·.1) = false := by rfl) :
    PE X (.Call (.Name x p) (e :: es) [] pos) (lift X.K c W (eCall n Fm fs)) :=
  PE_of (pe_callS F (b.room.mono hk) hg hm hp hb (fun σ => passAt b.tk σ) ha hdb he hpl) call_conv
end
end DL
end

section
set_option maxRecDepth 100000
set_option maxHeartbeats 2000000
namespace DL
open PySem L2
open Evl (Ex)

/-! ### slots written -/
section
variable {K : PySem.W.Frag} {c : Ctx} {B H : Hp} {σ : L2.St} {e : Env}
theorem set_self {α : Type} {l : List α} {i : Nat} {a b : α} (h : (l.set i a)[i]? = some b) : b = a := by
  by_cases hi : i < l.length
  · rw [List.getElem?_set_self hi] at h
    exact (Option.some.inj h).symm
  · rw [List.getElem?_eq_none (by simpa using hi)] at h
    cases h
theorem StOk.set {T : List (Addr × HO)} (s : StOk K c T B H σ e) {i : Nat} {d : D} {v : V} (r : Sh K B d v) : StOk K c T B H (σ.set i (some v)) (e.set i (some d)) where
  len := by rw [List.length_set, List.length_set]; exact s.len
  slots := by
    obtain ⟨fp, h1, h2, h3, h4, h5⟩ := s.slots
    refine ⟨fun j => if j = i then [] else fp j, fun j u hu => ?_, fun j hn => ?_, fun j => ?_, fun j k a hjk hj hk => ?_, fun q m j hj => ?_⟩
    · dsimp only
      by_cases hj : j = i
      · subst hj
        have q := set_self hu
        cases q
        have hl : j < σ.length := by
          rw [← s.len]
          have := (List.getElem?_eq_some_iff.mp hu).1
          simpa using this
        refine ⟨v, List.getElem?_set_self hl, ?_, ?_⟩
        · rw [if_pos rfl]
          exact .sh r
        · rw [if_pos rfl]
          cases d with
          | bor xs => cases r
          | al j => cases r
          | _ => exact fun a m => (nomatch m)
      · rw [List.getElem?_set_ne (Ne.symm hj)] at hu
        obtain ⟨w, hw, ow, cd⟩ := h1 j u hu
        refine ⟨w, by rw [List.getElem?_set_ne (Ne.symm hj)]; exact hw, ?_, ?_⟩
        · rw [if_neg hj]
          exact ow
        · rw [if_neg hj]
          exact cd
    · by_cases hj : j = i
      · exact if_pos hj
      · show (if j = i then [] else fp j) = []
        rw [if_neg hj]
        exact h2 j fun u hu => hn u (by rw [List.getElem?_set_ne (Ne.symm hj)]; exact hu)
    · show (if j = i then [] else fp j).Nodup
      split
      · exact List.nodup_nil
      · exact h3 j
    · have hj : a ∈ (if j = i then [] else fp j) := hj
      have hk : a ∈ (if k = i then [] else fp k) := hk
      split at hj
      · cases hj
      · split at hk
        · cases hk
        · exact h4 j k a hjk hj hk
    · have hj : q.1 ∈ (if j = i then [] else fp j) := hj
      split at hj
      · cases hj
      · exact h5 q m j hj
  tmp := s.tmp
  tnd := s.tnd
  bh := s.bh
  b0 := s.b0
  keep := s.keep
  there := s.there
  old := s.old
/-- a new list is given to a slot -/
theorem StOk.setF {p : Addr} {vs : List V} {T : List (Addr × HO)} (s : StOk K c ((p, .lst vs) :: T) B H σ e) {i : Nat} {ds : List D} (r : Shs K B ds vs) :
    StOk K c T B H (σ.set i (some (.ref p))) (e.set i (some (.own ds))) where
  len := by rw [List.length_set, List.length_set]; exact s.len
  slots := by
    obtain ⟨fp, h1, h2, h3, h4, h5⟩ := s.slots
    obtain ⟨t1, t2, t3⟩ := s.tmp _ List.mem_cons_self
    refine ⟨fun j => if j = i ∧ i < e.length then [p] else if j = i then [] else fp j, fun j u hu => ?_, fun j hn => ?_, fun j => ?_, fun j k a hjk hj hk => ?_, fun q m j hj => ?_⟩
    · dsimp only
      by_cases hj : j = i
      · subst hj
        have q := set_self hu
        cases q
        have he : j < e.length := by
          have := (List.getElem?_eq_some_iff.mp hu).1
          simpa using this
        have hl : j < σ.length := by rw [← s.len]; exact he
        refine ⟨.ref p, List.getElem?_set_self hl, ?_, ?_⟩
        · rw [if_pos ⟨rfl, he⟩]
          exact .own t2 t3 r.ows
        · rw [if_pos ⟨rfl, he⟩]
          exact fun a m => by
            rw [List.mem_singleton.mp m]
            exact t1
      · rw [List.getElem?_set_ne (Ne.symm hj)] at hu
        obtain ⟨w, hw, ow, cd⟩ := h1 j u hu
        refine ⟨w, by rw [List.getElem?_set_ne (Ne.symm hj)]; exact hw, ?_, ?_⟩
        · rw [if_neg (fun z => hj z.1), if_neg hj]
          exact ow
        · rw [if_neg (fun z => hj z.1), if_neg hj]
          exact cd
    · show (if j = i ∧ i < e.length then [p] else if j = i then [] else fp j) = []
      by_cases hj : j = i
      · subst hj
        rw [if_neg (fun z => hn (.own ds) (List.getElem?_set_self z.2)), if_pos rfl]
      · rw [if_neg (fun z => hj z.1), if_neg hj]
        exact h2 j fun u hu => hn u (by rw [List.getElem?_set_ne (Ne.symm hj)]; exact hu)
    · show (if j = i ∧ i < e.length then [p] else if j = i then [] else fp j).Nodup
      split
      · exact List.nodup_cons.mpr ⟨by simp, List.nodup_nil⟩
      · split
        · exact List.nodup_nil
        · exact h3 j
    · have hj : a ∈ (if j = i ∧ i < e.length then [p] else if j = i then [] else fp j) := hj
      have hk : a ∈ (if k = i ∧ i < e.length then [p] else if k = i then [] else fp k) := hk
      by_cases zj : j = i ∧ i < e.length
      · rw [if_pos zj] at hj
        by_cases zk : k = i
        · exact hjk (zj.1.trans zk.symm)
        · rw [if_neg (fun z => zk z.1), if_neg zk] at hk
          rw [List.mem_singleton.mp hj] at hk
          exact h5 _ List.mem_cons_self k hk
      · rw [if_neg zj] at hj
        by_cases yj : j = i
        · rw [if_pos yj] at hj
          cases hj
        · rw [if_neg yj] at hj
          by_cases zk : k = i ∧ i < e.length
          · rw [if_pos zk] at hk
            rw [List.mem_singleton.mp hk] at hj
            exact h5 _ List.mem_cons_self j hj
          · rw [if_neg zk] at hk
            split at hk
            · cases hk
            · exact h4 j k a hjk hj hk
    · have hj : q.1 ∈ (if j = i ∧ i < e.length then [p] else if j = i then [] else fp j) := hj
      split at hj
      · exact s.tmp_ne q m (List.mem_singleton.mp hj)
      · split at hj
        · cases hj
        · exact h5 q (List.mem_cons_of_mem _ m) j hj
  tmp := fun q m => s.tmp q (List.mem_cons_of_mem _ m)
  tnd := (List.nodup_cons.mp s.tnd).2
  bh := s.bh
  b0 := s.b0
  keep := s.keep
  there := s.there
  old := s.old
/-- a slot is forgotten -/
theorem StOk.drop {T : List (Addr × HO)} (s : StOk K c T B H σ e) (i : Nat) : StOk K c T B H σ (e.set i none) where
  len := by rw [List.length_set]; exact s.len
  slots := by
    obtain ⟨fp, h1, h2, h3, h4, h5⟩ := s.slots
    have ne : ∀ {j : Nat} {u : D}, (e.set i none)[j]? = some (some u) → j ≠ i ∧ e[j]? = some (some u) := fun {j u} hu => by
      by_cases hj : j = i
      · subst hj
        have := set_self hu
        cases this
      · rw [List.getElem?_set_ne (Ne.symm hj)] at hu
        exact ⟨hj, hu⟩
    refine ⟨fun j => if j = i then [] else fp j, fun j u hu => ?_, fun j hn => ?_, fun j => ?_, fun j k a hjk hj hk => ?_, fun q m j hj => ?_⟩
    · dsimp only
      obtain ⟨hj, hu⟩ := ne hu
      obtain ⟨w, hw, ow, cd⟩ := h1 j u hu
      refine ⟨w, hw, ?_, ?_⟩
      · rw [if_neg hj]
        exact ow
      · rw [if_neg hj]
        exact cd
    · by_cases hj : j = i
      · exact if_pos hj
      · show (if j = i then [] else fp j) = []
        rw [if_neg hj]
        exact h2 j fun u hu => hn u (by rw [List.getElem?_set_ne (Ne.symm hj)]; exact hu)
    · show (if j = i then [] else fp j).Nodup
      split
      · exact List.nodup_nil
      · exact h3 j
    · have hj : a ∈ (if j = i then [] else fp j) := hj
      have hk : a ∈ (if k = i then [] else fp k) := hk
      split at hj
      · cases hj
      · split at hk
        · cases hk
        · exact h4 j k a hjk hj hk
    · have hj : q.1 ∈ (if j = i then [] else fp j) := hj
      split at hj
      · cases hj
      · exact h5 q m j hj
  tmp := s.tmp
  tnd := s.tnd
  bh := s.bh
  b0 := s.b0
  keep := s.keep
  there := s.there
  old := s.old
/-- a flat list of a slot is changed -/
theorem StOk.write {T : List (Addr × HO)} {i : Nat} {a : Addr} {d : D} {xs ys : List D} {vs us : List V} (s : StOk K c T B H σ e) (hd : e[i]? = some (some d)) (hx : d = .own xs ∨ d = .bor xs) (hv : σ[i]? = some (some (.ref a))) (hH : H a = some (.lst vs)) (hs : (ys.all isSh) = true) (r : Shs K B ys us) :
    StOk K c T B (upd H a (.lst us)) σ (e.set i (relab (some d) ys)) := by
  obtain ⟨fp, h1, h2, h3, h4, h5⟩ := s.slots
  obtain ⟨v, hv', ow, cd⟩ := h1 i d hd
  rw [hv] at hv'
  have e3 : V.ref a = v := Option.some.inj (Option.some.inj hv')
  subst e3
  have hi : i < e.length := (List.getElem?_eq_some_iff.mp hd).1
  -- the slot's own list stands at a
  have own : ∃ G, fp i = a :: G ∧ B a = none := by
    have ow := ow.inv
    rcases hx with rfl | rfl
    · obtain ⟨b, ws, G, q1, q2, q3, q4, q5⟩ := ow
      cases q1
      exact ⟨G, q2, q4⟩
    · obtain ⟨b, ws, G, q1, q2, q3, q4, q5⟩ := ow
      cases q1
      exact ⟨G, q2, q4⟩
  obtain ⟨G, hG, hB⟩ := own
  have am : a ∈ fp i := by rw [hG]; exact List.mem_cons_self
  have bh' : Ex B (upd H a (.lst us)) := fun b o q => by
    rw [upd_ne (ne_of_none q hB)]
    exact s.bh b o q
  refine ⟨by rw [List.length_set]; exact s.len, ⟨fun j => if j = i then [a] else fp j, fun j u hu => ?_, fun j hn => ?_, fun j => ?_, fun j k b hjk hj hk => ?_, fun q m j hj => ?_⟩, fun q m => ?_, s.tnd, bh', s.b0, fun b o nl h => ?_, fun b n => ?_, s.old⟩
  · dsimp only
    by_cases hj : j = i
    · subst hj
      have q := set_self hu
      rw [if_pos rfl]
      rcases hx with rfl | rfl
      · cases q
        exact ⟨.ref a, hv, .own upd_same hB r.ows, fun b m => cd b (by rw [List.mem_singleton.mp m]; exact am)⟩
      · cases q
        exact ⟨.ref a, hv, .bor upd_same hB r.ows, cd.1, fun b m => cd.2 b (by rw [List.mem_singleton.mp m]; exact am)⟩
    · rw [List.getElem?_set_ne (Ne.symm hj)] at hu
      obtain ⟨w, hw, ow', cd'⟩ := h1 j u hu
      rw [if_neg hj]
      refine ⟨w, hw, ow'.mono (Evl.Ex.refl B) (fun b m => (ow'.free b m).1) (fun b m o q => ?_), cd'⟩
      rw [upd_ne (fun (z : b = a) => h4 j i b hj m (by rw [z]; exact am))]
      exact q
  · by_cases hj : j = i
    · subst hj
      exfalso
      rcases hx with rfl | rfl
      · exact hn (.own ys) (List.getElem?_set_self hi)
      · exact hn (.bor ys) (List.getElem?_set_self hi)
    · show (if j = i then [a] else fp j) = []
      rw [if_neg hj]
      exact h2 j fun u hu => hn u (by rw [List.getElem?_set_ne (Ne.symm hj)]; exact hu)
  · show (if j = i then [a] else fp j).Nodup
    split
    · exact List.nodup_cons.mpr ⟨by simp, List.nodup_nil⟩
    · exact h3 j
  · have hj : b ∈ (if j = i then [a] else fp j) := hj
    have hk : b ∈ (if k = i then [a] else fp k) := hk
    by_cases zj : j = i
    · rw [if_pos zj] at hj
      rw [if_neg (fun z => hjk (zj.trans z.symm))] at hk
      rw [List.mem_singleton.mp hj] at hk
      exact h4 i k a (fun z => hjk (zj.trans z)) am hk
    · rw [if_neg zj] at hj
      by_cases zk : k = i
      · rw [if_pos zk] at hk
        rw [List.mem_singleton.mp hk] at hj
        exact h4 j i a zj hj am
      · rw [if_neg zk] at hk
        exact h4 j k b hjk hj hk
  · have hj : q.1 ∈ (if j = i then [a] else fp j) := hj
    split at hj
    · exact h5 q m i (by rw [List.mem_singleton.mp hj]; exact am)
    · exact h5 q m j hj
  · obtain ⟨t1, t2, t3⟩ := s.tmp q m
    refine ⟨t1, ?_, t3⟩
    rw [upd_ne (fun (z : q.1 = a) => h5 q m i (by rw [z]; exact am))]
    exact t2
  · have nb : b ≠ a := fun z => by
      subst z
      rcases hx with rfl | rfl
      · have z := cd b am
        rw [h] at z
        cases z
      · rcases cd.2 b am with z | z
        · exact nl ⟨i, z⟩
        · rw [h] at z
          cases z
    rw [upd_ne nb]
    exact s.keep b o nl h
  · by_cases hb : b = a
    · subst hb
      rw [upd_same]
      exact fun z => (nomatch z)
    · rw [upd_ne hb]
      exact s.there b n
end

/-! ### statements -/
section
variable {X : Cx} {c : Ctx} {W : WX} {K : PySem.W.Frag}
/-- how a statement ends -/
def SEnd (K : PySem.W.Frag) (c : Ctx) (W : WX) (B : Hp) (Dn : Ends) (r : Rs Fl) : Prop := match r with
  | .ok .nx e' => ∀ σ' B' H', Ex B B' → StOk K c [] B' H' σ' e' → Dn.nx σ' H'
  | .ok .bk e' => ∀ σ' B' H', Ex B B' → StOk K c [] B' H' σ' e' → Dn.bk σ' H'
  | .ok .ct e' => ∀ σ' B' H', Ex B B' → StOk K c [] B' H' σ' e' → Dn.ct σ' H'
  | .ok (.rt d) e' => ∀ v σ' B' H', Ex B B' → StOk K c [] B' H' σ' e' → Sh K B' d v → Dn.rt v H'
  | .ex x e' => ∀ cls dd σ' B' H', Ex B B' → StOk K c [] B' H' σ' e' → RX K B' x cls dd → W cls dd σ' H'
  | .no => False
theorem liftS_eq {f : M Fl} {Dn : Ends} {σ : L2.St} {H : Hp} : liftS K c W f Dn σ H ↔ ∃ B e, StOk K c [] B H σ e ∧ SEnd K c W B Dn (f e) := Iff.rfl
theorem SEnd.mono {B B' : Hp} {Dn : Ends} {r : Rs Fl} (x : Ex B B') (h : SEnd K c W B Dn r) : SEnd K c W B' Dn r := by
  cases r with
  | no => exact h
  | ex y e => exact fun cls dd σ' B2 H' z => h cls dd σ' B2 H' (x.trans z)
  | ok fl e => cases fl with
    | rt d => exact fun v σ' B2 H' z => h v σ' B2 H' (x.trans z)
    | _ => exact fun σ' B2 H' z => h σ' B2 H' (x.trans z)
/-- from an expression on -/
theorem Pst.go {α : Type} {σ : L2.St} {B : Hp} {r : Rs α} {f : α → M Fl} {Dn : Ends} (h : SEnd K c W B Dn (r.bind f)) : Pst K c [] W σ B r (fun a e' B' _ => SEnd K c W B' Dn (f a e')) := by
  cases r with
  | ok a e => exact fun B' _ x => h.mono x
  | ex y e => exact fun cls dd B' H' x => h cls dd σ B' H' x
  | no => exact h
def sNext : M Fl := mret .nx
def sSeq (a b : M Fl) : M Fl := fun e => match a e with
  | .ok .nx e' => b e'
  | r => r
theorem ds_nil : PSs X [] (liftS X.K c W sNext) := PSs_of pss_nil fun Dn σ H q => by
  obtain ⟨B, e, st, m⟩ := q
  exact m σ B H (Evl.Ex.refl B) st
theorem ds_cons {st : Stmt} {rest : List Stmt} {f g : M Fl} (h : PS X st (liftS X.K c W f)) (r : PSs X rest (liftS X.K c W g)) : PSs X (st :: rest) (liftS X.K c W (sSeq f g)) :=
  PSs_of (pss_cons h r) fun Dn σ H q => by
    obtain ⟨B, e, st, m⟩ := q
    refine ⟨B, e, st, ?_⟩
    have m : SEnd X.K c W B Dn (match f e with
      | .ok .nx e' => g e'
      | r => r) := m
    show SEnd X.K c W B _ (f e)
    generalize f e = r at m ⊢
    cases r with
    | no => exact m
    | ex y e' => exact m
    | ok fl e' => cases fl with
      | nx => exact fun σ' B' H' x st' => ⟨B', e', st', SEnd.mono x m⟩
      | _ => exact m
theorem ds_one {st : Stmt} {f : M Fl} (h : PS X st (liftS X.K c W f)) : PSs X [st] (liftS X.K c W f) := pss_one h
def sPass : M Fl := mret .nx
def sBreak : M Fl := mret .bk
def sCont : M Fl := mret .ct
theorem ds_pass {pos : Pos} : PS X (.Pass pos) (liftS X.K c W sPass) := PS_of ps_pass fun Dn σ H q => by
  obtain ⟨B, e, st, m⟩ := q
  exact m σ B H (Evl.Ex.refl B) st
theorem ds_break {pos : Pos} : PS X (.Break pos) (liftS X.K c W sBreak) := PS_of ps_break fun Dn σ H q => by
  obtain ⟨B, e, st, m⟩ := q
  exact m σ B H (Evl.Ex.refl B) st
theorem ds_cont {pos : Pos} : PS X (.Continue pos) (liftS X.K c W sCont) := PS_of ps_continue fun Dn σ H q => by
  obtain ⟨B, e, st, m⟩ := q
  exact m σ B H (Evl.Ex.refl B) st
/-- return -/
def sRet (f : M D) : M Fl := mbind f fun d => if isSh d = true then mret (.rt d) else fun _ => .no
theorem RT.sh {K : PySem.W.Frag} {B : Hp} {σ : L2.St} {d : D} {v : V} (h : RT K B σ d v) (q : isSh d = true) : Sh K B d v := by
  cases d with
  | al i => exact absurd q Bool.false_ne_true
  | _ => exact h
theorem ds_ret {x : Expr} {f : M D} {pos : Pos} (h : PE X x (lift X.K c W f)) : PS X (.Return (some x) pos) (liftS X.K c W (sRet f)) := PS_of (ps_ret h) fun Dn σ H q => by
  obtain ⟨B, e, st, m⟩ := q
  refine ⟨[], B, e, st, (Pst.go (σ := σ) (show SEnd X.K c W B Dn ((f e).bind _) from m)).imp fun d e1 B1 H1 x1 m1 st1 v rv => ?_⟩
  by_cases hs : isSh d = true
  · rw [if_pos hs] at m1
    exact m1 v σ B1 H1 (Evl.Ex.refl _) st1 (rv.sh hs)
  · rw [if_neg hs] at m1
    exact m1.elim
def sRetN : M Fl := mret (.rt .non)
theorem ds_retN {pos : Pos} : PS X (.Return none pos) (liftS X.K c W sRetN) := PS_of ps_retN fun Dn σ H q => by
  obtain ⟨B, e, st, m⟩ := q
  exact m .non σ B H (Evl.Ex.refl B) st .non
/-- if -/
def sIf (t : M Bool) (a b : M Fl) : M Fl := mbind t fun k => if k = true then a else b
theorem ds_if {x : Expr} {a b : List Stmt} {t : M Bool} {f g : M Fl} {pos : Pos} (ht : PT X x (liftT X.K c W t)) (ha : PSs X a (liftS X.K c W f)) (hb : PSs X b (liftS X.K c W g)) : PS X (.If x a b pos) (liftS X.K c W (sIf t f g)) :=
  PS_of (ps_if ht ha hb) fun Dn σ H q => by
    obtain ⟨B, e, st, m⟩ := q
    refine ⟨[], B, e, st, (Pst.go (σ := σ) (show SEnd X.K c W B Dn ((t e).bind _) from m)).imp fun k e1 B1 H1 x1 m1 st1 => ?_⟩
    cases k with
    | true => exact ⟨B1, e1, st1, m1⟩
    | false => exact ⟨B1, e1, st1, m1⟩
/-- x = e -/
def sAsg (i : Nat) (f : M D) : M Fl := mbind f fun d => if isSh d = true then fun e => .ok .nx (e.set i (some d)) else fun _ => .no
theorem asg_conv {i : Nat} {f : M D} : ∀ Dn σ H, liftS X.K c W (sAsg i f) Dn σ H → tAsg (lift X.K c W f) (gName i) Dn σ H := fun Dn σ H q => by
  obtain ⟨B, e, st, m⟩ := q
  refine ⟨[], B, e, st, (Pst.go (σ := σ) (show SEnd X.K c W B Dn ((f e).bind _) from m)).imp fun d e1 B1 H1 x1 m1 st1 v rv => ?_⟩
  by_cases hs : isSh d = true
  · rw [if_pos hs] at m1
    exact m1 (σ.set i (some v)) B1 H1 (Evl.Ex.refl _) (st1.set (rv.sh hs))
  · rw [if_neg hs] at m1
    exact m1.elim
theorem ds_asg {i : Nat} {x : Str} {y : Expr} {f : M D} {pos pos' : Pos} (hN : X.N.Nodup) (hi : X.N[i]? = some x) (hx : Loc X.env.scope x) (h : PE X y (lift X.K c W f)) (hs : swapsWith y (some (.Name x pos')) pos.line X.env = pure false := by rfl)
    (hf : X.fn x = true ∨ X.env.scope.names.lookup x = some .local := by first | exact .inl rfl | exact .inr rfl | assumption) : PS X (.Assign [.Name x pos'] y pos) (liftS X.K c W (sAsg i f)) := PS_of (ps_set hN hi hx h hs hf) asg_conv
/-- x = a new list, which x owns -/
def sAsgF (i : Nat) (f : M (List D)) : M Fl := mbind f fun ds => fun e => .ok .nx (e.set i (some (.own ds)))
theorem asgF_conv {i : Nat} {f : M (List D)} : ∀ Dn σ H, liftS X.K c W (sAsgF i f) Dn σ H → tAsg (liftF X.K c W f) (gName i) Dn σ H := fun Dn σ H q => by
  obtain ⟨B, e, st, m⟩ := q
  refine ⟨[], B, e, st, (Pst.go (σ := σ) (show SEnd X.K c W B Dn ((f e).bind _) from m)).imp fun ds e1 B1 H1 x1 m1 p vs st1 r => ?_⟩
  exact m1 (σ.set i (some (.ref p))) B1 H1 (Evl.Ex.refl _) (st1.setF r)
theorem ds_asgF {i : Nat} {x : Str} {y : Expr} {f : M (List D)} {pos pos' : Pos} (hN : X.N.Nodup) (hi : X.N[i]? = some x) (hx : Loc X.env.scope x) (h : PE X y (liftF X.K c W f)) (hs : swapsWith y (some (.Name x pos')) pos.line X.env = pure false := by rfl)
    (hf : X.fn x = true ∨ X.env.scope.names.lookup x = some .local := by first | exact .inl rfl | exact .inr rfl | assumption) : PS X (.Assign [.Name x pos'] y pos) (liftS X.K c W (sAsgF i f)) := PS_of (ps_set hN hi hx h hs hf) asgF_conv
/-- an expression alone -/
def sDrop (f : M D) : M Fl := mbind f fun _ => mret .nx
theorem ds_expr {x : Expr} {f : M D} {pos : Pos} (h : PE X x (lift X.K c W f)) (hs : swapsWith x none pos.line X.env = pure false := by rfl) : PS X (.Expr x pos) (liftS X.K c W (sDrop f)) := PS_of (ps_expr h hs) fun Dn σ H q => by
  obtain ⟨B, e, st, m⟩ := q
  refine ⟨[], B, e, st, (Pst.go (σ := σ) (show SEnd X.K c W B Dn ((f e).bind _) from m)).imp fun d e1 B1 H1 x1 m1 st1 v rv => ?_⟩
  exact m1 σ B1 H1 (Evl.Ex.refl _) st1
end
end DL
end

section
set_option maxRecDepth 100000
set_option maxHeartbeats 2000000
namespace DL
open PySem L2
open Evl (Ex)

/-! ### items -/
def lsqA : D → Option (List D)
  | .lst xs => some xs
  | .klst xs => some xs
  | .own xs => some xs
  | .bor xs => some xs
  | _ => none
def shOnly (d : D) : Option D := if isSh d = true then some d else none
def dIdx (x y : D) : Option D := match y with
  | .int i => (match x with
    | .tup xs => atI xs i
    | .str s => if s.length ≤ 1000000 then (atI s.cps.toList i).map fun c => .str ⟨#[c]⟩ else none
    | x => (lsqA x).bind fun xs => (atI xs i).bind shOnly)
  | _ => none
theorem Ows.get {K : PySem.W.Frag} {B H : Hp} : ∀ {ds : List D} {vs : List V} {F : List Addr} {i : Nat} {d : D}, Ows K B H ds vs F → ds[i]? = some d → ∃ v G, vs[i]? = some v ∧ Ow K B H d v G
  | _, _, _, _, _, .nil, e => by simp at e
  | _, _, _, 0, _, .cons h _ _, e => by simp at e; subst e; exact ⟨_, _, rfl, h⟩
  | _, _, _, i + 1, _, .cons _ r _, e => by
    obtain ⟨v, G, h1, h2⟩ := Ows.get (i := i) r (by simpa using e)
    exact ⟨v, G, by simpa using h1, h2⟩
theorem Ow.shOf {K : PySem.W.Frag} {B H : Hp} {d : D} {v : V} {F : List Addr} (h : Ow K B H d v F) (q : isSh d = true) : Sh K B d v := by
  have h := h.inv
  cases d with
  | own _ => exact absurd q Bool.false_ne_true
  | bor _ => exact absurd q Bool.false_ne_true
  | al _ => exact absurd q Bool.false_ne_true
  | _ => exact h.1
theorem atI_len {α β : Type} {xs : List α} {ys : List β} (h : xs.length = ys.length) {i : Int} {x : α} (e : atI xs i = some x) : ∃ j : Nat, xs[j]? = some x ∧ ∀ y, ys[j]? = some y → atI ys i = some y := by
  unfold atI at e
  cases q : ixN xs.length i with
  | none =>
    rw [q] at e
    cases e
  | some j =>
    rw [q] at e
    refine ⟨j, e, fun y hy => ?_⟩
    unfold atI
    rw [← h, q]
    exact hy
theorem lsqA_ok {K : PySem.W.Frag} {B H : Hp} {d : D} {v : V} {xs : List D} (e : Ex B H) (h : RS K B H d v) (m : lsqA d = some xs) : ∃ a vs G, v = .ref a ∧ SqL K H a vs ∧ Ows K B H xs vs G := by
  cases d with
  | lst ys =>
    cases (show some ys = some xs from m)
    cases (show Sh K B (.lst xs) v from h) with
    | lst h1 r => exact ⟨_, _, _, rfl, SqL.of (e _ _ h1), r.ows⟩
  | klst ys =>
    cases (show some ys = some xs from m)
    cases (show Sh K B (.klst xs) v from h) with
    | klst h1 r => exact ⟨_, _, _, rfl, Evl.ex_l e h1, r.ows⟩
  | own ys =>
    cases (show some ys = some xs from m)
    obtain ⟨a, vs, G, q1, q2, q3⟩ := h
    exact ⟨a, vs, G, q1, SqL.of q2, q3⟩
  | bor ys =>
    cases (show some ys = some xs from m)
    obtain ⟨a, vs, G, q1, q2, q3⟩ := h
    exact ⟨a, vs, G, q1, SqL.of q2, q3⟩
  | _ => cases m
theorem ok_idx {K : PySem.W.Frag} : OpD K (rIx K) dIdx := by
  intro B H x y v u z Q e rx ry ho k
  unfold dIdx at ho
  split at ho
  · rename_i i
    cases (show Sh K B (.int i) u from ry)
    split at ho
    · rename_i xs
      obtain ⟨a, vs, rfl, h1, r⟩ := tsq_ok e rx (show tsq (.tup xs) = some xs from rfl)
      obtain ⟨j, h2, h3⟩ := atI_len r.length ho
      obtain ⟨w, h4, h5⟩ := r.get h2
      exact .inr (.inl ⟨a, vs, i, w, rfl, rfl, h1, h3 w h4, k w B H (Grow.refl e) h5⟩)
    · rename_i s
      cases (show Sh K B (.str s) v from rx)
      by_cases hl : s.length ≤ 1000000
      · rw [if_pos hl] at ho
        cases q : atI s.cps.toList i with
        | none =>
          rw [q] at ho
          cases ho
        | some c =>
          rw [q] at ho
          cases ho
          exact .inr (.inr ⟨s, i, c, rfl, rfl, line_ok hl, q, k _ B H (Grow.refl e) (.str _)⟩)
      · rw [if_neg hl] at ho
        cases ho
    · cases q : lsqA x with
      | none =>
        rw [q] at ho
        cases ho
      | some xs =>
        rw [q] at ho
        have ho : (atI xs i).bind shOnly = some z := ho
        cases q2 : atI xs i with
        | none =>
          rw [q2] at ho
          cases ho
        | some d =>
          rw [q2] at ho
          have ho : (if isSh d = true then some d else none) = some z := ho
          by_cases hs : isSh d = true
          · rw [if_pos hs] at ho
            cases ho
            obtain ⟨a, vs, G, rfl, h1, r⟩ := lsqA_ok e rx q
            obtain ⟨j, h2, h3⟩ := atI_len r.length q2
            obtain ⟨w, G', h4, h5⟩ := r.get h2
            exact .inl ⟨a, vs, i, w, rfl, rfl, h1, h3 w h4, k w B H (Grow.refl e) (h5.shOf hs)⟩
          · rw [if_neg hs] at ho
            cases ho
  · cases ho
section
variable {X : Cx} {c : Ctx} {W : WX} {K : PySem.W.Frag}
theorem de_idx {a b : Expr} {fa fb : M D} {pos : Pos} (ha : PE X a (lift X.K c W fa)) (hb : PE X b (lift X.K c W fb)) (hs : PlainIx b := by exact fun _ _ => rfl) : PE X (.Subscript a b pos) (lift X.K c W (eBin dIdx fa fb)) :=
  PE_of (pe_ix ix_seq ha hb hs) (bin_conv ok_idx)

/-! ### slices -/
def eNoPart : M (Option Int) := mret none
def iOf : D → Option (Option Int)
  | .int i => some (some i)
  | _ => none
def ePart (f : M D) : M (Option Int) := mbind f fun d => mopt (iOf d)
def liftO (K : PySem.W.Frag) (c : Ctx) (W : WX) (f : M (Option Int)) : TO := fun σ H Q => ∃ T B e, StOk K c T B H σ e ∧ Pst K c T W σ B (f e) fun o e' B' H' => StOk K c T B' H' σ e' → Q o H'
theorem do_none : PO X none (liftO X.K c W eNoPart) := ⟨fun pins s σ H Q I q => po_none.run pins s σ H Q I (by
  obtain ⟨T, B, e, st, m⟩ := q
  exact m B H (Evl.Ex.refl B) st)⟩
theorem do_some {x : Expr} {f : M D} (h : PE X x (lift X.K c W f)) : PO X (some x) (liftO X.K c W (ePart f)) := ⟨fun pins s σ H Q I q => (po_some h).run pins s σ H Q I (by
  obtain ⟨T, B, e, st, m⟩ := q
  refine ⟨T, B, e, st, m.bind.imp fun d e1 B1 H1 x1 m1 st1 v rv => ?_⟩
  cases d with
  | int i =>
    cases rv
    exact ⟨i, rfl, m1 B1 H1 (Evl.Ex.refl _) st1⟩
  | _ => exact m1.elim)⟩
def cutD (xs : List D) (lo hi : Option Int) : List D := (xs.drop (HT.sIx xs.length 0 lo)).take (HT.sIx xs.length xs.length hi - HT.sIx xs.length 0 lo)
theorem cut_shs {B : Hp} {xs : List D} {vs : List V} (r : Shs K B xs vs) (lo hi : Option Int) : Shs K B (cutD xs lo hi) (cutV vs lo hi) := by
  unfold cutD cutV
  rw [r.length]
  exact (r.drop _).take _
def dSlice (x : D) (lo hi : Option Int) : Option D := match x with
  | .tup xs => some (.tup (cutD xs lo hi))
  | .str s => if s.length ≤ 1000000 then some (.str (cutS s lo hi)) else none
  | x => (lsq x).map fun xs => .lst (cutD xs lo hi)
def rSlAll (K : PySem.W.Frag) : V → Option Int → Option Int → Hp → VK → Prop := fun x lo hi H Q => rSlL K x lo hi H Q ∨ rSlA K x lo hi H Q ∨ rSlS x lo hi H Q
theorem sl_all : SlR X (rSlAll X.K) := sl_list.or (sl_tupA.or sl_str)
def eSlice (f : M D) (lo hi : M (Option Int)) : M D := mbind f fun x => mbind lo fun l => mbind hi fun h => fun e => mopt (dSlice (rs e x) l h) e
theorem slice_ok {B H : Hp} {x : D} {v : V} {lo hi : Option Int} {z : D} {Q : VK} (e : Ex B H) (rx : RS K B H x v) (ho : dSlice x lo hi = some z) (k : ∀ w B' H', Grow B H B' H' → Sh K B' z w → Q w H') : rSlAll K v lo hi H Q := by
  unfold dSlice at ho
  split at ho
  · rename_i xs
    obtain ⟨a, vs, rfl, h1, r⟩ := tsq_ok e rx (show tsq (.tup xs) = some xs from rfl)
    cases ho
    refine .inr (.inl ⟨a, vs, rfl, h1, fun hw => ?_, fun _ p hp => ?_⟩)
    · rw [← r.length] at hw
      have ec : cutD xs lo hi = xs := by
        unfold cutD
        rw [hw.1, hw.2]
        simp
      rw [ec] at k
      exact k _ B H (Grow.refl e) (show Sh K B (.tup xs) (.ref a) from rx)
    · have g := Grow.new e (.tup (cutV vs lo hi)) hp
      exact k _ _ _ g (.tup (SqT.of upd_same) ((cut_shs r lo hi).mono g.b))
  · rename_i s
    cases (show Sh K B (.str s) v from rx)
    by_cases hl : s.length ≤ 1000000
    · rw [if_pos hl] at ho
      cases ho
      exact .inr (.inr ⟨s, rfl, line_ok hl, k _ B H (Grow.refl e) (.str _)⟩)
    · rw [if_neg hl] at ho
      cases ho
  · cases q : lsq x with
    | none =>
      rw [q] at ho
      cases ho
    | some xs =>
      rw [q] at ho
      cases ho
      obtain ⟨a, vs, rfl, h1, r⟩ := lsq_ok e rx q
      refine .inl ⟨a, vs, rfl, h1, fun p hp => ?_⟩
      have g := Grow.new e (.lst (cutV vs lo hi)) hp
      exact k _ _ _ g (.lst upd_same ((cut_shs r lo hi).mono g.b))
theorem de_slice {a : Expr} {lo hi : Option Expr} {f : M D} {fl fh : M (Option Int)} {pos p2 : Pos} (ha : PE X a (lift X.K c W f)) (hl : PO X lo (liftO X.K c W fl)) (hh : PO X hi (liftO X.K c W fh)) : PE X (.Subscript a (.Slice lo hi none p2) pos) (lift X.K c W (eSlice f fl fh)) :=
  PE_of (pe_slice sl_all ha hl hh) fun σ H Q q => by
    obtain ⟨T, B, e, st, m⟩ := q
    refine ⟨T, B, e, st, m.bind.imp fun x e1 B1 H1 x1 m1 st1 v rv => ?_⟩
    refine ⟨T, B1, e1, st1, m1.bind.imp fun l e2 B2 H2 x2 m2 st2 => ?_⟩
    refine ⟨T, B2, e2, st2, m2.bind.imp fun h e3 B3 H3 x3 m3 st3 => ?_⟩
    have m3 : Pst X.K c T W σ B3 (mopt (dSlice (rs e3 x) l h) e3) _ := m3
    cases ho : dSlice (rs e3 x) l h with
    | none =>
      rw [ho] at m3
      exact m3.elim
    | some z =>
      rw [ho] at m3
      exact slice_ok st3.ex (rs_ok st3 (rv.mono (x2.trans x3))) ho fun w B' H' g s => m3 B' H' g.b (st3.grow g) w (RT.of s)

/-! ### displays -/
def eTup (fs : M (List D)) : M D := mbind fs fun ds => if (ds.all isSh) = true ∧ ds.length ≤ 1000000 then mret (.tup ds) else fun _ => .no
theorem de_tup {es : List Expr} {fs : M (List D)} {x1} {pos : Pos} (h : PA X es (liftA X.K c W fs)) : PE X (.Tuple es x1 pos) (lift X.K c W (eTup fs)) := PE_of (pe_tup h) fun σ H Q q => by
  obtain ⟨T, B, e, st, m⟩ := q
  refine ⟨T, B, e, st, m.bind.imp fun ds e1 B1 H1 x1 m1 st1 vs rv => ?_⟩
  by_cases hs : (ds.all isSh) = true ∧ ds.length ≤ 1000000
  · rw [if_pos hs] at m1
    refine ⟨by rw [← rv.length]; exact line_ok hs.2, fun p hp => ?_⟩
    have g := Grow.new st1.ex (.tup vs) hp
    exact m1 _ _ g.b (st1.grow g) _ (RT.of (.tup (SqT.of upd_same) ((rv.shs hs.1).mono g.b)))
  · rw [if_neg hs] at m1
    exact m1.elim
/-- a new list at p that nobody owns -/
theorem StOk.fresh {T : List (Addr × HO)} {B H : Hp} {σ : L2.St} {e : Env} (s : StOk K c T B H σ e) {p : Addr} (hp : H p = none) (o : HO) : StOk K c ((p, o) :: T) B (upd H p o) σ e where
  len := s.len
  slots := by
    obtain ⟨fp, h1, h2, h3, h4, h5⟩ := s.slots
    have nm : ∀ i, p ∉ fp i := fun i m => by
      cases he : e[i]? with
      | none =>
        rw [h2 i (fun d z => by rw [he] at z; cases z)] at m
        cases m
      | some od => cases od with
        | none =>
          rw [h2 i (fun d z => by rw [he] at z; cases z)] at m
          cases m
        | some d =>
          obtain ⟨v, _, ow, _⟩ := h1 i d he
          exact (ow.free p m).2 hp
    refine ⟨fp, fun i d hd => ?_, h2, h3, h4, fun q m i hi => ?_⟩
    · obtain ⟨v, hv, ow, cd⟩ := h1 i d hd
      refine ⟨v, hv, ow.mono (Evl.Ex.refl B) (fun a m => (ow.free a m).1) (fun a m o q => ?_), cd⟩
      rw [upd_ne (fun (z : a = p) => nm i (z ▸ m))]
      exact q
    · rcases List.mem_cons.mp m with e | m
      · rw [e] at hi
        exact nm i hi
      · exact h5 q m i hi
  tmp := fun q m => by
    rcases List.mem_cons.mp m with e | m
    · rw [e]
      refine ⟨?_, upd_same, none_ex s.bh hp⟩
      show c.H0 p = none
      cases q : c.H0 p with
      | none => rfl
      | some o => exact absurd hp (s.there p (by rw [q]; exact fun z => (nomatch z)))
    · obtain ⟨t1, t2, t3⟩ := s.tmp q m
      refine ⟨t1, ?_, t3⟩
      rw [upd_ne (ne_of_none t2 hp)]
      exact t2
  tnd := List.nodup_cons.mpr ⟨fun m => by
    obtain ⟨q, mq, z⟩ := List.mem_map.mp m
    have t2 := (s.tmp q mq).2.1
    rw [z, hp] at t2
    exact (nomatch t2), s.tnd⟩
  bh := fun b u q => by
    rw [upd_ne (ne_of_none (s.bh b u q) hp)]
    exact s.bh b u q
  b0 := s.b0
  keep := fun a u nl h => by
    have z := s.keep a u nl h
    rw [upd_ne (ne_of_none z hp)]
    exact z
  there := fun a n => by
    have z := s.there a n
    rw [upd_ne (fun (w : a = p) => z (w ▸ hp))]
    exact z
  old := s.old
def eLstF (fs : M (List D)) : M (List D) := mbind fs fun ds => if (ds.all isSh) = true ∧ ds.length ≤ 1000000 then mret ds else fun _ => .no
theorem de_lstF {es : List Expr} {fs : M (List D)} {pos : Pos} (h : PA X es (liftA X.K c W fs)) : PE X (.List es pos) (liftF X.K c W (eLstF fs)) := PE_of (pe_lst h) fun σ H Q q => by
  obtain ⟨T, B, e, st, m⟩ := q
  refine ⟨T, B, e, st, m.bind.imp fun ds e1 B1 H1 x1 m1 st1 vs rv => ?_⟩
  by_cases hs : (ds.all isSh) = true ∧ ds.length ≤ 1000000
  · rw [if_pos hs] at m1
    refine ⟨by rw [← rv.length]; exact line_ok hs.2, fun p hp => ?_⟩
    exact m1 B1 _ (Evl.Ex.refl _) p vs (st1.fresh hp _) (rv.shs hs.1)
  · rw [if_neg hs] at m1
    exact m1.elim
/-- a new list handed on as shared -/
theorem StOk.freeze {T : List (Addr × HO)} {B H : Hp} {σ : L2.St} {e : Env} {p : Addr} {o : HO} (s : StOk K c ((p, o) :: T) B H σ e) : StOk K c T (upd B p o) H σ e ∧ Ex B (upd B p o) := by
  obtain ⟨hp0, hp, hb⟩ := s.tmp _ List.mem_cons_self
  have ex : Ex B (upd B p o) := Evl.Ex.new hb
  obtain ⟨fp, h1, h2, h3, h4, h5⟩ := s.slots
  refine ⟨⟨s.len, ⟨fp, fun i d hd => ?_, h2, h3, h4, fun q m => h5 q (List.mem_cons_of_mem _ m)⟩, fun q m => ?_, (List.nodup_cons.mp s.tnd).2, fun b u q => ?_, s.b0.trans ex, s.keep, s.there, fun a n z => ?_⟩, ex⟩
  · obtain ⟨v, hv, ow, cd⟩ := h1 i d hd
    refine ⟨v, hv, ow.mono ex (fun a m => ?_) (fun a m o q => q), cd⟩
    rw [upd_ne (fun (w : a = p) => h5 _ List.mem_cons_self i (w ▸ m))]
    exact (ow.free a m).1
  · obtain ⟨t1, t2, t3⟩ := s.tmp q (List.mem_cons_of_mem _ m)
    refine ⟨t1, t2, ?_⟩
    rw [upd_ne (s.tmp_ne q m)]
    exact t3
  · by_cases hbp : b = p
    · subst hbp
      rw [upd_same] at q
      rw [show H b = some o from hp]
      exact q
    · rw [upd_ne hbp] at q
      exact s.bh b u q
  · rw [upd_ne (fun (w : a = p) => n (w ▸ hp0))]
    exact s.old a n z
def eFrz (f : M (List D)) : M D := mbind f fun ds => mret (.lst ds)
theorem de_frz {x : Expr} {f : M (List D)} (h : PE X x (liftF X.K c W f)) : PE X x (lift X.K c W (eFrz f)) := PE_of h fun σ H Q q => by
  obtain ⟨T, B, e, st, m⟩ := q
  refine ⟨T, B, e, st, m.bind.imp fun ds e1 B1 H1 x1 m1 p vs st1 r => ?_⟩
  obtain ⟨st2, ex⟩ := st1.freeze
  exact m1 _ H1 ex st2 _ (RT.of (.lst upd_same (r.mono ex)))
/-- a name whose list becomes shared -/
def eVal (i : Nat) : M D := fun e => match e[i]? with
  | some (some (.own xs)) => if (xs.all isSh) = true then .ok (.lst xs) (e.set i (some (.lst xs))) else .no
  | some (some (.bor _)) => .no
  | some (some (.al _)) => .no
  | some (some d) => .ok d e
  | _ => .no
theorem Ows.nil_of {B H : Hp} : ∀ {ds : List D} {vs : List V} {G : List Addr}, Ows K B H ds vs G → (ds.all isSh) = true → G = []
  | _, _, _, .nil, _ => rfl
  | d :: ds, _, _, .cons h r q, a => by
    rw [List.all_cons, Bool.and_eq_true] at a
    have h2 := h.inv
    rw [q, Ows.nil_of r a.2, List.append_nil]
    cases d with
    | own _ => exact absurd a.1 Bool.false_ne_true
    | bor _ => exact absurd a.1 Bool.false_ne_true
    | al _ => exact absurd a.1 Bool.false_ne_true
    | _ => exact h2.2
theorem StOk.own_tmp {T : List (Addr × HO)} {B H : Hp} {σ : L2.St} {e : Env} (s : StOk K c T B H σ e) {i : Nat} {xs : List D} (he : e[i]? = some (some (.own xs))) (hs : (xs.all isSh) = true) :
    ∃ p vs, σ[i]? = some (some (.ref p)) ∧ Shs K B xs vs ∧ StOk K c ((p, .lst vs) :: T) B H σ (e.set i none) := by
  obtain ⟨fp, h1, h2, h3, h4, h5⟩ := s.slots
  obtain ⟨v, hv, ow, cd⟩ := h1 i _ he
  have ow := ow.inv
  obtain ⟨p, vs, G, rfl, q2, q3, q4, q5⟩ := ow
  have eG := q5.nil_of hs
  subst eG
  have t : StOk K c T B H σ (e.set i none) := s.drop i
  have pm : p ∈ fp i := by rw [q2]; exact List.mem_cons_self
  refine ⟨p, vs, hv, q5.shs hs, ?_⟩
  refine ⟨t.len, ⟨fun j => if j = i then [] else fp j, fun j u hu => ?_, fun j hn => ?_, fun j => ?_, fun j k a hjk hj hk => ?_, fun q m j hj => ?_⟩, fun q m => ?_, List.nodup_cons.mpr ⟨fun m => ?_, s.tnd⟩, t.bh, t.b0, t.keep, t.there, t.old⟩
  · dsimp only
    have hj : j ≠ i := fun z => by
      subst z
      have := set_self hu
      cases this
    rw [List.getElem?_set_ne (Ne.symm hj)] at hu
    obtain ⟨w, hw, ow', cd'⟩ := h1 j u hu
    rw [if_neg hj]
    exact ⟨w, hw, ow', cd'⟩
  · by_cases hj : j = i
    · exact if_pos hj
    · show (if j = i then [] else fp j) = []
      rw [if_neg hj]
      exact h2 j fun u hu => hn u (by rw [List.getElem?_set_ne (Ne.symm hj)]; exact hu)
  · show (if j = i then [] else fp j).Nodup
    split
    · exact List.nodup_nil
    · exact h3 j
  · have hj : a ∈ (if j = i then [] else fp j) := hj
    have hk : a ∈ (if k = i then [] else fp k) := hk
    split at hj
    · cases hj
    · split at hk
      · cases hk
      · exact h4 j k a hjk hj hk
  · have hj : q.1 ∈ (if j = i then [] else fp j) := hj
    split at hj
    · cases hj
    · rename_i nj
      rcases List.mem_cons.mp m with e | m
      · rw [e] at hj
        exact h4 i j p (fun z => nj z.symm) pm hj
      · exact h5 q m j hj
  · rcases List.mem_cons.mp m with e | m
    · rw [e]
      exact ⟨cd p pm, q3, q4⟩
    · exact s.tmp q m
  · obtain ⟨q, mq, z⟩ := List.mem_map.mp m
    exact h5 q mq i (by rw [z]; exact pm)
theorem set_back {α : Type} {l : List α} {i : Nat} {a b : α} (h : l[i]? = some b) : (l.set i a).set i b = l := by
  apply List.ext_getElem?
  intro j
  by_cases hj : j = i
  · subst hj
    rw [List.getElem?_set_self (by simpa using (List.getElem?_eq_some_iff.mp h).1), h]
  · rw [List.getElem?_set_ne (Ne.symm hj), List.getElem?_set_ne (Ne.symm hj)]
theorem set_same {α : Type} {l : List α} {i : Nat} {b : α} (h : l[i]? = some b) : l.set i b = l := by
  have z := set_back (a := b) h
  apply List.ext_getElem?
  intro j
  by_cases hj : j = i
  · subst hj
    rw [List.getElem?_set_self (by simpa using (List.getElem?_eq_some_iff.mp h).1), h]
  · rw [List.getElem?_set_ne (Ne.symm hj)]
theorem set_set {α : Type} {l : List α} {i : Nat} {a b : α} : (l.set i a).set i b = l.set i b := by
  apply List.ext_getElem?
  intro j
  by_cases hj : j = i
  · subst hj
    by_cases hl : j < l.length
    · rw [List.getElem?_set_self (by simpa using hl), List.getElem?_set_self hl]
    · rw [List.getElem?_eq_none (by simpa using hl), List.getElem?_eq_none (by simpa using hl)]
  · rw [List.getElem?_set_ne (Ne.symm hj), List.getElem?_set_ne (Ne.symm hj), List.getElem?_set_ne (Ne.symm hj)]
theorem de_val {x : Expr} {i : Nat} (h : PE X x (tVar i)) : PE X x (lift X.K c W (eVal i)) := PE_of h fun σ H Q q => by
  obtain ⟨T, B, e, st, m⟩ := q
  obtain ⟨fp, s1, _⟩ := st.slots
  unfold eVal at m
  cases he : e[i]? with
  | none =>
    rw [he] at m
    exact m.elim
  | some o =>
    rw [he] at m
    cases o with
    | none => exact m.elim
    | some d =>
      obtain ⟨v, hv, ow, _⟩ := s1 i d he
      refine ⟨v, hv, ?_⟩
      have ow := ow.inv
      cases d with
      | own xs =>
        have m : Pst X.K c T W σ B (if (xs.all isSh) = true then Rs.ok (D.lst xs) (e.set i (some (D.lst xs))) else Rs.no) _ := m
        by_cases hs : (xs.all isSh) = true
        · rw [if_pos hs] at m
          obtain ⟨p, vs, hv', r, st1⟩ := st.own_tmp he hs
          rw [hv] at hv'
          cases hv'
          obtain ⟨st2, ex⟩ := st1.freeze
          have sh : Sh X.K (upd B p (.lst vs)) (.lst xs) (.ref p) := .lst upd_same (r.mono ex)
          have st3 := st2.set (i := i) sh
          rw [set_same hv, set_set] at st3
          exact m _ H ex st3 _ (RT.of sh)
        · rw [if_neg hs] at m
          exact m.elim
      | bor xs => exact m.elim
      | al j => exact m.elim
      | _ => exact m B H (Evl.Ex.refl B) st v (RT.of ow.1)
end
end DL
end

section
set_option maxRecDepth 100000
set_option maxHeartbeats 2000000
namespace DL
open PySem L2
open Evl (Ex)

/-! ### calls of built-ins, by values -/
/-- the arguments as they stand -/
def RSs (K : PySem.W.Frag) (B H : Hp) : List D → List V → Prop
  | [], vs => vs = []
  | d :: ds, vs => ∃ v us, vs = v :: us ∧ RS K B H d v ∧ RSs K B H ds us
def CallD (K : PySem.W.Frag) (r : List V → Hp → VK → Prop) (op : List D → Option D) : Prop := ∀ (B H : Hp) (ds : List D) (vs : List V) (z : D) (Q : VK), Ex B H → RSs K B H ds vs → op ds = some z →
  (∀ w B' H', Grow B H B' H' → Sh K B' z w → Q w H') → r vs H Q
def eBlt (op : List D → Option D) (fs : M (List D)) : M D := mbind fs fun ds => fun e => mopt (op (ds.map (rs e))) e
section
variable {X : Cx} {c : Ctx} {W : WX} {K : PySem.W.Frag} {fs : M (List D)} {op : List D → Option D} {r : List V → Hp → VK → Prop} {x : Str} {p pos : Pos} {e : Expr} {es : List Expr}
theorem rss_ok {T : List (Addr × HO)} {B H : Hp} {σ : L2.St} {e : Env} (st : StOk K c T B H σ e) : ∀ {ds : List D} {vs : List V}, RTs K B σ ds vs → RSs K B H (ds.map (rs e)) vs
  | [], _, h => h
  | _ :: _, _, ⟨v, us, q, h, r⟩ => ⟨v, us, q, rs_ok st h, rss_ok st r⟩
theorem blt_conv (ok : CallD X.K r op) : ∀ σ H Q, lift X.K c W (eBlt op fs) σ H Q → tCB r (liftA X.K c W fs) σ H Q := fun σ H Q q => by
  obtain ⟨T, B, e, st, m⟩ := q
  refine ⟨T, B, e, st, m.bind.imp fun ds e1 B1 H1 x1 m1 st1 vs rv => ?_⟩
  have m1 : Pst X.K c T W σ B1 (mopt (op (ds.map (rs e1))) e1) _ := m1
  cases ho : op (ds.map (rs e1)) with
  | none =>
    rw [ho] at m1
    exact m1.elim
  | some z =>
    rw [ho] at m1
    exact ok B1 H1 _ vs z Q st1.ex (rss_ok st1 rv) ho fun w B' H' g s => m1 B' H' g.b (st1.grow g) w (RT.of s)
theorem de_blt {id : String} (hc : CallR X (.builtin id) r) (ok : CallD X.K r op) (hg : Gl X x) (hm : X.mg x = none) (hv : bootBuiltins x = some (.builtin id)) (ha : PA X (e :: es) (liftA X.K c W fs)) (hn : x ≠ "__name__" := by decide) (hdb : (x == ("__debug__" : Str)) = false := by decide)
    (he : starEach (e :: es) X.env = (false, eval e X.env) :: starEach es X.env := by rfl) (hpl : (backTo pos (starEach es X.env)).any (·.1) = false := by rfl) : PE X (.Call (.Name x p) (e :: es) [] pos) (lift X.K c W (eBlt op fs)) :=
  PE_of (pe_callB hc hg hm hv ha hn hdb he hpl) (blt_conv ok)
theorem de_bltTy {T : String} (hc : CallR X (.type T) r) (ok : CallD X.K r op) (hg : Gl X x) (hm : X.mg x = none) (hv : bootBuiltins x = some (.type T)) (ha : PA X (e :: es) (liftA X.K c W fs)) (hn : x ≠ "__name__" := by decide) (hdb : (x == ("__debug__" : Str)) = false := by decide)
    (he : starEach (e :: es) X.env = (false, eval e X.env) :: starEach es X.env := by rfl) (hpl : (backTo pos (starEach es X.env)).any (·.1) = false := by rfl) : PE X (.Call (.Name x p) (e :: es) [] pos) (lift X.K c W (eBlt op fs)) :=
  PE_of (pe_callTy hc hg hm hv ha hn hdb he hpl) (blt_conv ok)
theorem de_bltFn {id : String} (hc : CallR X (.builtin id) r) (ok : CallD X.K r op) (hg : Gl X x) (hm : X.mg x = some (.builtin id)) (ha : PA X (e :: es) (liftA X.K c W fs)) (hdb : (x == ("__debug__" : Str)) = false := by decide)
    (he : starEach (e :: es) X.env = (false, eval e X.env) :: starEach es X.env := by rfl) (hpl : (backTo pos (starEach es X.env)).any (·.1) = false := by rfl) : PE X (.Call (.Name x p) (e :: es) [] pos) (lift X.K c W (eBlt op fs)) :=
  PE_of (pe_callBfun hc hg hm ha hdb he hpl) (blt_conv ok)
end
/-- one int in, one value out -/
def d1Int (f : Int → Option D) : List D → Option D
  | [.int i] => f i
  | _ => none
theorem d1Int_some {f : Int → Option D} {ds : List D} {z : D} (h : d1Int f ds = some z) : ∃ i, ds = [.int i] ∧ f i = some z := by
  unfold d1Int at h
  split at h
  · exact ⟨_, rfl, h⟩
  · cases h
theorem rss1 {K : PySem.W.Frag} {B H : Hp} {d : D} {vs : List V} (h : RSs K B H [d] vs) : ∃ v, vs = [v] ∧ RS K B H d v := by
  obtain ⟨v, us, rfl, h1, h2⟩ := h
  cases (show _ = _ from h2)
  exact ⟨v, rfl, h1⟩
theorem rss2 {K : PySem.W.Frag} {B H : Hp} {d d' : D} {vs : List V} (h : RSs K B H [d, d'] vs) : ∃ v v', vs = [v, v'] ∧ RS K B H d v ∧ RS K B H d' v' := by
  obtain ⟨v, us, rfl, h1, h2⟩ := h
  obtain ⟨v', rfl, h3⟩ := rss1 h2
  exact ⟨v, v', rfl, h1, h3⟩
section
variable {K : PySem.W.Frag}
/-- abs -/
def dAbs : List D → Option D := d1Int fun i => some (.int (if i < 0 then -i else i))
theorem ok_abs : CallD K (fun xs H Q => ∃ i, xs = [.int i] ∧ Q (.int (if i < 0 then -i else i)) H) dAbs := by
  intro B H ds vs z Q e r ho k
  obtain ⟨i, rfl, q⟩ := d1Int_some ho
  cases q
  obtain ⟨v, rfl, h⟩ := rss1 r
  cases (show Sh K B (.int i) v from h)
  exact ⟨i, rfl, k _ B H (Grow.refl e) (.int _)⟩
/-- int(n), int(flag) -/
def dToInt : List D → Option D
  | [.int i] => some (.int i)
  | [.bl b] => some (.int (if b then 1 else 0))
  | _ => none
theorem ok_toInt : CallD K (fun xs H Q => (∃ i, xs = [.int i] ∧ Q (.int i) H) ∨ ∃ k, xs = [.bl k] ∧ Q (.int (if k then 1 else 0)) H) dToInt := by
  intro B H ds vs z Q e r ho k
  unfold dToInt at ho
  split at ho
  · rename_i i
    cases ho
    obtain ⟨v, rfl, h⟩ := rss1 r
    cases (show Sh K B (.int i) v from h)
    exact .inl ⟨i, rfl, k _ B H (Grow.refl e) (.int _)⟩
  · rename_i b
    cases ho
    obtain ⟨v, rfl, h⟩ := rss1 r
    cases (show Sh K B (.bl b) v from h)
    exact .inr ⟨b, rfl, k _ B H (Grow.refl e) (.int _)⟩
  · cases ho
/-- len -/
def dLen : List D → Option D
  | [.tup xs] => some (.int xs.length)
  | [.str s] => if s.length ≤ 1000000 then some (.int s.length) else none
  | [d] => (lsqA d).map fun xs => .int xs.length
  | _ => none
theorem ok_len : CallD K (fun xs H Q => ∃ x n, xs = [x] ∧ LenV K x H n ∧ Q (.int n) H) dLen := by
  intro B H ds vs z Q e r ho k
  unfold dLen at ho
  split at ho
  · rename_i xs
    cases ho
    obtain ⟨v, rfl, h⟩ := rss1 r
    obtain ⟨a, us, rfl, h1, h2⟩ := tsq_ok e h (show tsq (.tup xs) = some xs from rfl)
    exact ⟨.ref a, xs.length, rfl, .inr ⟨us, h1, h2.length⟩, k _ B H (Grow.refl e) (.int _)⟩
  · rename_i s
    obtain ⟨v, rfl, h⟩ := rss1 r
    cases (show Sh K B (.str s) v from h)
    by_cases hl : s.length ≤ 1000000
    · rw [if_pos hl] at ho
      cases ho
      exact ⟨.str s, s.length, rfl, ⟨line_ok hl, rfl⟩, k _ B H (Grow.refl e) (.int _)⟩
    · rw [if_neg hl] at ho
      cases ho
  · rename_i d _ _
    obtain ⟨v, rfl, h⟩ := rss1 r
    cases q : lsqA d with
    | none =>
      rw [q] at ho
      cases ho
    | some xs =>
      rw [q] at ho
      cases ho
      obtain ⟨a, us, G, rfl, h1, h2⟩ := lsqA_ok e h q
      exact ⟨.ref a, xs.length, rfl, .inl ⟨us, h1, h2.length⟩, k _ B H (Grow.refl e) (.int _)⟩
  · cases ho
/-- tuple(xs) -/
def dTuple : List D → Option D
  | [.tup xs] => some (.tup xs)
  | [d] => (lsq d).map .tup
  | _ => none
theorem ok_tuple : CallD K (fun xs H Q => ∃ p ys, xs = [.ref p] ∧ ((SqL K H p ys ∧ ∀ l, H l = none → Q (.ref l) (upd H l (.tup ys))) ∨ (SqT K H p ys ∧ Q (.ref p) H))) dTuple := by
  intro B H ds vs z Q e r ho k
  unfold dTuple at ho
  split at ho
  · rename_i xs
    cases ho
    obtain ⟨v, rfl, h⟩ := rss1 r
    obtain ⟨a, us, rfl, h1, h2⟩ := tsq_ok e h (show tsq (.tup xs) = some xs from rfl)
    exact ⟨a, us, rfl, .inr ⟨h1, k _ B H (Grow.refl e) h⟩⟩
  · rename_i d _
    obtain ⟨v, rfl, h⟩ := rss1 r
    cases q : lsq d with
    | none =>
      rw [q] at ho
      cases ho
    | some xs =>
      rw [q] at ho
      cases ho
      obtain ⟨a, us, rfl, h1, h2⟩ := lsq_ok e h q
      refine ⟨a, us, rfl, .inl ⟨h1, fun l hl => ?_⟩⟩
      have g := Grow.new e (.tup us) hl
      exact k _ _ _ g (.tup (SqT.of upd_same) (h2.mono g.b))
  · cases ho
/-- max, min of two ints -/
def dMax2 : List D → Option D
  | [.int i, .int j] => some (.int (if j > i then j else i))
  | _ => none
theorem ok_max2 : CallD K (fun xs H Q => ∃ i j, xs = [.int i, .int j] ∧ Q (.int (if j > i then j else i)) H) dMax2 := by
  intro B H ds vs z Q e r ho k
  unfold dMax2 at ho
  split at ho
  · rename_i i j
    cases ho
    obtain ⟨v, v', rfl, h1, h2⟩ := rss2 r
    cases (show Sh K B (.int i) v from h1)
    cases (show Sh K B (.int j) v' from h2)
    exact ⟨i, j, rfl, k _ B H (Grow.refl e) (.int _)⟩
  · cases ho
/-- the ints of a list -/
def intsOf : List D → Option (List Int)
  | [] => some []
  | .int i :: ds => (intsOf ds).map (i :: ·)
  | _ => none
theorem intsOf_ok {B : Hp} : ∀ {ds : List D} {vs : List V} {ns : List Int}, Shs K B ds vs → intsOf ds = some ns → vs = ns.map V.int
  | [], _, _, h, e => by cases h; cases e; rfl
  | .int i :: ds, _, ns, h, e => by
    cases h with
    | cons h1 r =>
      cases h1
      cases q : intsOf ds with
      | none =>
        rw [intsOf, q] at e
        cases e
      | some ms =>
        rw [intsOf, q] at e
        cases e
        rw [intsOf_ok r q] <;> rfl
  | .non :: _, _, _, _, e => by cases e
  | .bl _ :: _, _, _, _, e => by cases e
  | .str _ :: _, _, _, _, e => by cases e
  | .ty _ :: _, _, _, _, e => by cases e
  | .ref _ :: _, _, _, _, e => by cases e
  | .tup _ :: _, _, _, _, e => by cases e
  | .lst _ :: _, _, _, _, e => by cases e
  | .klst _ :: _, _, _, _, e => by cases e
  | .own _ :: _, _, _, _, e => by cases e
  | .bor _ :: _, _, _, _, e => by cases e
  | .al _ :: _, _, _, _, e => by cases e
def maxI : List Int → Option Int
  | [] => none
  | a :: r => some (r.foldl (fun m n => if n > m then n else m) a)
theorem foldl_max {r : List Int} : ∀ {a : Int}, (r.foldl (fun m n => if n > m then n else m) a = a ∨ r.foldl (fun m n => if n > m then n else m) a ∈ r) ∧ a ≤ r.foldl (fun m n => if n > m then n else m) a ∧ ∀ y ∈ r, y ≤ r.foldl (fun m n => if n > m then n else m) a := by
  induction r with
  | nil => exact fun {a} => ⟨.inl rfl, Int.le_refl _, fun y m => (nomatch m)⟩
  | cons b r ih =>
    intro a
    rw [List.foldl_cons]
    obtain ⟨h1, h2, h3⟩ := ih (a := if b > a then b else a)
    by_cases hb : b > a
    · rw [if_pos hb] at h1 h2 h3 ⊢
      refine ⟨.inr ?_, by omega, fun y m => ?_⟩
      · rcases h1 with h1 | h1
        · rw [h1]
          exact List.mem_cons_self
        · exact List.mem_cons_of_mem _ h1
      · rcases List.mem_cons.mp m with e | m
        · rw [e]
          exact h2
        · exact h3 y m
    · rw [if_neg hb] at h1 h2 h3 ⊢
      refine ⟨?_, h2, fun y m => ?_⟩
      · rcases h1 with h1 | h1
        · exact .inl h1
        · exact .inr (List.mem_cons_of_mem _ h1)
      · rcases List.mem_cons.mp m with e | m
        · rw [e]
          omega
        · exact h3 y m
def dMaxL : List D → Option D
  | [d] => (lsq d).bind fun xs => (intsOf xs).bind fun ns => (maxI ns).map .int
  | _ => none
theorem ok_maxL : CallD K (rMax K) dMaxL := by
  intro B H ds vs z Q e r ho k
  unfold dMaxL at ho
  split at ho
  · rename_i d
    obtain ⟨v, rfl, h⟩ := rss1 r
    cases q : lsq d with
    | none =>
      rw [q] at ho
      cases ho
    | some xs =>
      rw [q] at ho
      have ho : ((intsOf xs).bind fun ns => (maxI ns).map D.int) = some z := ho
      cases q2 : intsOf xs with
      | none =>
        rw [q2] at ho
        cases ho
      | some ns =>
        rw [q2] at ho
        have ho : (maxI ns).map D.int = some z := ho
        obtain ⟨a, us, rfl, h1, h2⟩ := lsq_ok e h q
        rw [intsOf_ok h2 q2] at h1
        cases ns with
        | nil => cases ho
        | cons n r =>
          cases ho
          refine ⟨a, n :: r, rfl, h1, by simp, fun m hm hle => ?_⟩
          obtain ⟨f1, f2, f3⟩ := foldl_max (r := r) (a := n)
          have em : m = r.foldl (fun m n => if n > m then n else m) n := by
            apply Int.le_antisymm
            · rcases List.mem_cons.mp hm with e | hm
              · rw [e]
                exact f2
              · exact f3 m hm
            · rcases f1 with f1 | f1
              · rw [f1]
                exact hle n List.mem_cons_self
              · exact hle _ (List.mem_cons_of_mem _ f1)
          rw [em]
          exact k _ B H (Grow.refl e) (.int _)
  · cases ho
/-- sum of a list of ints -/
def dSum : List D → Option D
  | [d] => (lsq d).bind fun xs => (intsOf xs).map fun ns => .int ns.sum
  | _ => none
theorem ok_sum : CallD K (rSum K) dSum := by
  intro B H ds vs z Q e r ho k
  unfold dSum at ho
  split at ho
  · rename_i d
    obtain ⟨v, rfl, h⟩ := rss1 r
    cases q : lsq d with
    | none =>
      rw [q] at ho
      cases ho
    | some xs =>
      rw [q] at ho
      have ho : ((intsOf xs).map fun ns => D.int ns.sum) = some z := ho
      cases q2 : intsOf xs with
      | none =>
        rw [q2] at ho
        cases ho
      | some ns =>
        rw [q2] at ho
        cases ho
        obtain ⟨a, us, rfl, h1, h2⟩ := lsq_ok e h q
        rw [intsOf_ok h2 q2] at h1
        exact ⟨a, ns, rfl, h1, k _ B H (Grow.refl e) (.int _)⟩
  · cases ho
/-- all of a list of bools -/
def blsOf : List D → Option (List Bool)
  | [] => some []
  | .bl b :: ds => (blsOf ds).map (b :: ·)
  | _ => none
theorem blsOf_ok {B : Hp} : ∀ {ds : List D} {vs : List V} {ns : List Bool}, Shs K B ds vs → blsOf ds = some ns → vs = ns.map V.bl
  | [], _, _, h, e => by cases h; cases e; rfl
  | .bl i :: ds, _, ns, h, e => by
    cases h with
    | cons h1 r =>
      cases h1
      cases q : blsOf ds with
      | none =>
        rw [blsOf, q] at e
        cases e
      | some ms =>
        rw [blsOf, q] at e
        cases e
        rw [blsOf_ok r q] <;> rfl
  | .non :: _, _, _, _, e => by cases e
  | .int _ :: _, _, _, _, e => by cases e
  | .str _ :: _, _, _, _, e => by cases e
  | .ty _ :: _, _, _, _, e => by cases e
  | .ref _ :: _, _, _, _, e => by cases e
  | .tup _ :: _, _, _, _, e => by cases e
  | .lst _ :: _, _, _, _, e => by cases e
  | .klst _ :: _, _, _, _, e => by cases e
  | .own _ :: _, _, _, _, e => by cases e
  | .bor _ :: _, _, _, _, e => by cases e
  | .al _ :: _, _, _, _, e => by cases e
def dAll : List D → Option D
  | [d] => (lsq d).bind fun xs => (blsOf xs).map fun bs => .bl (bs.all id)
  | _ => none
theorem ok_all : CallD K (rAll K) dAll := by
  intro B H ds vs z Q e r ho k
  unfold dAll at ho
  split at ho
  · rename_i d
    obtain ⟨v, rfl, h⟩ := rss1 r
    cases q : lsq d with
    | none =>
      rw [q] at ho
      cases ho
    | some xs =>
      rw [q] at ho
      have ho : ((blsOf xs).map fun bs => D.bl (bs.all id)) = some z := ho
      cases q2 : blsOf xs with
      | none =>
        rw [q2] at ho
        cases ho
      | some ns =>
        rw [q2] at ho
        cases ho
        obtain ⟨a, us, rfl, h1, h2⟩ := lsq_ok e h q
        rw [blsOf_ok h2 q2] at h1
        exact ⟨a, ns, rfl, h1, k _ B H (Grow.refl e) (.bl _)⟩
  · cases ho
/-- isinstance(x, T), T a built-in type -/
def tyName : D → Option String
  | .non => some "NoneType"
  | .bl _ => some "bool"
  | .int _ => some "int"
  | .str _ => some "str"
  | .tup _ => some "tuple"
  | .lst _ => some "list"
  | .own _ => some "list"
  | .bor _ => some "list"
  | _ => none
def dIsi : List D → Option D
  | [x, .ty n] => (tyName x).bind fun t => (kitB t n).map .bl
  | _ => none
theorem ty_ok {B H : Hp} {d : D} {v : V} {t : String} (e : Ex B H) (h : RS K B H d v) (q : tyName d = some t) : TyX K H v (.type t) := by
  cases d with
  | non => cases q; cases (show Sh K B .non v from h); exact .base .non
  | bl b => cases q; cases (show Sh K B (.bl b) v from h); exact .base (.bl _)
  | int i => cases q; cases (show Sh K B (.int i) v from h); exact .base (.int _)
  | str s => cases q; cases (show Sh K B (.str s) v from h); exact .base (.str _)
  | tup xs =>
    cases q
    obtain ⟨a, vs, rfl, h1, _⟩ := tsq_ok e h (show tsq (.tup xs) = some xs from rfl)
    rcases h1 with (h1 | ⟨o, h1⟩) | ⟨o, its, n, h1, h2, _⟩
    · exact .base (.tup h1)
    · exact .fTuple h1
    · exact .kTuple h1 h2
  | lst xs =>
    cases q
    cases (show Sh K B (.lst xs) v from h) with
    | lst h1 r => exact .base (.lst (e _ _ h1))
  | own xs =>
    cases q
    obtain ⟨a, vs, G, rfl, h1, _⟩ := h
    exact .base (.lst h1)
  | bor xs =>
    cases q
    obtain ⟨a, vs, G, rfl, h1, _⟩ := h
    exact .base (.lst h1)
  | _ => cases q
theorem ok_isi : CallD K (rIsi K) dIsi := by
  intro B H ds vs z Q e r ho k
  unfold dIsi at ho
  split at ho
  · rename_i x n
    obtain ⟨v, v', rfl, h1, h2⟩ := rss2 r
    cases (show Sh K B (.ty n) v' from h2)
    cases q : tyName x with
    | none =>
      rw [q] at ho
      cases ho
    | some t =>
      rw [q] at ho
      have ho : (kitB t n).map D.bl = some z := ho
      cases q2 : kitB t n with
      | none =>
        rw [q2] at ho
        cases ho
      | some b =>
        rw [q2] at ho
        cases ho
        exact ⟨v, .ty n, .type t, .type n, b, rfl, .ty n, ty_ok e h1 q, kit_ty q2, k _ B H (Grow.refl e) (.bl _)⟩
  · cases ho
end
def rGcd2 : List V → Hp → VK → Prop := rGcd
def dGcd2 : List D → Option D
  | [.int a, .int b] => some (.int ((Nat.gcd a.natAbs b.natAbs : Nat) : Int))
  | _ => none
theorem ok_gcd2 {K : PySem.W.Frag} : CallD K rGcd dGcd2 := by
  intro B H ds vs z Q e r ho k
  unfold dGcd2 at ho
  split at ho
  · rename_i i j
    cases ho
    obtain ⟨v, v', rfl, h1, h2⟩ := rss2 r
    cases (show Sh K B (.int i) v from h1)
    cases (show Sh K B (.int j) v' from h2)
    exact ⟨i, j, rfl, k _ B H (Grow.refl e) (.int _)⟩
  · cases ho
end DL
end

section
set_option maxRecDepth 100000
set_option maxHeartbeats 2000000
namespace DL
open PySem L2
open Evl (Ex)
/-! #### math.gcd of many -/
theorem args_gcd4 (a b c d : Value) : argsOk "math.gcd" ⟨[a, b, c, d], []⟩ := by unfold argsOk; kernel_rfl
theorem args_gcd6 (a b c d e f : Value) : argsOk "math.gcd" ⟨[a, b, c, d, e, f], []⟩ := by unfold argsOk; kernel_rfl
theorem run_gcd4 (a b c d : Int) (t u v w : Tok) : Gives (Builtin.«math.gcd» ⟨[.int a t, .int b u, .int c v, .int d w], []⟩) (.int ((((((Nat.gcd 0 a.natAbs).gcd b.natAbs).gcd c.natAbs).gcd d.natAbs : Nat) : Int))) :=
  .of_wp fun M A E s Q h => by obtain ⟨hp, g, d, tk, os⟩ := s; wp_walk; exact ⟨_, rfl, h⟩
theorem run_gcd6 (a b c d i j : Int) (t u v w x y : Tok) : Gives (Builtin.«math.gcd» ⟨[.int a t, .int b u, .int c v, .int d w, .int i x, .int j y], []⟩) (.int ((((((((Nat.gcd 0 a.natAbs).gcd b.natAbs).gcd c.natAbs).gcd d.natAbs).gcd i.natAbs).gcd j.natAbs : Nat) : Int))) :=
  .of_wp fun M A E s Q h => by obtain ⟨hp, g, d, tk, os⟩ := s; wp_walk; exact ⟨_, rfl, h⟩
def gcdAll (ns : List Int) : Nat := ns.foldl (fun g n => g.gcd n.natAbs) 0
def rGcdN : List V → Hp → VK → Prop := fun vs H Q => ∃ ns : List Int, vs = ns.map V.int ∧ (ns.length = 2 ∨ ns.length = 4 ∨ ns.length = 6) ∧ Q (.int (gcdAll ns : Int)) H
theorem vals_ints : ∀ {ns : List Int} {us : List Value}, Vals (ns.map V.int) us → ∃ ts : List Tok, ts.length = ns.length ∧ us = List.zipWith Value.int ns ts
  | [], _, .nil => ⟨[], rfl, rfl⟩
  | n :: ns, _, .cons ⟨t, h⟩ r => by
    obtain ⟨ts, h1, h2⟩ := vals_ints r
    exact ⟨t :: ts, by simp [h1], by rw [h, h2] <;> rfl⟩
theorem cr_gcdN {X : Cx} : CallR X (.builtin "math.gcd") rGcdN := by
  intro pins s σ H vs us Q I r h
  obtain ⟨ns, rfl, hl, q⟩ := h
  obtain ⟨ts, h1, rfl⟩ := vals_ints r
  rcases hl with hl | hl | hl
  · match ns, ts, hl, h1, q with
    | [a, b], [t, u], _, _, q =>
      exact call_function_meets PySem.W.MGF.kind_gcd PySem.W.MGF.plain_gcd PySem.W.MGF.entry_gcd (PySem.W.MGF.args_gcd _ _) (PySem.W.mg_run_gcd a t b u).meets ⟨.int _, H, I.tok _, ⟨_, rfl⟩, q⟩
  · match ns, ts, hl, h1, q with
    | [a, b, c, d], [t, u, v, w], _, _, q =>
      exact call_function_meets PySem.W.MGF.kind_gcd PySem.W.MGF.plain_gcd PySem.W.MGF.entry_gcd (args_gcd4 _ _ _ _) (run_gcd4 a b c d t u v w).meets ⟨.int _, H, I.tok _, ⟨_, rfl⟩, q⟩
  · match ns, ts, hl, h1, q with
    | [a, b, c, d, i, j], [t, u, v, w, x, y], _, _, q =>
      exact call_function_meets PySem.W.MGF.kind_gcd PySem.W.MGF.plain_gcd PySem.W.MGF.entry_gcd (args_gcd6 _ _ _ _ _ _) (run_gcd6 a b c d i j t u v w x y).meets ⟨.int _, H, I.tok _, ⟨_, rfl⟩, q⟩
def dGcd (ds : List D) : Option D := (intsOf ds).bind fun ns => if ns.length = 2 ∨ ns.length = 4 ∨ ns.length = 6 then some (.int (gcdAll ns : Int)) else none
theorem rss_shs {K : PySem.W.Frag} {B H : Hp} : ∀ {ds : List D} {vs : List V} {ns : List Int}, RSs K B H ds vs → intsOf ds = some ns → vs = ns.map V.int
  | [], _, _, h, e => by cases (show _ = _ from h); cases e; rfl
  | .int i :: ds, _, ns, ⟨v, us, rfl, h1, r⟩, e => by
    cases (show Sh K B (.int i) v from h1)
    cases q : intsOf ds with
    | none =>
      rw [intsOf, q] at e
      cases e
    | some ms =>
      rw [intsOf, q] at e
      cases e
      rw [rss_shs r q] <;> rfl
  | .non :: _, _, _, _, e => by cases e
  | .bl _ :: _, _, _, _, e => by cases e
  | .str _ :: _, _, _, _, e => by cases e
  | .ty _ :: _, _, _, _, e => by cases e
  | .ref _ :: _, _, _, _, e => by cases e
  | .tup _ :: _, _, _, _, e => by cases e
  | .lst _ :: _, _, _, _, e => by cases e
  | .klst _ :: _, _, _, _, e => by cases e
  | .own _ :: _, _, _, _, e => by cases e
  | .bor _ :: _, _, _, _, e => by cases e
  | .al _ :: _, _, _, _, e => by cases e
theorem ok_gcd {K : PySem.W.Frag} : CallD K rGcdN dGcd := by
  intro B H ds vs z Q e r ho k
  unfold dGcd at ho
  cases q : intsOf ds with
  | none =>
    rw [q] at ho
    cases ho
  | some ns =>
    rw [q] at ho
    have ho : (if ns.length = 2 ∨ ns.length = 4 ∨ ns.length = 6 then some (D.int (gcdAll ns : Int)) else none) = some z := ho
    by_cases hl : ns.length = 2 ∨ ns.length = 4 ∨ ns.length = 6
    · rw [if_pos hl] at ho
      cases ho
      exact ⟨ns, rss_shs r q, hl, k _ B H (Grow.refl e) (.int _)⟩
    · rw [if_neg hl] at ho
      cases ho
end DL
end

section
set_option maxRecDepth 100000
set_option maxHeartbeats 2000000
namespace DL
open PySem L2
open Evl (Ex)
section
variable {X : Cx} {c : Ctx} {W : WX} {K : PySem.W.Frag}

/-! ### and, or, not, a if t else b, - -/
def tAndD (a b : M Bool) : M Bool := mbind a fun k => if k = true then b else mret false
def tOrD (a b : M Bool) : M Bool := mbind a fun k => if k = true then mret true else b
def tNotD (a : M Bool) : M Bool := mbind a fun k => mret (!k)
theorem and_conv {a b : M Bool} : ∀ σ H Q, liftT X.K c W (tAndD a b) σ H Q → tAnd (liftT X.K c W a) (liftT X.K c W b) σ H Q := fun σ H Q q => by
  obtain ⟨T, B, e, st, m⟩ := q
  refine ⟨T, B, e, st, m.bind.imp fun k e1 B1 H1 x1 m1 st1 => ?_⟩
  cases k with
  | true => exact ⟨T, B1, e1, st1, m1⟩
  | false => exact m1 B1 H1 (Evl.Ex.refl _) st1
theorem or_conv {a b : M Bool} : ∀ σ H Q, liftT X.K c W (tOrD a b) σ H Q → tOr (liftT X.K c W a) (liftT X.K c W b) σ H Q := fun σ H Q q => by
  obtain ⟨T, B, e, st, m⟩ := q
  refine ⟨T, B, e, st, m.bind.imp fun k e1 B1 H1 x1 m1 st1 => ?_⟩
  cases k with
  | true => exact m1 B1 H1 (Evl.Ex.refl _) st1
  | false => exact ⟨T, B1, e1, st1, m1⟩
theorem PW_of {e : Expr} {t t' : TT} (h : PW X e t) (k : ∀ σ H Q, t' σ H Q → t σ H Q) : PW X e t' := ⟨fun wh pins s σ H Q I q => h.run wh pins s σ H Q I (k σ H Q q)⟩
theorem dw_and1 {a : Expr} {f : M Bool} {pos : Pos} (h : PT X a (liftT X.K c W f)) : PW X (.BoolOp .And [a] pos) (liftT X.K c W f) := pw_and1 h
theorem dw_or1 {a : Expr} {f : M Bool} {pos : Pos} (h : PT X a (liftT X.K c W f)) : PW X (.BoolOp .Or [a] pos) (liftT X.K c W f) := pw_or1 h
theorem dw_and {a b : Expr} {rest : List Expr} {f g : M Bool} {pos : Pos} (h : PT X a (liftT X.K c W f)) (r : PW X (.BoolOp .And (b :: rest) pos) (liftT X.K c W g)) : PW X (.BoolOp .And (a :: b :: rest) pos) (liftT X.K c W (tAndD f g)) := PW_of (pw_and h r) and_conv
theorem dw_or {a b : Expr} {rest : List Expr} {f g : M Bool} {pos : Pos} (h : PT X a (liftT X.K c W f)) (r : PW X (.BoolOp .Or (b :: rest) pos) (liftT X.K c W g)) : PW X (.BoolOp .Or (a :: b :: rest) pos) (liftT X.K c W (tOrD f g)) := PW_of (pw_or h r) or_conv
theorem dt_not {a : Expr} {f : M Bool} {pos : Pos} (h : PT X a (liftT X.K c W f)) : PT X (.UnaryOp .Not a pos) (liftT X.K c W (tNotD f)) := PT_of (pt_not h) fun σ H Q q => by
  obtain ⟨T, B, e, st, m⟩ := q
  exact ⟨T, B, e, st, m.bind.imp fun k e1 B1 H1 x1 m1 st1 => m1 B1 H1 (Evl.Ex.refl _) st1⟩
/-- as values -/
def eAndD (a b : M D) : M D := mbind a fun x => match x with
  | .bl k => if k = true then b else mret (.bl false)
  | _ => fun _ => .no
def eOrD (a b : M D) : M D := mbind a fun x => match x with
  | .bl k => if k = true then mret (.bl true) else b
  | _ => fun _ => .no
def eNotD (a : M D) : M D := mbind a fun x => match x with
  | .bl k => mret (.bl (!k))
  | _ => fun _ => .no
theorem de_one {a : Expr} {o} {f : M D} {pos : Pos} (h : PE X a (lift X.K c W f)) : PE X (.BoolOp o [a] pos) (lift X.K c W f) := pe_one h
theorem de_and {a b : Expr} {rest : List Expr} {f g : M D} {pos : Pos} (h : PE X a (lift X.K c W f)) (r : PE X (.BoolOp .And (b :: rest) pos) (lift X.K c W g)) : PE X (.BoolOp .And (a :: b :: rest) pos) (lift X.K c W (eAndD f g)) := PE_of (pe_and h r) fun σ H Q q => by
  obtain ⟨T, B, e, st, m⟩ := q
  refine ⟨T, B, e, st, m.bind.imp fun x e1 B1 H1 x1 m1 st1 v rv => ?_⟩
  cases x with
  | bl k =>
    cases rv
    refine ⟨k, rfl, ?_⟩
    cases k with
    | true => exact ⟨T, B1, e1, st1, m1⟩
    | false => exact m1 B1 H1 (Evl.Ex.refl _) st1 _ (RT.of (.bl false))
  | _ => exact m1.elim
theorem de_or {a b : Expr} {rest : List Expr} {f g : M D} {pos : Pos} (h : PE X a (lift X.K c W f)) (r : PE X (.BoolOp .Or (b :: rest) pos) (lift X.K c W g)) : PE X (.BoolOp .Or (a :: b :: rest) pos) (lift X.K c W (eOrD f g)) := PE_of (pe_or h r) fun σ H Q q => by
  obtain ⟨T, B, e, st, m⟩ := q
  refine ⟨T, B, e, st, m.bind.imp fun x e1 B1 H1 x1 m1 st1 v rv => ?_⟩
  cases x with
  | bl k =>
    cases rv
    refine ⟨k, rfl, ?_⟩
    cases k with
    | true => exact m1 B1 H1 (Evl.Ex.refl _) st1 _ (RT.of (.bl true))
    | false => exact ⟨T, B1, e1, st1, m1⟩
  | _ => exact m1.elim
theorem de_not {a : Expr} {f : M D} {pos : Pos} (h : PE X a (lift X.K c W f)) : PE X (.UnaryOp .Not a pos) (lift X.K c W (eNotD f)) := PE_of (pe_not h) fun σ H Q q => by
  obtain ⟨T, B, e, st, m⟩ := q
  refine ⟨T, B, e, st, m.bind.imp fun x e1 B1 H1 x1 m1 st1 v rv => ?_⟩
  cases x with
  | bl k =>
    cases rv
    exact ⟨k, rfl, m1 B1 H1 (Evl.Ex.refl _) st1 _ (RT.of (.bl _))⟩
  | _ => exact m1.elim
def eIf (t : M Bool) (a b : M D) : M D := mbind t fun k => if k = true then a else b
theorem de_if {t a b : Expr} {f : M Bool} {g h : M D} {pos : Pos} (ht : PT X t (liftT X.K c W f)) (ha : PE X a (lift X.K c W g)) (hb : PE X b (lift X.K c W h)) : PE X (.IfExp t a b pos) (lift X.K c W (eIf f g h)) := PE_of (pe_ifExp ht ha hb) fun σ H Q q => by
  obtain ⟨T, B, e, st, m⟩ := q
  refine ⟨T, B, e, st, m.bind.imp fun k e1 B1 H1 x1 m1 st1 => ?_⟩
  cases k with
  | true => exact ⟨T, B1, e1, st1, m1⟩
  | false => exact ⟨T, B1, e1, st1, m1⟩
def dNeg : D → Option D
  | .int i => some (.int (-i))
  | _ => none
theorem de_neg {a : Expr} {f : M D} {pos : Pos} (h : PE X a (lift X.K c W f)) : PE X (.UnaryOp .USub a pos) (lift X.K c W (eUn dNeg f)) := PE_of (pe_un un_neg h) fun σ H Q q => by
  obtain ⟨T, B, e, st, m⟩ := q
  refine ⟨T, B, e, st, m.bind.imp fun x e1 B1 H1 x1 m1 st1 v rv => ?_⟩
  have m1 : Pst X.K c T W σ B1 (mopt (dNeg (rs e1 x)) e1) _ := m1
  have r := rs_ok st1 rv
  cases q : rs e1 x with
  | int i =>
    rw [q] at m1 r
    cases (show Sh X.K B1 (.int i) v from r)
    exact ⟨i, rfl, m1 B1 H1 (Evl.Ex.refl _) st1 _ (RT.of (.int _))⟩
  | _ =>
    rw [q] at m1
    exact m1.elim
/-- a value's truth as a test -/
def dTru (x : D) : Option Bool := match x with
  | .non => some false
  | .bl b => some b
  | .int i => some (i != 0)
  | .str s => if s.length ≤ 1000000 then some ((s.length : Int) != 0) else none
  | .tup xs => some (!xs.isEmpty)
  | x => (lsqA x).map fun xs => !xs.isEmpty
def tTruD (f : M D) : M Bool := mbind f fun x => fun e => mopt (dTru (rs e x)) e
theorem isEmpty_len {α β : Type} {xs : List α} {ys : List β} (h : xs.length = ys.length) : (!xs.isEmpty) = !ys.isEmpty := by
  cases xs with
  | nil => cases ys with
    | nil => rfl
    | cons _ _ => cases h
  | cons _ _ => cases ys with
    | nil => cases h
    | cons _ _ => rfl
theorem tru_D {B H : Hp} {x : D} {v : V} {k : Bool} (e : Ex B H) (r : RS K B H x v) (ho : dTru x = some k) : TruV K v H k := by
  unfold dTru at ho
  split at ho
  · cases ho; cases (show Sh K B .non v from r); rfl
  · rename_i b; cases ho; cases (show Sh K B (.bl k) v from r); rfl
  · rename_i i; cases ho; cases (show Sh K B (.int i) v from r); rfl
  · rename_i s
    cases (show Sh K B (.str s) v from r)
    by_cases hl : s.length ≤ 1000000
    · rw [if_pos hl] at ho
      cases ho
      exact ⟨line_ok hl, rfl⟩
    · rw [if_neg hl] at ho
      cases ho
  · rename_i xs
    cases ho
    obtain ⟨a, us, rfl, h1, h2⟩ := tsq_ok e r (show tsq (.tup xs) = some xs from rfl)
    exact .inr (.inl ⟨us, h1, isEmpty_len h2.length⟩)
  · cases q : lsqA x with
    | none =>
      rw [q] at ho
      cases ho
    | some xs =>
      rw [q] at ho
      cases ho
      obtain ⟨a, us, G, rfl, h1, h2⟩ := lsqA_ok e r q
      exact .inl ⟨us, h1, isEmpty_len h2.length⟩
theorem dt_tru {x : Expr} {f : M D} (h : PE X x (lift X.K c W f)) (he : ∀ whole, isTrue x X.env whole = (do let v ← whole; standAt x.pos; holding [v] (truthy v)) := by intro _; rfl) : PT X x (liftT X.K c W (tTruD f)) := PT_of (pt_truth h he) fun σ H Q q => by
  obtain ⟨T, B, e, st, m⟩ := q
  refine ⟨T, B, e, st, m.bind.imp fun d e1 B1 H1 x1 m1 st1 v rv => ?_⟩
  have m1 : Pst X.K c T W σ B1 (mopt (dTru (rs e1 d)) e1) _ := m1
  cases ho : dTru (rs e1 d) with
  | none =>
    rw [ho] at m1
    exact m1.elim
  | some k =>
    rw [ho] at m1
    exact ⟨k, tru_D st1.ex (rs_ok st1 rv) ho, m1 B1 H1 (Evl.Ex.refl _) st1⟩

/-! ### a list of one's own changed -/
/-- what an alias stands for -/
def ownAt (e : Env) (d : D) : Option (Nat × D × List D) := match d with
  | .al i => (match e[i]? with
    | some (some (.own xs)) => some (i, .own xs, xs)
    | some (some (.bor xs)) => some (i, .bor xs, xs)
    | _ => none)
  | _ => none
theorem ownAt_ok {T : List (Addr × HO)} {B H : Hp} {σ : L2.St} {e : Env} {d d0 : D} {v : V} {i : Nat} {xs : List D} (st : StOk K c T B H σ e) (r : RT K B σ d v) (h : ownAt e d = some (i, d0, xs)) :
    e[i]? = some (some d0) ∧ (d0 = .own xs ∨ d0 = .bor xs) ∧ ∃ a vs G, v = .ref a ∧ σ[i]? = some (some (.ref a)) ∧ H a = some (.lst vs) ∧ Ows K B H xs vs G := by
  unfold ownAt at h
  split at h
  · rename_i j
    obtain ⟨fp, s1, _⟩ := st.slots
    split at h
    · rename_i ys q
      cases h
      obtain ⟨u, hu, ow, _⟩ := s1 _ _ q
      rw [show σ[i]? = some (some v) from r] at hu
      cases hu
      have ow := ow.inv
      obtain ⟨a, vs, G, rfl, _, q3, _, q5⟩ := ow
      exact ⟨q, .inl rfl, a, vs, G, rfl, r, q3, q5⟩
    · rename_i ys q
      cases h
      obtain ⟨u, hu, ow, _⟩ := s1 _ _ q
      rw [show σ[i]? = some (some v) from r] at hu
      cases hu
      have ow := ow.inv
      obtain ⟨a, vs, G, rfl, _, q3, _, q5⟩ := ow
      exact ⟨q, .inr rfl, a, vs, G, rfl, r, q3, q5⟩
    · cases h
  · cases h
theorem RT.al_keep {B B' : Hp} {σ : L2.St} {d : D} {v : V} {e : Env} {z : Nat × D × List D} (h : RT K B σ d v) (q : ownAt e d = some z) : RT K B' σ d v := by
  cases d with
  | al i => exact h
  | _ => cases q
theorem ownAt_al {e : Env} {d d0 : D} {i : Nat} {xs : List D} (h : ownAt e d = some (i, d0, xs)) : d = .al i := by
  unfold ownAt at h
  split at h
  · split at h <;> cases h <;> rfl
  · cases h
/-- x.append(y) -/
def appE (e : Env) (o y : D) : Option Env := (ownAt e o).bind fun t => if (t.2.2.all isSh) = true ∧ isSh y = true ∧ t.2.2.length < 1000000 then some (e.set t.1 (relab (some t.2.1) (t.2.2 ++ [y]))) else none
def sApp (fo fy : M D) : M Fl := mbind fo fun o => fun e => if (ownAt e o).isSome = true then (mbind fy fun y => fun e => match appE e o y with
  | some e' => .ok .nx e'
  | none => .no) e else .no
theorem ds_app {o y : Expr} {fo fy : M D} {apos cpos pos : Pos} (ho : PE X o (lift X.K c W fo)) (hy : PE X y (lift X.K c W fy))
    (hs : swapsWith (.Call (.Attribute o "append" apos) [y] [] cpos) none pos.line X.env = pure false := by rfl)
    (hbase : attributeBase o "append" X.env (eval o X.env) = eval o X.env := by rfl)
    (hfew : ((backTo cpos (starEach (y :: []) X.env)).all (fun x => !x.1) && (backToKw cpos (keywordEach [] X.env)).all (fun x => x.1.isSome)
      && decide ((y :: []).length + ([] : List Keyword).length + (if ([] : List Keyword).isEmpty then 0 else 1) < 30)) = true := by rfl)
    (hline : (apos.endLine == cpos.line) = true := by rfl) (he : starEach (y :: []) X.env = (false, eval y X.env) :: starEach [] X.env := by rfl) :
    PS X (.Expr (.Call (.Attribute o "append" apos) [y] [] cpos) pos) (liftS X.K c W (sApp fo fy)) :=
  PS_of (ps_expr (pe_bm PySem.F.plainAttrs_list PySem.F.slot_list_append PySem.F.type_list_append mt_append ho (pa_cons hy pa_nil he) hbase hfew hline he) hs) fun Dn σ H q => by
    obtain ⟨B, e, st, m⟩ := q
    refine ⟨[], B, e, st, (Pst.go (σ := σ) (show SEnd X.K c W B Dn ((fo e).bind _) from m)).imp fun d e1 B1 H1 x1 m1 st1 v rv => ?_⟩
    by_cases hi : (ownAt e1 d).isSome = true
    · have m1 : SEnd X.K c W B1 Dn ((fy e1).bind fun y => fun e => match appE e d y with
        | some e' => .ok .nx e'
        | none => .no) := by
        have m1 : SEnd X.K c W B1 Dn (if (ownAt e1 d).isSome = true then _ else _) := m1
        rw [if_pos hi] at m1
        exact m1
      obtain ⟨z, hz⟩ := Option.isSome_iff_exists.mp hi
      obtain ⟨i, d0, xs⟩ := z
      obtain ⟨a1, a2, a, vs, G, rfl, a3, a4, a5⟩ := ownAt_ok st1 rv hz
      refine ⟨.inl ⟨rfl, vs, SqL.of a4⟩, [], B1, e1, st1, (Pst.go (σ := σ) m1).imp fun y e2 B2 H2 x2 m2 st2 u ru => ?_⟩
      have m2 : SEnd X.K c W B2 Dn (match appE e2 d y with
        | some e' => .ok .nx e'
        | none => .no) := m2
      cases q : appE e2 d y with
      | none =>
        rw [q] at m2
        exact m2.elim
      | some e' =>
        rw [q] at m2
        unfold appE at q
        cases q2 : ownAt e2 d with
        | none =>
          rw [q2] at q
          cases q
        | some t =>
          obtain ⟨j, d1, ys⟩ := t
          rw [q2] at q
          have q : (if (ys.all isSh) = true ∧ isSh y = true ∧ ys.length < 1000000 then some (e2.set j (relab (some d1) (ys ++ [y]))) else none) = some e' := q
          by_cases hc : (ys.all isSh) = true ∧ isSh y = true ∧ ys.length < 1000000
          · rw [if_pos hc] at q
            cases q
            obtain ⟨b1, b2, b, us, G', eb, b3, b4, b5⟩ := ownAt_ok st2 (rv.al_keep hz) q2
            cases eb
            have r := b5.shs hc.1
            refine ⟨a, us, u, rfl, rfl, b4, Nat.lt_of_lt_of_le (by rw [← b5.length]; exact hc.2.2) (line_ok (Nat.le_refl _)), ?_⟩
            exact m2 σ B2 _ (Evl.Ex.refl _) (st2.write b1 b2 b3 b4 (by rw [List.all_append, hc.1]; simp [hc.2.1]) (r.append (.cons (ru.sh hc.2.1) .nil)))
          · rw [if_neg hc] at q
            cases q
    · exfalso
      have m1 : SEnd X.K c W B1 Dn (if (ownAt e1 d).isSome = true then _ else _) := m1
      rw [if_neg hi] at m1
      exact m1
/-- x[i] = y -/
def subE (e : Env) (o i y : D) : Option Env := match i with
  | .int k => (ownAt e o).bind fun t => (ixN t.2.2.length k).bind fun j => if (t.2.2.all isSh) = true ∧ isSh y = true then some (e.set t.1 (relab (some t.2.1) (t.2.2.set j y))) else none
  | _ => none
def sSub (fo fi fy : M D) : M Fl := mbind fy fun y => if isSh y = true then mbind fo fun o => mbind fi fun i => fun e => match subE e o i y with
  | some e' => .ok .nx e'
  | none => .no
  else fun _ => .no
theorem Shs.set {B : Hp} {d : D} {v : V} (h : Sh K B d v) : ∀ {ds : List D} {vs : List V} (i : Nat), Shs K B ds vs → Shs K B (ds.set i d) (vs.set i v)
  | _, _, _, .nil => .nil
  | _, _, 0, .cons _ r => .cons h r
  | _, _, i + 1, .cons h' r => .cons h' (Shs.set h i r)
theorem ds_sub {o i y : Expr} {fo fi fy : M D} {spos pos : Pos} (ho : PE X o (lift X.K c W fo)) (hi : PE X i (lift X.K c W fi)) (hy : PE X y (lift X.K c W fy))
    (hs : swapsWithSole [.Subscript o i spos] y pos.line X.env = pure false := by rfl) (hw : swappedStores [.Subscript o i spos] y X.env = pure none := by rfl)
    (h1 : (assignEach [.Subscript o i spos] X.env).map (·.2) = [assign (.Subscript o i spos) X.env] := by rfl)
    (ha : ∀ v, assign (.Subscript o i spos) X.env v = (do
      let ov ← holding [v] (eval o X.env)
      let iv ← holding [v, ov] (eval i X.env)
      standAt spos
      holding [v, ov, iv] (setItem ov iv v)
      release [v, ov, iv] []) := by intro _; rfl) :
    PS X (.Assign [.Subscript o i spos] y pos) (liftS X.K c W (sSub fo fi fy)) :=
  PS_of (ps_asg hy (pg_sub ho hi set_list ha) hs hw h1) fun Dn σ H q => by
    obtain ⟨B, e, st, m⟩ := q
    refine ⟨[], B, e, st, (Pst.go (σ := σ) (show SEnd X.K c W B Dn ((fy e).bind _) from m)).imp fun y e1 B1 H1 x1 m1 st1 u ru => ?_⟩
    by_cases hy : isSh y = true
    · rw [if_pos hy] at m1
      refine ⟨[], B1, e1, st1, (Pst.go (σ := σ) m1).imp fun d e2 B2 H2 x2 m2 st2 v rv => ?_⟩
      refine ⟨[], B2, e2, st2, (Pst.go (σ := σ) m2).imp fun k e3 B3 H3 x3 m3 st3 w rw' => ?_⟩
      have m3 : SEnd X.K c W B3 Dn (match subE e3 d k y with
        | some e' => .ok .nx e'
        | none => .no) := m3
      cases q : subE e3 d k y with
      | none =>
        rw [q] at m3
        exact m3.elim
      | some e' =>
        rw [q] at m3
        unfold subE at q
        cases k with
        | int k =>
          cases rw'
          have q : ((ownAt e3 d).bind fun t => (ixN t.2.2.length k).bind fun j => if (t.2.2.all isSh) = true ∧ isSh y = true then some (e3.set t.1 (relab (some t.2.1) (t.2.2.set j y))) else none) = some e' := q
          cases q2 : ownAt e3 d with
          | none =>
            rw [q2] at q
            cases q
          | some t =>
            obtain ⟨j, d1, ys⟩ := t
            rw [q2] at q
            have q : ((ixN ys.length k).bind fun n => if (ys.all isSh) = true ∧ isSh y = true then some (e3.set j (relab (some d1) (ys.set n y))) else none) = some e' := q
            cases q3 : ixN ys.length k with
            | none =>
              rw [q3] at q
              cases q
            | some n =>
              rw [q3] at q
              have q : (if (ys.all isSh) = true ∧ isSh y = true then some (e3.set j (relab (some d1) (ys.set n y))) else none) = some e' := q
              by_cases hc : (ys.all isSh) = true ∧ isSh y = true
              · rw [if_pos hc] at q
                cases q
                obtain ⟨b1, b2, b, us, G', rfl, b3, b4, b5⟩ := ownAt_ok st3 (rv.al_keep q2) q2
                have r := b5.shs hc.1
                refine ⟨b, us, k, n, rfl, rfl, b4, by rw [← r.length]; exact q3, ?_⟩
                exact m3 σ B3 _ (Evl.Ex.refl _) (st3.write b1 b2 b3 b4 (List.all_eq_true.mpr fun z mz => by
                  rcases List.mem_or_eq_of_mem_set mz with mz | mz
                  · exact List.all_eq_true.mp hc.1 z mz
                  · rw [mz]
                    exact hc.2) (r.set ((ru.mono (x2.trans x3)).sh hy) n))
              · rw [if_neg hc] at q
                cases q
        | _ => cases q
    · rw [if_neg hy] at m1
      exact m1.elim
end
end DL
end

section
set_option maxRecDepth 100000
set_option maxHeartbeats 2000000
namespace DL
open PySem L2
open Evl (Ex)
section
variable {X : Cx} {c : Ctx} {W : WX} {K : PySem.W.Frag}

/-! ### targets -/
abbrev TgF := D → Env → Option Env
/-- the slots at S may change -/
def liftG (K : PySem.W.Frag) (c : Ctx) (S : List Nat) (t : TgF) : TG := fun v σ H Q => ∃ T B e d, StOk K c T B H σ e ∧ Sh K B d v ∧ match t d e with
  | some e' => ∀ σ' B' H', σ'.length = σ.length → (∀ i, i ∉ S → σ'[i]? = σ[i]?) → Ex B B' → StOk K c T B' H' σ' e' → Q σ' H'
  | none => False
def liftGs (K : PySem.W.Frag) (c : Ctx) (S : List Nat) (t : List D → Env → Option Env) : TGs := fun vs σ H Q => ∃ T B e ds, StOk K c T B H σ e ∧ Shs K B ds vs ∧ match t ds e with
  | some e' => ∀ σ' B' H', σ'.length = σ.length → (∀ i, i ∉ S → σ'[i]? = σ[i]?) → Ex B B' → StOk K c T B' H' σ' e' → Q σ' H'
  | none => False
def gN (i : Nat) : TgF := fun d e => some (e.set i (some d))
def gsNil : List D → Env → Option Env := fun ds e => match ds with
  | [] => some e
  | _ => none
def gsCons (t : TgF) (u : List D → Env → Option Env) : List D → Env → Option Env := fun ds e => match ds with
  | d :: r => (t d e).bind (u r)
  | [] => none
/-- of a sequence of n items -/
def gT (n : Nat) (t : List D → Env → Option Env) : TgF := fun d e => match d with
  | .tup xs => if xs.length = n then t xs e else none
  | .lst xs => if xs.length = n then t xs e else none
  | .klst xs => if xs.length = n then t xs e else none
  | _ => none
theorem PG_of {x : Expr} {t t' : TG} (h : PG X x t) (k : ∀ v σ H Q, t' v σ H Q → t v σ H Q) : PG X x t' := ⟨fun pins s σ H v u Q I r q => h.run pins s σ H v u Q I r (k v σ H Q q)⟩
theorem PGs_of {x : List Expr} {t t' : TGs} (h : PGs X x t) (k : ∀ v σ H Q, t' v σ H Q → t v σ H Q) : PGs X x t' := ⟨fun pins s σ H v u Q I r q => h.run pins s σ H v u Q I r (k v σ H Q q)⟩
theorem PG_or {x : Expr} {t u : TG} (h : PG X x t) (h' : PG X x u) : PG X x (fun v σ H Q => t v σ H Q ∨ u v σ H Q) := ⟨fun pins s σ H v w Q I r q => by
  rcases q with q | q
  · exact h.run pins s σ H v w Q I r q
  · exact h'.run pins s σ H v w Q I r q⟩
theorem dg_name {i : Nat} {x : Str} {pos : Pos} (hN : X.N.Nodup) (hi : X.N[i]? = some x) (hx : Loc X.env.scope x) (hf : X.fn x = true ∨ X.env.scope.names.lookup x = some .local := by first | exact .inl rfl | exact .inr rfl | assumption) : PG X (.Name x pos) (liftG X.K c [i] (gN i)) :=
  PG_of (pg_name hN hi hx hf) fun v σ H Q q => by
    obtain ⟨T, B, e, d, st, sh, m⟩ := q
    refine m (σ.set i (some v)) B H (by rw [List.length_set]) (fun j hj => ?_) (Evl.Ex.refl B) (st.set sh)
    rw [List.getElem?_set_ne (fun z => hj (by simp [z]))]
theorem dgs_nil : PGs X [] (liftGs X.K c [] gsNil) := PGs_of pgs_nil fun vs σ H Q q => by
  obtain ⟨T, B, e, ds, st, sh, m⟩ := q
  cases ds with
  | nil =>
    cases sh
    exact ⟨rfl, m σ B H rfl (fun _ _ => rfl) (Evl.Ex.refl B) st⟩
  | cons d r => exact m.elim
theorem dgs_cons {x : Expr} {xs : List Expr} {S S' : List Nat} {t : TgF} {u : List D → Env → Option Env} (h : PG X x (liftG X.K c S t)) (r : PGs X xs (liftGs X.K c S' u))
    (hs : (assignEach (x :: xs) X.env).map (·.2) = assign x X.env :: (assignEach xs X.env).map (·.2) := by rfl) : PGs X (x :: xs) (liftGs X.K c (S ++ S') (gsCons t u)) := PGs_of (pgs_cons h r hs) fun vs σ H Q q => by
  obtain ⟨T, B, e, ds, st, sh, m⟩ := q
  cases ds with
  | nil => exact m.elim
  | cons d ds =>
    cases sh with
    | @cons _ v _ vs h1 h2 =>
      have m : match (t d e).bind (u ds) with
        | some e' => ∀ σ' B' H', σ'.length = σ.length → (∀ i, i ∉ S ++ S' → σ'[i]? = σ[i]?) → Ex B B' → StOk X.K c T B' H' σ' e' → Q σ' H'
        | none => False := m
      refine ⟨v, vs, rfl, T, B, e, d, st, h1, ?_⟩
      cases q : t d e with
      | none =>
        rw [q] at m
        exact m.elim
      | some e1 =>
        rw [q] at m
        exact fun σ1 B1 H1 l1 k1 x1 st1 => ⟨T, B1, e1, ds, st1, h2.mono x1, by
          have m : match u ds e1 with
            | some e' => ∀ σ' B' H', σ'.length = σ.length → (∀ i, i ∉ S ++ S' → σ'[i]? = σ[i]?) → Ex B B' → StOk X.K c T B' H' σ' e' → Q σ' H'
            | none => False := m
          cases q2 : u ds e1 with
          | none =>
            rw [q2] at m
            exact m.elim
          | some e2 =>
            rw [q2] at m
            exact fun σ2 B2 H2 l2 k2 x2 st2 => m σ2 B2 H2 (l2.trans l1) (fun i hi => (k2 i fun z => hi (List.mem_append_right _ z)).trans (k1 i fun z => hi (List.mem_append_left _ z))) (x1.trans x2) st2⟩
theorem dg_tup {es : List Expr} {k : Nat} {S : List Nat} {t : List D → Env → Option Env} {n : Nat} {pos : Pos} (hc : X.calm = true) (h : PGs X es (liftGs X.K c S t))
    (hn : (assignEach es X.env).length = n := by rfl) (hst : (assignEach es X.env).findIdx? (·.1) = none := by rfl) : PG X (.Tuple es k pos) (liftG X.K c S (gT n t)) :=
  PG_of (PG_or (pg_tup hc h hn hst) (pg_lst hc h hn hst)) fun v σ H Q q => by
    obtain ⟨T, B, e, d, st, sh, m⟩ := q
    cases d with
    | tup xs =>
      have m : match (if xs.length = n then t xs e else none) with
        | some e' => _
        | none => False := m
      by_cases hl : xs.length = n
      · rw [if_pos hl] at m
        cases sh with
        | tup h1 r => exact .inl ⟨_, _, rfl, Evl.ex_t st.bh h1, r.length.symm.trans hl, T, B, e, xs, st, r, m⟩
      · rw [if_neg hl] at m
        exact m.elim
    | lst xs =>
      have m : match (if xs.length = n then t xs e else none) with
        | some e' => _
        | none => False := m
      by_cases hl : xs.length = n
      · rw [if_pos hl] at m
        cases sh with
        | lst h1 r => exact .inr ⟨_, _, rfl, SqL.of (st.bh _ _ h1), r.length.symm.trans hl, T, B, e, xs, st, r, m⟩
      · rw [if_neg hl] at m
        exact m.elim
    | klst xs =>
      have m : match (if xs.length = n then t xs e else none) with
        | some e' => _
        | none => False := m
      by_cases hl : xs.length = n
      · rw [if_pos hl] at m
        cases sh with
        | klst h1 r => exact .inr ⟨_, _, rfl, Evl.ex_l st.bh h1, r.length.symm.trans hl, T, B, e, xs, st, r, m⟩
      · rw [if_neg hl] at m
        exact m.elim
    | _ => exact m.elim
/-- (a, b) = e -/
def sUnp (t : TgF) (f : M D) : M Fl := mbind f fun d => if isSh d = true then fun e => match t d e with
  | some e' => .ok .nx e'
  | none => .no
  else fun _ => .no
theorem ds_unp {tg x : Expr} {S : List Nat} {t : TgF} {f : M D} {pos : Pos} (h : PE X x (lift X.K c W f)) (hg : PG X tg (liftG X.K c S t)) (hs : swapsWithSole [tg] x pos.line X.env = pure false := by rfl) (hw : swappedStores [tg] x X.env = pure none := by rfl)
    (h1 : (assignEach [tg] X.env).map (·.2) = [assign tg X.env] := by rfl) : PS X (.Assign [tg] x pos) (liftS X.K c W (sUnp t f)) := PS_of (ps_asg h hg hs hw h1) fun Dn σ H q => by
  obtain ⟨B, e, st, m⟩ := q
  refine ⟨[], B, e, st, (Pst.go (σ := σ) (show SEnd X.K c W B Dn ((f e).bind _) from m)).imp fun d e1 B1 H1 x1 m1 st1 v rv => ?_⟩
  by_cases hs : isSh d = true
  · rw [if_pos hs] at m1
    have m1 : SEnd X.K c W B1 Dn (match t d e1 with
      | some e' => .ok .nx e'
      | none => .no) := m1
    refine ⟨[], B1, e1, d, st1, rv.sh hs, ?_⟩
    cases q : t d e1 with
    | none =>
      rw [q] at m1
      exact m1.elim
    | some e2 =>
      rw [q] at m1
      exact fun σ' B' H' _ _ x st' => m1 σ' B' H' x st'
  · rw [if_neg hs] at m1
    exact m1.elim
/-- a, b = x, y of local names -/
def sPar (i j : Nat) (fs : M (List D)) : M Fl := mbind fs fun ds => match ds with
  | [a, b] => if isSh a = true ∧ isSh b = true then fun e => .ok .nx ((e.set i (some a)).set j (some b)) else fun _ => .no
  | _ => fun _ => .no
theorem ds_par {i j : Nat} {x y : Str} {a b : Expr} {fs : M (List D)} {px py pt pos : Pos} {kt k2 pt2} (hc : X.calm = true) (hN : X.N.Nodup) (hi : X.N[i]? = some x) (hj : X.N[j]? = some y) (hij : i ≠ j)
    (hx : X.env.scope.names.lookup x = some .local) (hy : X.env.scope.names.lookup y = some .local) (ha : PA X [a, b] (liftA X.K c W fs))
    (hw : swappedStores [.Tuple [.Name x px, .Name y py] kt pt] (.Tuple [a, b] k2 pt2) X.env = pure (some [x, y]))
    (hs : swapsWithSole [.Tuple [.Name x px, .Name y py] kt pt] (.Tuple [a, b] k2 pt2) pos.line X.env = pure false := by rfl) :
    PS X (.Assign [.Tuple [.Name x px, .Name y py] kt pt] (.Tuple [a, b] k2 pt2) pos) (liftS X.K c W (sPar i j fs)) := PS_of (ps_par hc hN hi hj hij hx hy ha hw hs) fun Dn σ H q => by
  obtain ⟨B, e, st, m⟩ := q
  refine ⟨[], B, e, st, (Pst.go (σ := σ) (show SEnd X.K c W B Dn ((fs e).bind _) from m)).imp fun ds e1 B1 H1 x1 m1 st1 vs rv => ?_⟩
  cases ds with
  | nil => exact m1.elim
  | cons p ds => cases ds with
    | nil => exact m1.elim
    | cons q ds => cases ds with
      | nil =>
        have m1 : SEnd X.K c W B1 Dn ((if isSh p = true ∧ isSh q = true then fun e => .ok .nx ((e.set i (some p)).set j (some q)) else fun _ => .no : M Fl) e1) := m1
        obtain ⟨v, us, rfl, r1, v', us', rfl, r2, r3⟩ := rv
        cases (show _ = _ from r3)
        by_cases hs : isSh p = true ∧ isSh q = true
        · rw [if_pos hs] at m1
          exact ⟨v, v', rfl, m1 _ B1 H1 (Evl.Ex.refl _) ((st1.set (r1.sh hs.1)).set (r2.sh hs.2))⟩
        · rw [if_neg hs] at m1
          exact m1.elim
      | cons _ _ => exact m1.elim

/-! ### what is walked -/
structure ItOk (K : PySem.W.Frag) (B0 : Hp) (J : It) (ds : List D) : Prop where
  go : ∀ i B H, Ex B0 B → Ex B H → i < ds.length → J.go i H
  stop : ∀ i B H, Ex B0 B → Ex B H → ds.length ≤ i → J.stop i H
  yld : ∀ i B H x H', Ex B0 B → Ex B H → i < ds.length → J.yld i H x H' → ∃ B' d, Grow B H B' H' ∧ ds[i]? = some d ∧ Sh K B' d x
def liftI (K : PySem.W.Frag) (c : Ctx) (W : WX) (f : M (List D)) : TI := fun σ H R => ∃ T B e, StOk K c T B H σ e ∧ Pst K c T W σ B (f e) fun ds e' B' H' => StOk K c T B' H' σ e' → ∀ J, ItOk K B' J ds → R J H'
theorem PI_of {tg x : Expr} {t t' : TI} (h : PI X tg x t) (k : ∀ σ H R, t' σ H R → t σ H R) : PI X tg x t' := ⟨fun pins s σ H R I q => h.run pins s σ H R I (k σ H R q)⟩
theorem PI_or {tg x : Expr} {t u : TI} (h : PI X tg x t) (h' : PI X tg x u) : PI X tg x (fun σ H R => t σ H R ∨ u σ H R) := ⟨fun pins s σ H R I q => by
  rcases q with q | q
  · exact h.run pins s σ H R I q
  · exact h'.run pins s σ H R I q⟩
theorem it_tup {B0 : Hp} {a : Addr} {vs : List V} {ds : List D} (h : SqT K B0 a vs) (r : Shs K B0 ds vs) : ItOk K B0 (Itt K a) ds where
  go := fun i B H x y hi => ⟨vs, vs[i]'(by rw [← r.length]; exact hi), Evl.ex_t (x.trans y) h, by simp [← r.length, hi]⟩
  stop := fun i B H x y hi => ⟨vs, Evl.ex_t (x.trans y) h, by rw [← r.length]; exact hi⟩
  yld := fun i B H x H' e1 e2 hi hy => by
    obtain ⟨rfl, hy⟩ := hy
    have hd : ds[i]? = some (ds[i]) := by simp [hi]
    obtain ⟨w, h4, h5⟩ := r.get hd
    have hv := hy vs (Evl.ex_t (e1.trans e2) h)
    rw [h4] at hv
    cases hv
    exact ⟨B, ds[i], Grow.refl e2, hd, h5.mono e1⟩
theorem it_list {B0 : Hp} {a : Addr} {vs : List V} {ds : List D} (h : SqL K B0 a vs) (r : Shs K B0 ds vs) : ItOk K B0 (Itl K a) ds where
  go := fun i B H x y hi => ⟨vs, vs[i]'(by rw [← r.length]; exact hi), Evl.ex_l (x.trans y) h, by simp [← r.length, hi]⟩
  stop := fun i B H x y hi => ⟨vs, Evl.ex_l (x.trans y) h, by rw [← r.length]; exact hi⟩
  yld := fun i B H x H' e1 e2 hi hy => by
    obtain ⟨rfl, hy⟩ := hy
    have hd : ds[i]? = some (ds[i]) := by simp [hi]
    obtain ⟨w, h4, h5⟩ := r.get hd
    have hv := hy vs (Evl.ex_l (e1.trans e2) h)
    rw [h4] at hv
    cases hv
    exact ⟨B, ds[i], Grow.refl e2, hd, h5.mono e1⟩
theorem it_range {B0 : Hp} {lo : Int} {n : Nat} : ItOk K B0 (Itr lo n) ((List.range n).map fun i : Nat => D.int (lo + (i : Int))) where
  go := fun i B H _ _ hi => by
    have hi : i < n := by simpa using hi
    exact hi
  stop := fun i B H _ _ hi => by
    have hi : n ≤ i := by simpa using hi
    exact hi
  yld := fun i B H x H' e1 e2 hi hy => by
    obtain ⟨rfl, rfl⟩ := hy
    have hi : i < n := by simpa using hi
    exact ⟨B, .int (lo + i), Grow.refl e2, by simp [hi], .int _⟩
/-- a sequence -/
def seqSh : D → Option (List D)
  | .lst xs => some xs
  | .klst xs => some xs
  | .tup xs => some xs
  | _ => none
def eIter (f : M D) : M (List D) := mbind f fun d => mopt (seqSh d)
theorem di_seq {tg x : Expr} {f : M D} (h : PE X x (lift X.K c W f)) : PI X tg x (liftI X.K c W (eIter f)) := PI_of (PI_or (pi_list h) (pi_tup h)) fun σ H R q => by
  obtain ⟨T, B, e, st, m⟩ := q
  -- which of both it is, is told by the value that f gives
  have m2 := m.bind
  cases q : f e with
  | no =>
    rw [q] at m2
    exact m2.elim
  | ex y e' =>
    rw [q] at m2
    exact .inl ⟨T, B, e, st, by rw [q]; exact m2⟩
  | ok d e1 =>
    rw [q] at m2
    have goL : (∃ xs, d = .lst xs ∨ d = .klst xs) → iList X.K (lift X.K c W f) σ H R := fun ⟨xs, hd⟩ => by
      refine ⟨T, B, e, st, ?_⟩
      rw [q]
      exact fun B1 H1 x1 st1 v rv => by
        rcases hd with rfl | rfl
        · have rv : Sh X.K B1 (.lst xs) v := rv
          cases rv with
          | lst h1 r => exact ⟨_, rfl, ⟨_, SqL.of (st1.bh _ _ h1)⟩, m2 B1 H1 x1 B1 H1 (Evl.Ex.refl _) st1 _ (it_list (SqL.of h1) r)⟩
        · have rv : Sh X.K B1 (.klst xs) v := rv
          cases rv with
          | klst h1 r => exact ⟨_, rfl, ⟨_, Evl.ex_l st1.bh h1⟩, m2 B1 H1 x1 B1 H1 (Evl.Ex.refl _) st1 _ (it_list h1 r)⟩
    cases d with
    | lst xs => exact .inl (goL ⟨xs, .inl rfl⟩)
    | klst xs => exact .inl (goL ⟨xs, .inr rfl⟩)
    | tup xs =>
      refine .inr ⟨T, B, e, st, ?_⟩
      rw [q]
      exact fun B1 H1 x1 st1 v rv => by
        have rv : Sh X.K B1 (.tup xs) v := rv
        cases rv with
        | tup h1 r => exact ⟨_, rfl, ⟨_, Evl.ex_t st1.bh h1⟩, m2 B1 H1 x1 B1 H1 (Evl.Ex.refl _) st1 _ (it_tup h1 r)⟩
    | _ => exact (m2 B H (Evl.Ex.refl _)).elim
/-- range(n), range(a, b) -/
def rg (lo hi : Int) : List D := (List.range (hi - lo).toNat).map fun i : Nat => D.int (lo + (i : Int))
def rgOf : List D → Option (List D)
  | [.int j] => if -1000000 ≤ j ∧ j ≤ 1000000 then some (rg 0 j) else none
  | _ => none
def rgOf2 : List D → Option (List D)
  | [.int i, .int j] => if -1000000 ≤ i ∧ i ≤ 1000000 ∧ -1000000 ≤ j ∧ j ≤ 1000000 then some (rg i j) else none
  | _ => none
def rgOf3 : List D → Option (List D)
  | [.int i, .int j, .int k] => if -1000000 ≤ i ∧ i ≤ 1000000 ∧ -1000000 ≤ j ∧ j ≤ 1000000 ∧ k = -1 then some ((List.range (i - j).toNat).map fun n : Nat => D.int (i - (n : Int))) else none
  | _ => none
def eRange (fs : M (List D)) : M (List D) := mbind fs fun ds => mopt (rgOf ds)
def eRange2 (fs : M (List D)) : M (List D) := mbind fs fun ds => mopt (rgOf2 ds)
theorem di_range1 {tg a : Expr} {fs : M (List D)} {p pos : Pos} (hg : Gl X "range") (hm : X.mg "range" = none) (ha : PA X [a] (liftA X.K c W fs)) (hs : starEach [a] X.env = [(false, eval a X.env)] := by rfl) : PI X tg (.Call (.Name "range" p) [a] [] pos) (liftI X.K c W (eRange fs)) :=
  PI_of (pi_range1 hg hm ha hs) fun σ H R q => by
    obtain ⟨T, B, e, st, m⟩ := q
    refine ⟨T, B, e, st, m.bind.imp fun ds e1 B1 H1 x1 m1 st1 vs rv => ?_⟩
    have m1 : Pst X.K c T W σ B1 (mopt (rgOf ds) e1) _ := m1
    cases ds with
    | nil => exact m1.elim
    | cons d ds => cases ds with
      | nil =>
        obtain ⟨v, us, rfl, r1, r2⟩ := rv
        cases (show _ = _ from r2)
        cases d with
        | int j =>
          cases r1
          by_cases hj : -1000000 ≤ j ∧ j ≤ 1000000
          · rw [rgOf, if_pos hj] at m1
            refine ⟨j, rfl, by omega, by omega, m1 B1 H1 (Evl.Ex.refl _) st1 _ ?_⟩
            have z : j.toNat = (j - 0).toNat := by omega
            rw [z]
            exact it_range
          · rw [rgOf, if_neg hj] at m1
            exact m1.elim
        | _ => exact m1.elim
      | cons d2 ds => cases d <;> exact m1.elim
theorem di_range2 {tg a b : Expr} {fs : M (List D)} {p pos : Pos} (hg : Gl X "range") (hm : X.mg "range" = none) (ha : PA X [a, b] (liftA X.K c W fs)) (hs : starEach [a, b] X.env = [(false, eval a X.env), (false, eval b X.env)] := by rfl) (hs2 : starEach [b] X.env = [(false, eval b X.env)] := by rfl) :
    PI X tg (.Call (.Name "range" p) [a, b] [] pos) (liftI X.K c W (eRange2 fs)) :=
  PI_of (pi_range2 hg hm ha hs hs2) fun σ H R q => by
    obtain ⟨T, B, e, st, m⟩ := q
    refine ⟨T, B, e, st, m.bind.imp fun ds e1 B1 H1 x1 m1 st1 vs rv => ?_⟩
    have m1 : Pst X.K c T W σ B1 (mopt (rgOf2 ds) e1) _ := m1
    cases q : rgOf2 ds with
    | none =>
      rw [q] at m1
      exact m1.elim
    | some xs =>
      rw [q] at m1
      unfold rgOf2 at q
      split at q
      · rename_i i j
        by_cases hj : -1000000 ≤ i ∧ i ≤ 1000000 ∧ -1000000 ≤ j ∧ j ≤ 1000000
        · rw [if_pos hj] at q
          cases q
          obtain ⟨v, us, rfl, r1, v', us', rfl, r2, r3⟩ := rv
          cases (show _ = _ from r3)
          cases (show Sh X.K B1 (.int i) v from r1)
          cases (show Sh X.K B1 (.int j) v' from r2)
          exact ⟨i, j, rfl, by omega, m1 B1 H1 (Evl.Ex.refl _) st1 _ it_range⟩
        · rw [if_neg hj] at q
          cases q
      · cases q

/-! ### for -/
def forL (t : TgF) (b : M Fl) : List D → M Fl
  | [] => mret .nx
  | d :: ds => fun e => match t d e with
    | none => .no
    | some e1 => match b e1 with
      | .ok .nx e2 => forL t b ds e2
      | .ok .ct e2 => forL t b ds e2
      | .ok .bk e2 => .ok .nx e2
      | r => r
def sFor (it : M (List D)) (t : TgF) (b : M Fl) : M Fl := mbind it fun ds => forL t b ds
theorem drop_cons {α : Type} {l : List α} {i : Nat} {a : α} (h : l[i]? = some a) : l.drop i = a :: l.drop (i + 1) := by
  obtain ⟨hi, e⟩ := List.getElem?_eq_some_iff.mp h
  rw [← e]
  exact List.drop_eq_getElem_cons hi
theorem ds_for {tg x : Expr} {body : List Stmt} {S : List Nat} {t : TgF} {f : M (List D)} {g : M Fl} {pos : Pos} (hp : PassesOwn (model X.prog X.w) X.A X.env X.xe) (hc : X.calm = true) (hi : PI X tg x (liftI X.K c W f)) (hg : PG X tg (liftG X.K c S t)) (hb : PSs X body (liftS X.K c W g))
    (hs : ∀ y, foldedSetIterable x X.env y = pure y := by intro _; rfl) : PS X (.For tg x body [] pos) (liftS X.K c W (sFor f t g)) := PS_of (ps_for hp hc hi hg hb hs) fun Dn σ H q => by
  obtain ⟨B, e, st, m⟩ := q
  refine ⟨[], B, e, st, (Pst.go (σ := σ) (show SEnd X.K c W B Dn ((f e).bind _) from m)).imp fun ds e1 B1 H1 x1 m1 st1 J hJ => ?_⟩
  refine ⟨fun i n σ' H' => n = ds.length - i ∧ i ≤ ds.length ∧ ∃ B' e', Ex B1 B' ∧ StOk X.K c [] B' H' σ' e' ∧ SEnd X.K c W B' Dn (forL t g (ds.drop i) e'), ⟨ds.length, by simp, Nat.zero_le _, B1, e1, Evl.Ex.refl _, st1, m1⟩, ?_⟩
  rintro i n σ' H' ⟨rfl, hle, B2, e2, x2, st2, m2⟩
  by_cases hlt : i < ds.length
  · refine .inr ⟨hJ.go i B2 H' x2 st2.ex hlt, fun σ3 H3 => ∃ B3 e3, Ex B1 B3 ∧ StOk X.K c [] B3 H3 σ3 e3 ∧ SEnd X.K c W B3 Dn (forL t g (ds.drop (i + 1)) e3), fun σ3 H3 ⟨B3, e3, y3, st3, m3⟩ => ⟨ds.length - (i + 1), by omega, rfl, hlt, B3, e3, y3, st3, m3⟩, fun v H3 hy => ?_⟩
    obtain ⟨B3, d, gr, hd, sh⟩ := hJ.yld i B2 H' v H3 x2 st2.ex hlt hy
    rw [drop_cons hd] at m2
    have m2 : SEnd X.K c W B2 Dn (match t d e2 with
      | none => .no
      | some e1 => match g e1 with
        | .ok .nx e2 => forL t g (ds.drop (i + 1)) e2
        | .ok .ct e2 => forL t g (ds.drop (i + 1)) e2
        | .ok .bk e2 => .ok .nx e2
        | r => r) := m2
    refine ⟨[], B3, e2, d, st2.grow gr, sh, ?_⟩
    cases q : t d e2 with
    | none =>
      rw [q] at m2
      exact m2.elim
    | some e3 =>
      rw [q] at m2
      have m2 : SEnd X.K c W B2 Dn (match g e3 with
        | .ok .nx e2 => forL t g (ds.drop (i + 1)) e2
        | .ok .ct e2 => forL t g (ds.drop (i + 1)) e2
        | .ok .bk e2 => .ok .nx e2
        | r => r) := m2
      refine fun σ4 B4 H4 _ _ x4 st4 => ⟨B4, e3, st4, ?_⟩
      generalize g e3 = r at m2 ⊢
      have x24 : Ex B2 B4 := gr.b.trans x4
      cases r with
      | no => exact m2
      | ex y e' => exact SEnd.mono x24 m2
      | ok fl e' => cases fl with
        | nx => exact fun σ5 B5 H5 x5 st5 => ⟨B5, e', (x2.trans x24).trans x5, st5, SEnd.mono (x24.trans x5) m2⟩
        | ct => exact fun σ5 B5 H5 x5 st5 => ⟨B5, e', (x2.trans x24).trans x5, st5, SEnd.mono (x24.trans x5) m2⟩
        | bk => exact SEnd.mono x24 m2
        | rt d => exact SEnd.mono x24 m2
  · have hi : i = ds.length := by omega
    subst hi
    rw [List.drop_length] at m2
    exact .inl ⟨hJ.stop _ B2 H' x2 st2.ex (Nat.le_refl _), m2 σ' B2 H' (Evl.Ex.refl _) st2⟩

/-! ### while -/
def whL (t : M Bool) (b : M Fl) : Nat → M Fl
  | 0 => fun _ => .no
  | n + 1 => fun e => (t e).bind fun k e1 => if k = true then match b e1 with
      | .ok .nx e2 => whL t b n e2
      | .ok .ct e2 => whL t b n e2
      | .ok .bk e2 => .ok .nx e2
      | r => r
    else .ok .nx e1
theorem ds_while {x : Expr} {body : List Stmt} {t : M Bool} {g : M Fl} {pos : Pos} (n : Nat) (hp : PassesOwn (model X.prog X.w) X.A X.env X.xe) (ht : PT X x (liftT X.K c W t)) (hb : PSs X body (liftS X.K c W g)) : PS X (.While x body [] pos) (liftS X.K c W (whL t g n)) :=
  PS_of (ps_while hp ht hb) fun Dn σ H q => by
    obtain ⟨B, e, st, m⟩ := q
    refine ⟨fun n σ' H' => ∃ B' e', Ex B B' ∧ StOk X.K c [] B' H' σ' e' ∧ SEnd X.K c W B' Dn (whL t g n e'), ⟨n, B, e, Evl.Ex.refl _, st, m⟩, ?_⟩
    rintro n σ1 H1 ⟨B1, e1, x1, st1, m1⟩
    cases n with
    | zero => exact m1.elim
    | succ n =>
      refine ⟨[], B1, e1, st1, (Pst.go (σ := σ1) (show SEnd X.K c W B1 Dn ((t e1).bind _) from m1)).imp fun k e2 B2 H2 x2 m2 st2 => ?_⟩
      cases k with
      | false => exact m2 σ1 B2 H2 (Evl.Ex.refl _) st2
      | true =>
        have m2 : SEnd X.K c W B2 Dn (match g e2 with
          | .ok .nx e2 => whL t g n e2
          | .ok .ct e2 => whL t g n e2
          | .ok .bk e2 => .ok .nx e2
          | r => r) := m2
        refine ⟨fun σ3 H3 => ∃ B3 e3, Ex B B3 ∧ StOk X.K c [] B3 H3 σ3 e3 ∧ SEnd X.K c W B3 Dn (whL t g n e3), fun σ3 H3 h => ⟨n, Nat.lt_succ_self n, h⟩, B2, e2, st2, ?_⟩
        have x02 : Ex B B2 := x1.trans x2
        generalize g e2 = r at m2 ⊢
        cases r with
        | no => exact m2
        | ex y e' => exact m2
        | ok fl e' => cases fl with
          | nx => exact fun σ5 B5 H5 x5 st5 => ⟨B5, e', x02.trans x5, st5, SEnd.mono x5 m2⟩
          | ct => exact fun σ5 B5 H5 x5 st5 => ⟨B5, e', x02.trans x5, st5, SEnd.mono x5 m2⟩
          | bk => exact m2
          | rt d => exact m2
end
end DL
end

section
set_option maxRecDepth 100000
set_option maxHeartbeats 2000000
namespace DL
open PySem L2
open Evl (Ex)
section
variable {X : Cx} {c : Ctx} {W : WX} {K : PySem.W.Frag}
abbrev W0 : WX := fun _ _ _ _ => False
/-- the block's own names forgotten -/
def eWipe (e : Env) : List Nat → Env
  | [] => e
  | v :: vs => (eWipe e vs).set v none
theorem eWipe_none {e : Env} {i : Nat} {d : D} : ∀ {vs : List Nat}, (eWipe e vs)[i]? = some (some d) → i ∉ vs ∧ e[i]? = some (some d)
  | [], h => ⟨by simp, h⟩
  | v :: vs, h => by
    have h : ((eWipe e vs).set v none)[i]? = some (some d) := h
    have hi : i ≠ v := fun z => by
      subst z
      have := set_self h
      cases this
    rw [List.getElem?_set_ne (Ne.symm hi)] at h
    obtain ⟨h1, h2⟩ := eWipe_none h
    exact ⟨by simp only [List.mem_cons, not_or]; exact ⟨hi, h1⟩, h2⟩
theorem eWipe_length {e : Env} : ∀ {vs : List Nat}, (eWipe e vs).length = e.length
  | [] => rfl
  | v :: vs => by
    show ((eWipe e vs).set v none).length = e.length
    rw [List.length_set, eWipe_length]
/-- slots that the environment does not know may be anything -/
theorem StOk.other {T : List (Addr × HO)} {B H : Hp} {σ σ' : L2.St} {e : Env} (s : StOk K c T B H σ e) (hl : σ'.length = σ.length) (h : ∀ (i : Nat) (d : D), e[i]? = some (some d) → σ'[i]? = σ[i]?) : StOk K c T B H σ' e := by
  obtain ⟨fp, h1, h2, h3, h4, h5⟩ := s.slots
  refine ⟨s.len.trans hl.symm, ⟨fp, fun i d hd => ?_, h2, h3, h4, h5⟩, s.tmp, s.tnd, s.bh, s.b0, s.keep, s.there, s.old⟩
  obtain ⟨v, hv, ow, cd⟩ := h1 i d hd
  exact ⟨v, (h i d hd).trans hv, ow, cd⟩
theorem StOk.wipeE {T : List (Addr × HO)} {B H : Hp} {σ : L2.St} {e : Env} (s : StOk K c T B H σ e) : ∀ vs : List Nat, StOk K c T B H σ (eWipe e vs)
  | [] => s
  | v :: vs => (StOk.wipeE s vs).drop v
theorem wipe_at {σ : L2.St} {i : Nat} : ∀ {vs : List Nat}, i ∉ vs → (wipe σ vs)[i]? = σ[i]?
  | [], _ => rfl
  | v :: vs, h => by
    simp only [List.mem_cons, not_or] at h
    show ((wipe σ vs).set v none)[i]? = σ[i]?
    rw [List.getElem?_set_ne (Ne.symm h.1), wipe_at h.2]
theorem wipe_in {σ : L2.St} {i : Nat} : ∀ {vs : List Nat}, i ∈ vs → i < σ.length → (wipe σ vs)[i]? = some none
  | v :: vs, h, hl => by
    show ((wipe σ vs).set v none)[i]? = some none
    by_cases hi : i = v
    · subst hi
      exact List.getElem?_set_self (by rw [wipe_length]; exact hl)
    · rw [List.getElem?_set_ne (Ne.symm hi)]
      exact wipe_in ((List.mem_cons.mp h).resolve_left hi) hl
theorem wipe_eq {σ σ' : L2.St} {vs : List Nat} (hl : σ'.length = σ.length) (h : ∀ i, i ∉ vs → σ'[i]? = σ[i]?) : wipe σ' vs = wipe σ vs := by
  apply List.ext_getElem?
  intro i
  by_cases hi : i ∈ vs
  · by_cases hs : i < σ.length
    · rw [wipe_in hi hs, wipe_in hi (by rw [hl]; exact hs)]
    · rw [List.getElem?_eq_none (by rw [wipe_length]; omega), List.getElem?_eq_none (by rw [wipe_length]; omega)]
  · rw [wipe_at hi, wipe_at hi, h i hi]
/-- the list that is being made grows -/
theorem StOk.tmpUpd {T : List (Addr × HO)} {B H : Hp} {σ : L2.St} {e : Env} {p : Addr} {o u : HO} (s : StOk K c ((p, o) :: T) B H σ e) : StOk K c ((p, u) :: T) B (upd H p u) σ e := by
  obtain ⟨fp, h1, h2, h3, h4, h5⟩ := s.slots
  obtain ⟨t1, t2, t3⟩ := s.tmp _ List.mem_cons_self
  refine ⟨s.len, ⟨fp, fun i d hd => ?_, h2, h3, h4, fun q m i => ?_⟩, fun q m => ?_, s.tnd, fun b w q => ?_, s.b0, fun a w nl h => ?_, fun a n => ?_, s.old⟩
  · obtain ⟨v, hv, ow, cd⟩ := h1 i d hd
    refine ⟨v, hv, ow.mono (Evl.Ex.refl B) (fun a m => (ow.free a m).1) (fun a m o q => ?_), cd⟩
    rw [upd_ne (fun (z : a = p) => h5 _ List.mem_cons_self i (z ▸ m))]
    exact q
  · rcases List.mem_cons.mp m with z | m
    · rw [z]
      exact h5 (p, o) List.mem_cons_self i
    · exact h5 q (List.mem_cons_of_mem _ m) i
  · rcases List.mem_cons.mp m with z | m
    · rw [z]
      exact ⟨t1, upd_same, t3⟩
    · obtain ⟨q1, q2, q3⟩ := s.tmp q (List.mem_cons_of_mem _ m)
      refine ⟨q1, ?_, q3⟩
      rw [upd_ne (s.tmp_ne q m)]
      exact q2
  · rw [upd_ne (ne_of_none q t3)]
    exact s.bh b w q
  · have nb : a ≠ p := fun z => by
      rw [z] at h
      rw [show c.H0 p = none from t1] at h
      cases h
    rw [upd_ne nb]
    exact s.keep a w nl h
  · by_cases hb : a = p
    · rw [hb, upd_same]
      exact fun z => (nomatch z)
    · rw [upd_ne hb]
      exact s.there a n
/-! ### comprehensions -/
def Rs.bindN {α β : Type} (r : Rs α) (f : α → M β) : Rs β := match r with
  | .ok a e => f a e
  | _ => .no
def compL (vs : List Nat) (t : TgF) (ft : M Bool) (fe : M D) : List D → List D → M (List D)
  | [], acc => fun e => .ok acc e
  | d :: ds, acc => fun e => match t d e with
    | none => .no
    | some e1 => (ft e1).bindN fun k e2 => if k = true then (fe e2).bindN fun y e3 => if isSh y = true ∧ acc.length < 1000000 then compL vs t ft fe ds (acc ++ [y]) (eWipe e3 vs) else .no
      else compL vs t ft fe ds acc (eWipe e2 vs)
def eComp (it : M (List D)) (vs : List Nat) (t : TgF) (ft : M Bool) (fe : M D) : M (List D) := mbind it fun ds => fun e => compL vs t ft fe ds [] (eWipe e vs)
def tYesD : M Bool := mret true
theorem dts_nil : PTs X [] (liftT X.K c W tYesD) := ⟨fun pins s σ H Q I q => pts_nil.run pins s σ H Q I (by
  obtain ⟨T, B, e, st, m⟩ := q
  exact m B H (Evl.Ex.refl B) st)⟩
theorem dts_one {x : Expr} {f : M Bool} (h : PT X x (liftT X.K c W f)) : PTs X [x] (liftT X.K c W f) := pts_one h
theorem bindN_go {α β : Type} {T : List (Addr × HO)} {σ : L2.St} {B : Hp} {r : Rs α} {f : α → M β} {k : β → Env → Hp → Hp → Prop} (h : Pst K c T W σ B (r.bindN f) k) : ∀ T' σ', Pst K c T' W0 σ' B r (fun a e' B' _ => Pst K c T W σ B' (f a e') k) := fun T' σ' => by
  cases r with
  | ok a e => exact fun B' _ x => Pst.mono x h
  | ex y e => exact h.elim
  | no => exact h
theorem comp_conv {it : M (List D)} {vs S : List Nat} {t : TgF} {ft : M Bool} {fe : M D} (hS : ∀ i ∈ S, i ∈ vs) : ∀ σ H Q, liftF X.K c W (eComp it vs t ft fe) σ H Q → tLc (liftI X.K c W it) (liftG X.K c S t) (liftT X.K c W0 ft) (lift X.K c W0 fe) vs σ H Q := fun σ H Q q => by
  obtain ⟨T, B, e, st, m⟩ := q
  refine ⟨T, B, e, st, m.bind.imp fun ds e1 B1 H1 x1 m1 st1 J hJ Dl hD => ?_⟩
  refine ⟨fun i n H' => n = ds.length - i ∧ i ≤ ds.length ∧ ∃ B' e' acc us, Ex B1 B' ∧ StOk X.K c ((Dl, .lst us) :: T) B' H' (wipe σ vs) e' ∧ (∀ j d, e'[j]? = some (some d) → j ∉ vs) ∧ Shs X.K B' acc us ∧
      Pst X.K c T W σ B' (compL vs t ft fe (ds.drop i) acc e') (fun zs e'' B'' H'' => ∀ p ws, StOk X.K c ((p, .lst ws) :: T) B'' H'' σ e'' → Shs X.K B'' zs ws → Q (.ref p) H''),
    ⟨ds.length, by simp, Nat.zero_le _, B1, eWipe e1 vs, [], [], Evl.Ex.refl _, ?_, fun j d h => (eWipe_none h).1, .nil, m1⟩, ?_⟩
  · refine ((st1.fresh hD _).wipeE vs).other (wipe_length σ vs) fun i d h => wipe_at (eWipe_none h).1
  · rintro i n H2 ⟨rfl, hle, B2, e2, acc, us, x2, st2, hv, sa, m2⟩
    by_cases hlt : i < ds.length
    · refine .inr ⟨hJ.go i B2 H2 x2 st2.ex hlt, fun H' => ∃ B' e' acc us, Ex B1 B' ∧ StOk X.K c ((Dl, .lst us) :: T) B' H' (wipe σ vs) e' ∧ (∀ j d, e'[j]? = some (some d) → j ∉ vs) ∧ Shs X.K B' acc us ∧
          Pst X.K c T W σ B' (compL vs t ft fe (ds.drop (i + 1)) acc e') (fun zs e'' B'' H'' => ∀ p ws, StOk X.K c ((p, .lst ws) :: T) B'' H'' σ e'' → Shs X.K B'' zs ws → Q (.ref p) H''),
        fun H' h => ⟨ds.length - (i + 1), by omega, rfl, hlt, h⟩, fun v H3 hy => ?_⟩
      obtain ⟨B3, d, gr, hd, sh⟩ := hJ.yld i B2 H2 v H3 x2 st2.ex hlt hy
      rw [drop_cons hd] at m2
      have m2 : Pst X.K c T W σ B2 (match t d e2 with
        | none => .no
        | some e1 => (ft e1).bindN fun k e2 => if k = true then (fe e2).bindN fun y e3 => if isSh y = true ∧ acc.length < 1000000 then compL vs t ft fe (ds.drop (i + 1)) (acc ++ [y]) (eWipe e3 vs) else .no
          else compL vs t ft fe (ds.drop (i + 1)) acc (eWipe e2 vs)) _ := m2
      refine ⟨(Dl, .lst us) :: T, B3, e2, d, st2.grow gr, sh, ?_⟩
      cases q : t d e2 with
      | none =>
        rw [q] at m2
        exact m2.elim
      | some e3 =>
        rw [q] at m2
        refine fun σ4 B4 H4 l4 k4 x4 st4 => ?_
        have ew : wipe σ4 vs = wipe σ vs := wipe_eq (l4.trans (wipe_length σ vs)) fun j hj => (k4 j fun z => hj (hS j z)).trans (wipe_at hj)
        have x24 : Ex B2 B4 := gr.b.trans x4
        have back : ∀ {B' H' : Hp} {e' : Env} {us' : List V}, StOk X.K c ((Dl, .lst us') :: T) B' H' σ4 e' → StOk X.K c ((Dl, .lst us') :: T) B' H' (wipe σ vs) (eWipe e' vs) := fun {B' H' e' us'} s => by
          rw [← ew]
          exact (s.wipeE vs).other (wipe_length σ4 vs) fun i d h => wipe_at (eWipe_none h).1
        refine ⟨ew, (Dl, .lst us) :: T, B4, e3, st4, (bindN_go (Pst.mono x24 m2) _ _).imp fun k e5 B5 H5 x5 m5 st5 => ?_⟩
        cases k with
        | false =>
          rw [if_neg Bool.false_ne_true] at m5
          rw [if_neg Bool.false_ne_true]
          exact ⟨B5, eWipe e5 vs, acc, us, (x2.trans x24).trans x5, back st5, fun j d h => (eWipe_none h).1, sa.mono (x24.trans x5), m5⟩
        | true =>
          rw [if_pos rfl] at m5
          rw [if_pos rfl]
          refine ⟨(Dl, .lst us) :: T, B5, e5, st5, (bindN_go m5 _ _).imp fun y e6 B6 H6 x6 m6 st6 w rw' => ?_⟩
          by_cases hc : isSh y = true ∧ acc.length < 1000000
          · rw [if_pos hc] at m6
            obtain ⟨_, t2, _⟩ := st6.tmp _ List.mem_cons_self
            refine ⟨us, t2, Nat.lt_of_lt_of_le (by rw [← sa.length]; exact hc.2) (line_ok (Nat.le_refl _)), ?_⟩
            exact ⟨B6, eWipe e6 vs, acc ++ [y], us ++ [w], ((x2.trans x24).trans x5).trans x6, back st6.tmpUpd, fun j d h => (eWipe_none h).1, (sa.mono ((x24.trans x5).trans x6)).append (.cons (rw'.sh hc.1) .nil), m6⟩
          · rw [if_neg hc] at m6
            exact m6.elim
    · have hi : i = ds.length := by omega
      subst hi
      rw [List.drop_length] at m2
      refine .inl ⟨hJ.stop _ B2 H2 x2 st2.ex (Nat.le_refl _), m2 B2 H2 (Evl.Ex.refl _) Dl us (st2.other (wipe_length σ vs).symm fun j d h => (wipe_at (hv j d h)).symm) sa⟩
theorem de_lc {elt tg iter : Expr} {ifs : List Expr} {scope : Scope} {own : List (Str × Nat)} {S : List Nat} {pos : Pos} {it : M (List D)} {t : TgF} {ft : M Bool} {fe : M D} (hc : X.calm = true) (hN : X.N.Nodup) (hi : PI X tg iter (liftI X.K c W it)) (ok : BlkOk X.N X.env.scope scope own) (hS : ∀ i ∈ S, i ∈ own.map (·.2))
    (hg : ∀ (s : Shared) (H : Hp) (C : Addr) (cl : List (Str × Addr)) (fp : List Addr), PG (X.blk s H scope (compEnvC scope cl C X.env) fp) tg (liftG X.K c S t)) (ht : ∀ (s : Shared) (H : Hp) (C : Addr) (cl : List (Str × Addr)) (fp : List Addr), PTs (X.blk s H scope (compEnvC scope cl C X.env) fp) ifs (liftT X.K c W0 ft))
    (he : ∀ (s : Shared) (H : Hp) (C : Addr) (cl : List (Str × Addr)) (fp : List Addr), PE (X.blk s H scope (compEnvC scope cl C X.env) fp) elt (lift X.K c W0 fe)) (hs : ∀ x, foldedSetIterable iter X.env x = pure x := by intro _; rfl) :
    PE X (.ListComp elt [⟨tg, iter, ifs, 0⟩] scope pos) (liftF X.K c W (eComp it (own.map (·.2)) t ft fe)) := PE_of (pe_lc hc hN hi ok hg ht he hs) (comp_conv hS)
/-- name = [..] on one line -/
theorem ds_setLc {i : Nat} {y : Str} {py : Pos} {elt tg iter : Expr} {ifs : List Expr} {scope : Scope} {own : List (Str × Nat)} {S : List Nat} {pos spos : Pos} {it : M (List D)} {t : TgF} {ft : M Bool} {fe : M D} (hc : X.calm = true) (hN : X.N.Nodup) (hy : X.N[i]? = some y) (hyl : X.env.scope.names.lookup y = some .local)
    (hsw : swapsWith (.ListComp elt [⟨tg, iter, ifs, 0⟩] scope pos) (some (.Name y py)) spos.line X.env = pure true) (hi : PI X tg iter (liftI X.K c W it)) (ok : BlkOk X.N X.env.scope scope own) (hS : ∀ i ∈ S, i ∈ own.map (·.2))
    (hg : ∀ (s : Shared) (H : Hp) (C : Addr) (cl : List (Str × Addr)) (fp : List Addr), PG (X.blk s H scope (compEnvC scope cl C X.env) fp) tg (liftG X.K c S t)) (ht : ∀ (s : Shared) (H : Hp) (C : Addr) (cl : List (Str × Addr)) (fp : List Addr), PTs (X.blk s H scope (compEnvC scope cl C X.env) fp) ifs (liftT X.K c W0 ft))
    (he : ∀ (s : Shared) (H : Hp) (C : Addr) (cl : List (Str × Addr)) (fp : List Addr), PE (X.blk s H scope (compEnvC scope cl C X.env) fp) elt (lift X.K c W0 fe)) (hs : ∀ x, foldedSetIterable iter X.env x = pure x := by intro _; rfl) :
    PS X (.Assign [.Name y py] (.ListComp elt [⟨tg, iter, ifs, 0⟩] scope pos) spos) (liftS X.K c W (sAsgF i (eComp it (own.map (·.2)) t ft fe))) :=
  PS_of (ps_setLc hc hN hy hyl hsw hi ok hg ht he hs) fun Dn σ H q => comp_conv hS σ H _ (asgF_conv Dn σ H q)
end
end DL
end

section
set_option maxRecDepth 100000
set_option maxHeartbeats 2000000
namespace DL
open PySem L2
open Evl (Ex)

/-! ### a def by its name -/
/-- the def x computes F on n arguments -/
def Fn (P : Program) (w : World) (K : PySem.W.Frag) (mg : Str → Option Value) (base : Heap) (x : Str) (k n : Nat) (F : List D → Rs D) : Prop :=
  ∃ (f : Addr) (fd : FuncData) (ps : List Str), FnOk P w K mg base (L2.CX P w) k f fd ps (spF K n F) ∧ mg x = some (.ref f) ∧ PySem.W.keepIn K (.ref f) = true ∧ Binds K fd ps []
section
variable {P : Program} {w : World} {K : PySem.W.Frag} {mg : Str → Option Value} {base : Heap}
theorem fn_mkB {x qual : Str} {params : Arguments} {body : List Stmt} {scope : Scope} {dvs : List V} {kws : List (Str × V)} {f : Addr} {fd : FuncData} {N ps : List Str} {k n : Nat} {g : M Fl} (F : FunD K x qual params body scope dvs kws f fd) (S : FnScope N ps scope) (hn : ps.length = n) (hN : ps.length ≤ N.length)
    (hb : ∀ (cdv : Value) (A : Around) (outer : List PySem.Env) (s : Shared) (H : Hp) (E : XK) (c : Ctx) (W : WX), Body (cxOf (L2.CX P w) P w K mg base N qual scope f cdv A outer s H E) W k →
      PSs (cxOf (L2.CX P w) P w K mg base N qual scope f cdv A outer s H E) body (liftS K c W g)) :
    FnOk P w K mg base (L2.CX P w) (k + 1) f fd ps (spF K n (runF N.length g)) := by
  subst hn
  refine F.ok S (fun vs H Q E h => ?_) (fun cdv A outer s H vs Q E hr h => ?_)
  · obtain ⟨B, ds, fp, a, hl, _⟩ := h
    rw [a.len, hl]
  · obtain ⟨B, ds, fp, a, hl, m⟩ := h
    refine ⟨_, hb cdv A outer s H E { vs := vs, B0 := B, H0 := H, fp0 := fp } (fun cls d _ H' => E cls d H') ⟨⟨takes_of rfl rfl rfl rfl, rfl, hr⟩, rfl, rfl, passes_of rfl⟩, ?_⟩
    refine ⟨B, _, start_ok a (by omega), ?_⟩
    unfold runF at m
    generalize g (ds.map some ++ List.replicate (N.length - ds.length) none) = r at m ⊢
    cases r with
    | no => exact m
    | ex y e =>
      by_cases hb : borOk ds e = true
      · rw [endF, if_pos hb] at m
        exact fun cls dd σ' B' H' x st rx => by
          obtain ⟨fp', o⟩ := outs_ok a st hb
          exact m cls dd B' H' fp' (after_ok st) rx o
      · rw [endF, if_neg hb] at m
        exact m.elim
    | ok fl e => cases fl with
      | nx =>
        by_cases hb : borOk ds e = true
        · rw [endF, if_pos hb] at m
          exact fun σ' B' H' x st => by
            obtain ⟨fp', o⟩ := outs_ok a st hb
            exact m .non B' H' fp' (after_ok st) .non o
        · rw [endF, if_neg hb] at m
          exact m.elim
      | rt d =>
        by_cases hb : borOk ds e = true
        · rw [endF, if_pos hb] at m
          exact fun v σ' B' H' x st sh => by
            obtain ⟨fp', o⟩ := outs_ok a st hb
            exact m v B' H' fp' (after_ok st) sh o
        · rw [endF, if_neg hb] at m
          exact m.elim
      | bk => exact m.elim
      | ct => exact m.elim
end
section
variable {X : Cx} {c : Ctx} {W : WX} {k kf n : Nat} {x : Str} {p pos : Pos} {e : Expr} {es : List Expr} {fs : M (List D)} {Fm : List D → Rs D}
theorem Bx.blk (b : Bx X W k) {s : Shared} {H : Hp} {scope : Scope} {cenv : PySem.Env} {fp : List Addr} : Bx (X.blk s H scope cenv fp) W0 k := ⟨takes0, b.calm, b.room⟩
theorem de_fn (b : Bx X W k) (F : Fn X.prog X.w X.K X.mg X.base x kf n Fm) (hk : kf ≤ k) (hg : Gl X x) (ha : PA X (e :: es) (liftA X.K c W fs)) (hdb : (x == ("__debug__" : Str)) = false := by decide)
    (he : starEach (e :: es) X.env = (false, eval e X.env) :: starEach es X.env := by rfl) (hpl : (backTo pos (starEach es X.env)).any (·.1) = false := by rfl) : PE X (.Call (.Name x p) (e :: es) [] pos) (lift X.K c W (eCall n Fm fs)) := by
  obtain ⟨f, fd, ps, F1, F2, F3, F4⟩ := F
  exact de_call b F1 hk hg F2 F3 F4 ha hdb he hpl
end
/-- the law's end -/
theorem law_ok {K : PySem.W.Frag} {F : List D → Rs D} {most : Nat} (hF : ∀ ns : List Int, ns.length ≤ most → ∃ outs, F [.klst (ns.map D.int)] = .ok (.bl true) outs)
    (H : Hp) (a : Addr) (ns : List Int) (hl : ns.length ≤ most) (h : SqL K H a (ns.map V.int)) : spF K 1 F [.ref a] H (fun v _ => v = .bl true) fun _ _ _ => False := by
  have shI : ∀ ns : List Int, Shs K H (ns.map D.int) (ns.map V.int) := fun ns => by
    induction ns with
    | nil => exact .nil
    | cons n ns ih => exact .cons (.int n) ih
  obtain ⟨outs, e⟩ := hF ns hl
  refine ⟨H, [.klst (ns.map D.int)], fun _ => [], ⟨Evl.Ex.refl H, rfl, fun i d hd => ?_, fun _ _ => rfl, fun _ => List.nodup_nil, fun _ _ _ _ m => (nomatch m), fun i xs hx => ?_, fun i j hx => ?_⟩, rfl, ?_⟩
  · cases i with
    | zero =>
      cases hd
      exact ⟨_, rfl, .sh (.klst h (shI ns))⟩
    | succ i => simp at hd
  · cases i with
    | zero => cases hx
    | succ i => simp at hx
  · cases i with
    | zero => cases hx
    | succ i => simp at hx
  · rw [e]
    exact fun v B' H' fp' _ sh _ => by
      cases sh
      rfl
end DL
end

section
set_option maxRecDepth 100000
set_option maxHeartbeats 2000000
namespace DL
open PySem L2
open Evl (Ex)
/-! ### a call that leaves defaults out -/
def aMore (dds : List D) (fs : M (List D)) : M (List D) := mbind fs fun ds => mret (ds ++ dds)
section
variable {X : Cx} {c : Ctx} {W : WX} {k kf n : Nat} {f : Addr} {fd : FuncData} {ps : List Str} {x : Str} {p pos : Pos} {e : Expr} {es : List Expr} {fs : M (List D)} {Fm : List D → Rs D} {dds : List D} {dvs : List V} {us : List Value}
theorem rts_more {K : PySem.W.Frag} {B : Hp} {σ : L2.St} (h : Shs K B dds dvs) : ∀ {ds : List D} {vs : List V}, RTs K B σ ds vs → RTs K B σ (ds ++ dds) (vs ++ dvs)
  | [], vs, r => by
    have : vs = [] := r
    subst this
    show RTs K B σ dds dvs
    clear r
    induction dds generalizing dvs with
    | nil =>
      cases h
      rfl
    | cons d ds ih =>
      cases h with
      | cons h1 h2 => exact ⟨_, _, rfl, RT.of h1, ih h2⟩
  | d :: ds, vs, r => by
    obtain ⟨v, us, rfl, r1, r2⟩ := r
    exact ⟨v, us ++ dvs, rfl, r1, rts_more h r2⟩
theorem call_convD (hd : ∀ B, Shs X.K B dds dvs) : ∀ σ H Q, lift X.K c W (eCall n Fm (aMore dds fs)) σ H Q → tCallSD (spF X.K n Fm) dvs (WE W) (liftA X.K c W fs) σ H Q := fun σ H Q q => by
  obtain ⟨T, B, e, st, m⟩ := q
  have m0 := m.bind
  have m1 := Pst.bind (r := fs e) (g := fun ds => mret (ds ++ dds)) m0
  refine ⟨T, B, e, st, m1.imp fun ds0 e1 B1 H1 x1 m2 st1 vs rv0 => ?_⟩
  have m1 := m2 B1 H1 (Evl.Ex.refl _)
  have rv := rts_more (hd B1) rv0
  generalize ds0 ++ dds = ds at m1 rv
  show spF X.K n Fm (vs ++ dvs) H1 Q (WE W σ)
  generalize vs ++ dvs = vs at rv ⊢
  have m1 : Pst X.K c T W σ B1 (if ds.length = n ∧ alN ds = true ∧ (ds.map (rsB e1)).all noOwn = true then
    match Fm (ds.map (rsB e1)) with
    | .ok r outs => .ok r (putO e1 ds outs)
    | .ex x outs => .ex x (putO e1 ds outs)
    | .no => .no
  else .no) _ := m1
  by_cases hc : ds.length = n ∧ alN ds = true ∧ (ds.map (rsB e1)).all noOwn = true
  · rw [if_pos hc] at m1
    obtain ⟨h1, h2, h3⟩ := hc
    obtain ⟨fp, a1, a2, a3, a4, a5, A⟩ := call_args st1 rv h2 h3
    refine ⟨B1, ds.map (rsB e1), lentFp fp ds, A, by rw [List.length_map]; exact h1, ?_⟩
    generalize Fm (ds.map (rsB e1)) = r at m1 ⊢
    cases r with
    | no => exact m1
    | ok d outs => exact fun v B' H' gp af sh o => m1 B' H' af.b (call_after st1 a1 a2 a3 a4 a5 rv h2 af o A) v (RT.of sh)
    | ex y outs => exact fun cls dd B' H' gp af rx o => m1 cls dd B' H' af.b (call_after st1 a1 a2 a3 a4 a5 rv h2 af o A) rx
  · rw [if_neg hc] at m1
    exact m1.elim
theorem de_callD (b : Bx X W k) (F : FnOk X.prog X.w X.K X.mg X.base (L2.CX X.prog X.w) kf f fd ps (spF X.K n Fm)) (hk : kf ≤ k) (hg : Gl X x) (hm : X.mg x = some (.ref f)) (hp : PySem.W.keepIn X.K (.ref f) = true) (hb : Binds X.K fd ps us) (hv : Vals dvs us) (hd : ∀ B, Shs X.K B dds dvs)
    (ha : PA X (e :: es) (liftA X.K c W fs)) (hdb : (x == ("__debug__" : Str)) = false := by decide) (he : starEach (e :: es) X.env = (false, eval e X.env) :: starEach es X.env := by rfl) (hpl : (backTo pos (starEach es X.env)).any (·.1) = false := by rfl) :
    PE X (.Call (.Name x p) (e :: es) [] pos) (lift X.K c W (eCall n Fm (aMore dds fs))) :=
  PE_of (pe_callSD F (b.room.mono hk) hg hm hp hb hv (fun σ => passAt b.tk σ) ha hdb he hpl) (call_convD hd)
end
end DL
end

section
set_option maxRecDepth 100000
set_option maxHeartbeats 2000000
namespace DL
open PySem L2

/-! ### a constant of the module -/
mutual
def shB (K : PySem.W.Frag) : D → Value → Bool
  | .non, .none => true
  | .bl b, .bool c => b == c
  | .int i, .int j _ => decide (i = j)
  | .str x, .str y _ => decide (x = y)
  | .tup ds, .ref a => (match K.lookup a with
    | some ⟨.type c, _, .seq its _, _⟩ => decide (c = "tuple") && (decide (its.size ≤ sizeLine) && shsB K ds its.toList)
    | _ => false)
  | .klst ds, .ref a => (match K.lookup a with
    | some ⟨.type c, none, .seq its _, _⟩ => decide (c = "list") && (decide (its.size ≤ sizeLine) && shsB K ds its.toList)
    | _ => false)
  | _, _ => false
def shsB (K : PySem.W.Frag) : List D → List Value → Bool
  | [], [] => true
  | d :: ds, u :: us => shB K d u && shsB K ds us
  | _, _ => false
end
section
variable {K : PySem.W.Frag}
mutual
theorem shB_ok : ∀ (d : D) (u : Value), shB K d u = true → ∃ v, RelV v u ∧ ∀ B, Sh K B d v
  | .non, .none, _ => ⟨.non, rfl, fun _ => .non⟩
  | .bl b, .bool c, h => ⟨.bl b, by
      have e : b = c := eq_of_beq (show (b == c) = true from h)
      rw [e]
      rfl, fun _ => .bl b⟩
  | .int i, .int j t, h => ⟨.int i, ⟨t, by rw [show i = j from of_decide_eq_true h]⟩, fun _ => .int i⟩
  | .str x, .str y t, h => ⟨.str x, ⟨t, by rw [show x = y from of_decide_eq_true h]⟩, fun _ => .str x⟩
  | .tup ds, .ref a, h => by
      rw [shB] at h
      cases q : K.lookup a with
      | none => rw [q] at h; cases h
      | some o =>
        obtain ⟨oc, od, dt, osl⟩ := o
        rw [q] at h
        cases oc with
        | type c => cases dt with
          | seq its n =>
            obtain ⟨h1, h2⟩ := He.ba (show (decide (c = "tuple") && (decide (its.size ≤ sizeLine) && shsB K ds its.toList)) = true from h)
            obtain ⟨h3, h4⟩ := He.ba h2
            obtain ⟨vs, r, s⟩ := shsB_ok ds its.toList h4
            exact ⟨.ref a, rfl, fun B => .tup (.inr ⟨_, its, n, q, congrArg Value.type (of_decide_eq_true h1), rfl, of_decide_eq_true h3, r⟩) (s B)⟩
          | _ => cases h
        | _ => cases dt <;> cases h
  | .klst ds, .ref a, h => by
      rw [shB] at h
      cases q : K.lookup a with
      | none => rw [q] at h; cases h
      | some o =>
        obtain ⟨oc, od, dt, osl⟩ := o
        rw [q] at h
        cases oc with
        | type c => cases od with
          | none => cases dt with
            | seq its n =>
              obtain ⟨h1, h2⟩ := He.ba (show (decide (c = "list") && (decide (its.size ≤ sizeLine) && shsB K ds its.toList)) = true from h)
              obtain ⟨h3, h4⟩ := He.ba h2
              obtain ⟨vs, r, s⟩ := shsB_ok ds its.toList h4
              exact ⟨.ref a, rfl, fun B => .klst (.inr ⟨_, its, n, q, congrArg Value.type (of_decide_eq_true h1), rfl, rfl, of_decide_eq_true h3, r⟩) (s B)⟩
            | _ => cases h
          | some _ => cases dt <;> cases h
        | _ => cases od <;> cases dt <;> cases h
theorem shsB_ok : ∀ (ds : List D) (us : List Value), shsB K ds us = true → ∃ vs, Vals vs us ∧ ∀ B, Shs K B ds vs
  | [], [], _ => ⟨[], .nil, fun _ => .nil⟩
  | d :: ds, u :: us, h => by
      rw [shsB] at h
      obtain ⟨h1, h2⟩ := He.ba h
      obtain ⟨v, r, s⟩ := shB_ok d u h1
      obtain ⟨vs, rs, ss⟩ := shsB_ok ds us h2
      exact ⟨v :: vs, .cons r rs, fun B => .cons (s B) (ss B)⟩
end
theorem shB_ref {d : D} {a : Addr} (h : shB K d (.ref a) = true) : ∀ B, Sh K B d (.ref a) := by
  obtain ⟨v, r, s⟩ := shB_ok d _ h
  cases (show absV (.ref a) = some v from r.abs)
  exact s
end
/-- the module's name x is the constant d, an object -/
def cstB (x : Str) (d : D) (K : PySem.W.Frag) : Bool := shB K d (.ref (He.ga K x))
/-- the module's name x is the builtin n -/
def bltB (x : Str) (n : String) (K : PySem.W.Frag) : Bool := He.eqO (PySem.W.nsIn K mainGlobals x) (some (some (.builtin n)))
theorem bltB_ok {K : PySem.W.Frag} {h : Heap} {mg : Str → Option Value} (X : K.In h) (G : h.Ns mainGlobals mg) {x : Str} {n : String} (c : bltB x n K = true) : mg x = some (.builtin n) := PySem.W.mg_of X G (He.eqO_ok c)

/-! ### the Hook -/
def obsX (fa : List He.Fa) (fn : List He.DefD) (ex : List (PySem.W.Frag → Bool)) (K : PySem.W.Frag) : He.AlD :=
  (((fa.all fun f => f.ok K) && fn.all fun d => d.ok K) && ex.all fun f => f K, fn.map fun d => He.fnW K d.at_)
def SaysX (fa : List He.Fa) (fn : List He.DefD) (ex : List (PySem.W.Frag → Bool)) (K : PySem.W.Frag) : Prop := obsX fa fn ex K = He.valD fn
theorem SaysX.toD {fa : List He.Fa} {fn : List He.DefD} {ex : List (PySem.W.Frag → Bool)} {K : PySem.W.Frag} (c : SaysX fa fn ex K) : He.SaysD fa fn K := by
  have e1 := congrArg (fun z : He.AlD => z.1) c
  have e2 : fn.map (fun d => He.fnW K d.at_) = fn.map He.DefD.val := congrArg (fun z : He.AlD => z.2) c
  have e3 := (He.ba (show ((((fa.all fun f => f.ok K) && fn.all fun d => d.ok K)) && ex.all fun f => f K) = true from e1)).1
  exact Prod.ext_iff.mpr ⟨e3, e2⟩
theorem SaysX.ext {fa : List He.Fa} {fn : List He.DefD} {ex : List (PySem.W.Frag → Bool)} {K : PySem.W.Frag} (c : SaysX fa fn ex K) (i : Nat) {f : PySem.W.Frag → Bool} (h : ex[i]? = some f := by rfl) : f K = true := by
  have e1 := congrArg (fun z : He.AlD => z.1) c
  have e3 := (He.ba (show ((((fa.all fun f => f.ok K) && fn.all fun d => d.ok K)) && ex.all fun f => f K) = true from e1)).2
  exact List.all_eq_true.mp e3 f (List.mem_of_getElem? h)
def obsXG (n : Nat) (fa : List He.Fa) (fn : List He.DefD) (ex : List (PySem.W.Frag → Bool)) (g : Addr → Option Obj) : He.AlD := obsX fa fn ex (He.frG g (He.asD g n))
def hookX (n : Nat) (fa : List He.Fa) (fn : List He.DefD) (ex : List (PySem.W.Frag → Bool)) : PySem.W.Hook where
  α := He.AlD
  obs := fun s => obsXG n fa fn ex s.heap.get?
  val := fun _ => He.valD fn
  says := fun _ h => ∃ K : PySem.W.Frag, K.In h ∧ SaysX fa fn ex K
  of := fun _ _ e => ⟨_, He.frG_in, e⟩
  keeps := fun _ _ _ ⟨K, hK, c⟩ k => ⟨K, PySem.W.Frag.In.keeps hK k, c⟩
theorem obsXG_eq {n : Nat} {fa : List He.Fa} {fn : List He.DefD} {ex : List (PySem.W.Frag → Bool)} {g : Addr → Option Obj} {s : Shared} (h : ∀ a, g a = s.heap.get? a) : obsXG n fa fn ex g = (hookX n fa fn ex).obs s := by
  have e : g = s.heap.get? := funext h
  rw [e] <;> rfl
/-- the same over written addresses -/
def obsLG (as : List Addr) (fa : List He.Fa) (fn : List He.DefD) (ex : List (PySem.W.Frag → Bool)) (g : Addr → Option Obj) : He.AlD := obsX fa fn ex (He.frG g as)
def hookL (as : List Addr) (fa : List He.Fa) (fn : List He.DefD) (ex : List (PySem.W.Frag → Bool)) : PySem.W.Hook where
  α := He.AlD
  obs := fun s => obsLG as fa fn ex s.heap.get?
  val := fun _ => He.valD fn
  says := fun _ h => ∃ K : PySem.W.Frag, K.In h ∧ SaysX fa fn ex K
  of := fun _ _ e => ⟨_, He.frG_in, e⟩
  keeps := fun _ _ _ ⟨K, hK, c⟩ k => ⟨K, PySem.W.Frag.In.keeps hK k, c⟩
theorem obsLG_eq {as : List Addr} {fa : List He.Fa} {fn : List He.DefD} {ex : List (PySem.W.Frag → Bool)} {g : Addr → Option Obj} {s : Shared} (h : ∀ a, g a = s.heap.get? a) : obsLG as fa fn ex g = (hookL as fa fn ex).obs s := by
  have e : g = s.heap.get? := funext h
  rw [e] <;> rfl
/-- no exception leaves the law -/
theorem cx_no {P : Program} {w : World} (H : Hp) (s : Shared) (e : Value) (s' : Shared) : L2.CX P w [] H s (fun _ _ _ => False) e s' → False := fun ⟨_, _, _, _, _, _, _, _, _, _, _, _, z⟩ => z
/-- the law, by its function: every list of ints of its length answers True -/
theorem walk_ofW {l : PySem.W.OpenLaw} {n k : Nat} {q : Program} {loose : List Str} {XP : (Str → Option Value) → Heap → Prop} {YP : World → Heap → Prop} {d : DefRec} {x : Str} {F : List D → Rs D}
    (hm : l.most = some n) (hs : n ≤ sizeLine) (hd : d.params.defaults = []) (hr : Room k callerA) (plain : ∀ ns : List Int, ns.length ≤ n → ∃ outs, F [.klst (ns.map D.int)] = .ok (.bl true) outs)
    (Hf : ∀ (w : World) (mg : Str → Option Value) (fa : Addr) (h : Heap), YP w h → h.Ns mainGlobals mg → mg d.name = some (.ref fa) → ∃ (K : PySem.W.Frag) (fd : FuncData),
      K.In h ∧ (∀ (s : Shared) (u : Value), BindsTo s fd ⟨[u], []⟩ [(x, u)]) ∧ ∀ base : Heap, FnOk l.prog w K mg base (L2.CX l.prog w) k fa fd [x] (spF K 1 F)) :
    PySem.W.WalkO q loose XP YP l.row.toRowW d [] fun f us => PySem.call f us := by
  refine Att.attach_call hm hd fun w t₀ t₁ mg mb fa o pm cd doc a vs ns G Y hq _ _ hg ho hi hl hx => ?_
  obtain ⟨K, fd, KX, hb, hF⟩ := Hf w mg fa _ Y G.T.g hg
  refine law_call KX G.T.g G.T.b G.T.builtins G.T.nolimit hx ho hi (Nat.le_trans hl hs) hr (fun base _ _ => hF base) hb (fun H _ hS => ?_) fun H e t => cx_no H t₁ e t
  exact law_ok plain H a ns hl hS
end DL
end

section
set_option maxRecDepth 100000
set_option maxHeartbeats 2000000
namespace DL
open PySem PySem.Spec PyProof.Rows L2
open Evl (Ex)
/-! ### raise C() of an own class -/
theorem mk_own0 {X : Cx} {C : Addr} {bmB : List Value} {B newId initId : String} {x : Str} {p pos : Pos} (F : ExcBaseFacts B newId initId bmB) (q : PySem.W.excIn X.K C bmB newId = true) (gC : X.mg x = some (.ref C))
    (kC : PySem.W.keepIn X.K (.ref C) = true) (r : Raises X (.ref C)) (hg : Gl X x) (hdb : (x == ("__debug__" : Str)) = false := by decide) : PMk X (.Call (.Name x p) [] [] pos) (fun _ H Q => Q (.ref C) none H) := by
  intro pins s σ H Q I h
  refine wpAny_Call_Name_kw (ld_glob I hg gC ?_ hdb)
  refine PySem.W.callWith_K0 I.kIn kC ?_
  obtain ⟨bm, N, nm, qn, bs, hdct, sn, sub, ab, col, dd, k0, k1, k2, k3, k5, mN, hC, hN, hni, T⟩ := exc_obj I.kIn q
  exact wpAny_call_exc_subT F T hC hN hni (fun h' e hm => mk_of I hm r h (I.hok.gone hm.new)) (Nat.zero_le _)
/-- what is known of an own exception class -/
structure XC (K : PySem.W.Frag) (mg : Str → Option Value) (x : Str) : Prop where
  ok : (He.Fa.exc x).ok K = true
  gl : mg x = some (.ref (He.ga K x))
def sRaise0 (x : Str) : M Fl := fun e => .ex ⟨x, []⟩ e
theorem ds_raise0 {X : Cx} {c : Ctx} {W : WX} {k : Nat} {x : Str} {p pos pos' : Pos} (b : Bx X W k) (T : XC X.K X.mg x) (hg : Gl X x) (hdb : (x == ("__debug__" : Str)) = false := by decide) :
    PS X (.Raise (some (.Call (.Name x p) [] [] pos)) none pos') (liftS X.K c W (sRaise0 x)) := by
  obtain ⟨h1, h2, h3, h4⟩ := He.exc_ok T.ok
  refine PS_of (ps_raise b.calm b.tk (mk_own0 PySem.F.excBase_ValueError h1 T.gl h2 (raises_own h3 h4) hg hdb)) fun Dn σ H q => ?_
  obtain ⟨B, e, st, m⟩ := q
  exact m (.ref (He.ga X.K x)) none σ B H (Ex.refl B) st ⟨rfl, .inl ⟨rfl, rfl⟩⟩
end DL
namespace DL
open PySem L2
/-! ### a def with defaults -/
/-- the def x, called with N - dds.length arguments -/
def FnD (P : Program) (w : World) (K : PySem.W.Frag) (mg : Str → Option Value) (base : Heap) (x : Str) (k N : Nat) (F : List D → Rs D) (dds : List D) : Prop :=
  ∃ (f : Addr) (fd : FuncData) (ps : List Str) (us : List Value) (dvs : List V), FnOk P w K mg base (L2.CX P w) k f fd ps (spF K N F) ∧ mg x = some (.ref f) ∧ PySem.W.keepIn K (.ref f) = true ∧ Binds K fd ps us ∧ Vals dvs us ∧ ∀ B, Shs K B dds dvs
theorem de_fnD {X : Cx} {c : Ctx} {W : WX} {k kf n : Nat} {x : Str} {p pos : Pos} {e : Expr} {es : List Expr} {fs : M (List D)} {Fm : List D → Rs D} {dds : List D} (b : Bx X W k) (F : FnD X.prog X.w X.K X.mg X.base x kf n Fm dds) (hk : kf ≤ k) (hg : Gl X x)
    (ha : PA X (e :: es) (liftA X.K c W fs)) (hdb : (x == ("__debug__" : Str)) = false := by decide)
    (he : starEach (e :: es) X.env = (false, eval e X.env) :: starEach es X.env := by rfl) (hpl : (backTo pos (starEach es X.env)).any (·.1) = false := by rfl) : PE X (.Call (.Name x p) (e :: es) [] pos) (lift X.K c W (eCall n Fm (aMore dds fs))) := by
  obtain ⟨f, fd, ps, us, dvs, F1, F2, F3, F4, F5, F6⟩ := F
  exact de_callD b F1 hk hg F2 F3 F4 F5 F6 ha hdb he hpl
end DL
namespace DL
open PySem L2
abbrev dPow : D → D → Option D := dInt2 fun i j => if 0 ≤ j ∧ j ≤ 1000000 ∧ i.natAbs < 2 ^ 64 then some (.int (i ^ j.toNat)) else none
theorem ok_pow {K : PySem.W.Frag} : OpD K (rI CPow fun i j => .int (i ^ j.toNat)) dPow := ok_intC (fun _ _ h => h) fun _ _ _ => .int _
end DL
end

section
set_option maxRecDepth 100000
set_option maxHeartbeats 2000000
namespace DL
open PySem L2
/-! ### a < b < c -/
def eChain (op op' : D → D → Option D) (fa fb fc : M D) : M D := mbind fa fun x => mbind fb fun y => fun e => match op (rs e x) (rs e y) with
  | some (.bl true) => mbind fc (fun w => fun e => mopt (op' (rs e y) (rs e w)) e) e
  | some (.bl false) => .ok (.bl false) e
  | _ => .no
section
variable {X : Cx} {c : Ctx} {W : WX} {a b d : Expr} {fa fb fc : M D} {pos : Pos} {op op' : D → D → Option D} {r r' : R2}
theorem chain_conv (ok : OpD X.K r op) (ok' : OpD X.K r' op') : ∀ σ H Q, lift X.K c W (eChain op op' fa fb fc) σ H Q → tChain r r' (lift X.K c W fa) (lift X.K c W fb) (lift X.K c W fc) σ H Q := fun σ H Q q => by
  obtain ⟨T, B, e, st, m⟩ := q
  refine ⟨T, B, e, st, m.bind.imp fun x e1 B1 H1 x1 m1 st1 v rv => ?_⟩
  refine ⟨T, B1, e1, st1, m1.bind.imp fun y e2 B2 H2 x2 m2 st2 u ru => ?_⟩
  have m2 : Pst X.K c T W σ B2 (match op (rs e2 x) (rs e2 y) with
    | some (.bl true) => mbind fc (fun w => fun e => mopt (op' (rs e y) (rs e w)) e) e2
    | some (.bl false) => .ok (.bl false) e2
    | _ => .no) _ := m2
  cases ho : op (rs e2 x) (rs e2 y) with
  | none =>
    rw [ho] at m2
    exact m2.elim
  | some z =>
    rw [ho] at m2
    refine ok B2 H2 _ _ v u z _ st2.ex (rs_ok st2 (rv.mono x2)) (rs_ok st2 ru) ho fun w B' H' g s => ?_
    have st3 := st2.grow g
    cases z with
    | bl k =>
      cases s
      refine ⟨k, rfl, ?_⟩
      cases k with
      | true =>
        have m3 := Pst.bind (r := fc e2) (g := fun w => fun e => mopt (op' (rs e y) (rs e w)) e) (Pst.mono g.b m2)
        refine ⟨T, B', e2, st3, m3.imp fun w e3 B3 H3 x3 m4 st4 v' rv' => ?_⟩
        have m4 : Pst X.K c T W σ B3 (mopt (op' (rs e3 y) (rs e3 w)) e3) _ := m4
        cases ho' : op' (rs e3 y) (rs e3 w) with
        | none =>
          rw [ho'] at m4
          exact m4.elim
        | some z' =>
          rw [ho'] at m4
          exact ok' B3 H3 _ _ u v' z' Q st4.ex (rs_ok st4 ((ru.mono g.b).mono x3)) (rs_ok st4 rv') ho' fun w B' H' g s => m4 B' H' g.b (st4.grow g) w (RT.of s)
      | false => exact m2 B' H' g.b st3 (.bl false) (RT.of (.bl false))
    | _ => exact m2.elim
theorem de_chain {o o' : CmpOp} (hr : OpR X (compareOp o) r) (ok : OpD X.K r op) (hr' : OpR X (compareOp o') r') (ok' : OpD X.K r' op') (ha : PE X a (lift X.K c W fa)) (hb : PE X b (lift X.K c W fb)) (hc : PE X d (lift X.K c W fc))
    (hm : lastMarks [o, o'] [b, d] = false := by with_unfolding_all rfl) : PE X (.Compare a [o, o'] [b, d] pos) (lift X.K c W (eChain op op' fa fb fc)) := PE_of (pe_chain hr hr' ha hb hc hm) (chain_conv ok ok')
theorem dt_chain {o o' : CmpOp} (hr : OpR X (compareOp o) r) (ok : OpD X.K r op) (hr' : OpR X (compareOp o') r') (ok' : OpD X.K r' op') (ha : PE X a (lift X.K c W fa)) (hb : PE X b (lift X.K c W fb)) (hc : PE X d (lift X.K c W fc))
    (hm : lastMarks [o, o'] [b, d] = false := by with_unfolding_all rfl) : PT X (.Compare a [o, o'] [b, d] pos) (liftT X.K c W (tOf (eChain op op' fa fb fc))) :=
  PT_of (pt_chain hr hr' ha hb hc hm) fun σ H Q q => by
    obtain ⟨T, B, e, st, m⟩ := test_conv σ H Q q
    exact chain_conv ok ok' σ H _ ⟨T, B, e, st, m⟩
end
end DL
namespace DL
open PySem L2
/-! ### x += e of ints -/
def sAugI (i : Nat) (g : Int → Int → Int) (fe : M D) : M Fl := fun e => match e[i]? with
  | some (some (.int n)) => mbind fe (fun y => fun e1 => match rs e1 y with
    | .int k => .ok .nx (e1.set i (some (.int (g n k))))
    | _ => .no) e
  | _ => .no
section
variable {X : Cx} {c : Ctx} {W : WX}
theorem aug_conv {i : Nat} {g : Int → Int → Int} {fe : M D} : ∀ Dn σ H, liftS X.K c W (sAugI i g fe) Dn σ H → tAug i (lift X.K c W fe) (ipI g) Dn σ H := fun Dn σ H q => by
  obtain ⟨B, e, st, m⟩ := q
  obtain ⟨fp, s1, _⟩ := st.slots
  unfold sAugI at m
  cases he : e[i]? with
  | none =>
    rw [he] at m
    exact m.elim
  | some o =>
    rw [he] at m
    cases o with
    | none => exact m.elim
    | some d =>
      cases d with
      | int n =>
        obtain ⟨v, hv, ow, _⟩ := s1 i _ he
        cases (show Sh X.K B (.int n) v from ow.shOf rfl)
        refine ⟨.int n, hv, [], B, e, st, (Pst.go (σ := σ) (show SEnd X.K c W B Dn ((fe e).bind _) from m)).imp fun d e1 B1 H1 x1 m1 st1 u ru => ?_⟩
        have r2 := rs_ok st1 ru
        generalize hz : rs e1 d = z at m1 r2
        cases z with
        | int k =>
          cases (show Sh X.K B1 (.int k) u from r2)
          exact ⟨n, k, rfl, rfl, m1 (σ.set i (some (.int (g n k)))) B1 H1 (Evl.Ex.refl _) (st1.set (.int _))⟩
        | _ => exact m1.elim
      | _ => exact m.elim
theorem ds_aug {i : Nat} {g : Int → Int → Int} {x : Str} {y : Expr} {fe : M D} {op : Operator} {pos pos' : Pos} (hN : X.N.Nodup) (hi : X.N[i]? = some x) (hx : Loc X.env.scope x) (h : PE X y (lift X.K c W fe)) (ho : PIp X op (ipI g))
    (hf : X.fn x = true ∨ X.env.scope.names.lookup x = some .local := by first | exact .inl rfl | exact .inr rfl | assumption) : PS X (.AugAssign (.Name x pos') op y pos) (liftS X.K c W (sAugI i g fe)) := PS_of (ps_aug hN hi hx h ho hf) aug_conv
end
end DL
end

section
set_option maxRecDepth 100000
set_option maxHeartbeats 2000000
namespace DL
open PySem L2
/-! ### f(e, .., k = v): no exception may leave -/
/-- F at the arguments ds -/
def eAt (n : Nat) (F : List D → Rs D) (ds : List D) : M D := fun e => if ds.length = n ∧ alN ds = true ∧ (ds.map (rsB e)).all noOwn = true then
    match F (ds.map (rsB e)) with
    | .ok r outs => .ok r (putO e ds outs)
    | _ => .no
  else .no
/-- g puts positional values, defaults, keywords' values in the parameters' order -/
def eCallK (n np nk : Nat) (F : List D → Rs D) (g : List D → List D → List D → List D) (dds : List D) (fs ks : M (List D)) : M D := mbind fs fun ds => mbind ks fun zs => fun e => if ds.length = np ∧ zs.length = nk then eAt n F (g ds dds zs) e else .no
section
variable {X : Cx} {c : Ctx} {W : WX} {k kf n np : Nat} {f : Addr} {fd : FuncData} {ps ks : List Str} {x : Str} {p pos kpos : Pos} {e : Expr} {es : List Expr} {kws : List Keyword} {nm : Option Str} {fs zs : M (List D)} {fe : M D} {Fm : List D → Rs D} {dds : List D} {dvs : List V}
theorem dk_nil : PK X [] (liftA X.K c W aNil) := ⟨fun pos pins s σ H Q I q => pk_nil.run pos pins s σ H Q I (by
  obtain ⟨T, B, e, st, m⟩ := q
  exact m B H (Evl.Ex.refl B) st [] rfl)⟩
theorem dk_cons (h : PE X e (lift X.K c W fe)) (r : PK X kws (liftA X.K c W fs)) : PK X (⟨nm, e, kpos⟩ :: kws) (liftA X.K c W (aCons fe fs)) := ⟨fun pos pins s σ H Q I q => (pk_cons h r).run pos pins s σ H Q I (by
  obtain ⟨T, B, e, st, m⟩ := q
  refine ⟨T, B, e, st, m.bind.imp fun d e1 B1 H1 x1 m1 st1 v rv => ?_⟩
  refine ⟨T, B1, e1, st1, m1.bind.imp fun ds e2 B2 H2 x2 m2 st2 us ru => ?_⟩
  exact m2 B2 H2 (Evl.Ex.refl _) st2 (v :: us) ⟨v, us, rfl, rv.mono x2, ru⟩)⟩
theorem at_core {T : List (Addr × HO)} {B1 H1 : Hp} {σ : L2.St} {e1 : Env} {ds : List D} {vs : List V} {Q : VK} (st1 : StOk X.K c T B1 H1 σ e1) (rv : RTs X.K B1 σ ds vs)
    (m1 : Pst X.K c T W σ B1 (eAt n Fm ds e1) fun d e' B' H' => StOk X.K c T B' H' σ e' → ∀ v, RT X.K B' σ d v → Q v H') : spF X.K n Fm vs H1 Q fun _ _ _ => False := by
  unfold eAt at m1
  by_cases hc : ds.length = n ∧ alN ds = true ∧ (ds.map (rsB e1)).all noOwn = true
  · rw [if_pos hc] at m1
    obtain ⟨h1, h2, h3⟩ := hc
    obtain ⟨fp, a1, a2, a3, a4, a5, A⟩ := call_args st1 rv h2 h3
    refine ⟨B1, ds.map (rsB e1), lentFp fp ds, A, by rw [List.length_map]; exact h1, ?_⟩
    generalize Fm (ds.map (rsB e1)) = r at m1 ⊢
    cases r with
    | no => exact m1
    | ok d outs => exact fun v B' H' gp af sh o => m1 B' H' af.b (call_after st1 a1 a2 a3 a4 a5 rv h2 af o A) v (RT.of sh)
    | ex y outs => exact m1.elim
  · rw [if_neg hc] at m1
    exact m1.elim
/-- the arrangement, on values and on data alike -/
def Arr (g : {α : Type} → List α → List α → List α → List α) : Prop := ∀ {K : PySem.W.Frag} {B : Hp} {σ : L2.St} {ds dds zs : List D} {vs dvs ws : List V}, RTs K B σ ds vs → RTs K B σ dds dvs → RTs K B σ zs ws → RTs K B σ (g ds dds zs) (g vs dvs ws)
theorem de_callK {g : {α : Type} → List α → List α → List α → List α} {gU : List Value → List Value → List Value} (b : Bx X W k) (F : FnOk X.prog X.w X.K X.mg X.base (L2.CX X.prog X.w) kf f fd ps (spF X.K n Fm)) (hk : kf ≤ k) (hg : Gl X x) (hm : X.mg x = some (.ref f))
    (hp : PySem.W.keepIn X.K (.ref f) = true) (hb : KBn X.K fd ps np ks gU (fun vs ws => g vs dvs ws)) (hd : ∀ B, Shs X.K B dds dvs) (hA : Arr g) (ha : PA X (e :: es) (liftA X.K c W fs)) (hkw : PK X kws (liftA X.K c W zs))
    (hall : (backToKw pos (keywordEach kws X.env)).all (·.1.isSome) = true := by rfl) (hks : (backToKw pos (keywordEach kws X.env)).filterMap (·.1) = ks := by rfl)
    (hdb : (x == ("__debug__" : Str)) = false := by decide) (he : starEach (e :: es) X.env = (false, eval e X.env) :: starEach es X.env := by rfl)
    (hpl : ((backTo pos (starEach (e :: es) X.env)).any (·.1) || (backToKw pos (keywordEach kws X.env)).any (·.1.isNone)) = false := by rfl) :
    PE X (.Call (.Name x p) (e :: es) kws pos) (lift X.K c W (eCallK n np ks.length Fm g dds fs zs)) :=
  PE_of (pe_callN (E := fun _ _ _ => False) F (b.room.mono hk) hg hm hp hb (fun _ _ _ _ _ _ _ ⟨_, _, _, _, _, _, _, _, _, _, _, _, z⟩ => z.elim) ha hkw hall hks hdb he hpl) fun σ H Q q => by
    obtain ⟨T, B, e, st, m⟩ := q
    refine ⟨T, B, e, st, m.bind.imp fun ds e1 B1 H1 x1 m1 st1 vs rv => ?_⟩
    refine ⟨T, B1, e1, st1, m1.bind.imp fun zs e2 B2 H2 x2 m2 st2 ws rw_ => ?_⟩
    have m2 : Pst X.K c T W σ B2 (if ds.length = np ∧ zs.length = ks.length then eAt n Fm (g ds dds zs) e2 else .no) _ := m2
    by_cases hc : ds.length = np ∧ zs.length = ks.length
    · rw [if_pos hc] at m2
      have r1 := rv.mono x2
      refine ⟨r1.length.symm.trans hc.1, rw_.length.symm.trans hc.2, at_core st2 (hA r1 ?_ rw_) m2⟩
      have := rts_more (hd B2) (show RTs X.K B2 σ [] [] from rfl)
      simpa using this
    · rw [if_neg hc] at m2
      exact m2.elim
end
end DL
namespace DL
open PySem L2
/-- an arrangement by places: (0, i) the i-th positional value, (1, i) default, (2, i) keyword's value -/
def arr (is : List (Nat × Nat)) {α : Type} (a d z : List α) : List α := match is with
  | [] => []
  | (k, i) :: is => ((if k = 0 then a else if k = 1 then d else z)[i]?).toList ++ arr is a d z
theorem vals_at : ∀ {xs : List V} {us : List Value} (i : Nat), Vals xs us → Vals (xs[i]?).toList (us[i]?).toList
  | [], [], i, _ => by simp; exact .nil
  | x :: xs, u :: us, 0, h => by
    cases h with
    | cons r _ => exact .cons r .nil
  | x :: xs, u :: us, i + 1, h => by
    cases h with
    | cons _ r => simpa using vals_at i r
theorem arr_vals (is : List (Nat × Nat)) : ∀ {vs ds zs : List V} {us its ws : List Value}, Vals vs us → Vals ds its → Vals zs ws → Vals (arr is vs ds zs) (arr is us its ws) := by
  intro vs ds zs us its ws h1 h2 h3
  induction is with
  | nil => exact .nil
  | cons p is ih =>
    obtain ⟨k, i⟩ := p
    unfold arr
    refine Vals.append ?_ ih
    by_cases k0 : k = 0
    · simp only [k0, if_true]
      exact vals_at i h1
    · by_cases k1 : k = 1
      · simp only [k1]
        exact vals_at i h2
      · simp only [k0, k1, if_false]
        exact vals_at i h3
theorem rts_at {K : PySem.W.Frag} {B : Hp} {σ : L2.St} : ∀ {ds : List D} {vs : List V} (i : Nat), RTs K B σ ds vs → RTs K B σ (ds[i]?).toList (vs[i]?).toList
  | [], vs, i, h => by
    have : vs = [] := h
    subst this
    simp
    rfl
  | d :: ds, vs, i, h => by
    obtain ⟨v, us, rfl, h1, h2⟩ := h
    cases i with
    | zero => exact ⟨v, [], rfl, h1, rfl⟩
    | succ i => simpa using rts_at i h2
theorem rts_app {K : PySem.W.Frag} {B : Hp} {σ : L2.St} {es : List D} {us : List V} (h : RTs K B σ es us) : ∀ {ds : List D} {vs : List V}, RTs K B σ ds vs → RTs K B σ (ds ++ es) (vs ++ us)
  | [], vs, r => by
    have : vs = [] := r
    subst this
    exact h
  | d :: ds, vs, r => by
    obtain ⟨v, ws, rfl, r1, r2⟩ := r
    exact ⟨v, ws ++ us, rfl, r1, rts_app h r2⟩
theorem arr_ok (is : List (Nat × Nat)) : Arr (fun {α} => @arr is α) := by
  intro K B σ ds dds zs vs dvs ws h1 h2 h3
  induction is with
  | nil => rfl
  | cons p is ih =>
    obtain ⟨k, i⟩ := p
    show RTs K B σ (arr ((k, i) :: is) ds dds zs) (arr ((k, i) :: is) vs dvs ws)
    unfold arr
    refine rts_app ih ?_
    by_cases k0 : k = 0
    · simp only [k0, if_true]
      exact rts_at i h1
    · by_cases k1 : k = 1
      · simp only [k1]
        exact rts_at i h2
      · simp only [k0, k1, if_false]
        exact rts_at i h3
/-- the def x, called with np values and the keywords ks -/
def FnK (P : Program) (w : World) (K : PySem.W.Frag) (mg : Str → Option Value) (base : Heap) (x : Str) (k N np : Nat) (ks : List Str) (is : List (Nat × Nat)) (F : List D → Rs D) (dds : List D) : Prop :=
  ∃ (f : Addr) (fd : FuncData) (ps : List Str) (gU : List Value → List Value → List Value) (dvs : List V), FnOk P w K mg base (L2.CX P w) k f fd ps (spF K N F) ∧ mg x = some (.ref f) ∧ PySem.W.keepIn K (.ref f) = true ∧
    KBn K fd ps np ks gU (fun vs ws => arr is vs dvs ws) ∧ ∀ B, Shs K B dds dvs
theorem de_fnK {X : Cx} {c : Ctx} {W : WX} {k kf n np : Nat} {ks : List Str} {is : List (Nat × Nat)} {x : Str} {p pos : Pos} {e : Expr} {es : List Expr} {kws : List Keyword} {fs zs : M (List D)} {Fm : List D → Rs D} {dds : List D} (b : Bx X W k)
    (F : FnK X.prog X.w X.K X.mg X.base x kf n np ks is Fm dds) (hk : kf ≤ k) (hg : Gl X x) (ha : PA X (e :: es) (liftA X.K c W fs)) (hkw : PK X kws (liftA X.K c W zs))
    (hall : (backToKw pos (keywordEach kws X.env)).all (·.1.isSome) = true := by rfl) (hks : (backToKw pos (keywordEach kws X.env)).filterMap (·.1) = ks := by rfl)
    (hdb : (x == ("__debug__" : Str)) = false := by decide) (he : starEach (e :: es) X.env = (false, eval e X.env) :: starEach es X.env := by rfl)
    (hpl : ((backTo pos (starEach (e :: es) X.env)).any (·.1) || (backToKw pos (keywordEach kws X.env)).any (·.1.isNone)) = false := by rfl) :
    PE X (.Call (.Name x p) (e :: es) kws pos) (lift X.K c W (eCallK n np ks.length Fm (arr is) dds fs zs)) := by
  obtain ⟨f, fd, ps, gU, dvs, F1, F2, F3, F4, F5⟩ := F
  exact de_callK (g := fun {α} => @arr is α) b F1 hk hg F2 F3 F4 F5 (arr_ok is) ha hkw hall hks hdb he hpl
end DL
end

section
set_option maxRecDepth 100000
set_option maxHeartbeats 2000000
/-! a caught exception: its classes, isinstance, a def that takes it, try .. except C as e -/
namespace DL
open PySem PySem.Spec PyProof.Rows L2
open Evl (Ex)

/-! ### classes by name -/
inductive CN where
  | own (x : Str)
  | ty (n : String)
deriving DecidableEq
def CN.val (K : PySem.W.Frag) : CN → Value
  | .own x => .ref (He.ga K x)
  | .ty n => .type n
def CN.v (K : PySem.W.Frag) : CN → V
  | .own x => .ref (He.ga K x)
  | .ty n => .ty n
theorem CN.rel {K : PySem.W.Frag} {C : CN} {u : Value} (r : RelV (C.v K) u) : u = C.val K := by
  cases C with
  | own x => exact r
  | ty n => exact r
theorem CN.rel' {K : PySem.W.Frag} (C : CN) : RelV (C.v K) (C.val K) := by
  cases C with
  | own x => rfl
  | ty n => rfl
/-- each raised class with its ancestors -/
abbrev XTab := List (Str × List CN)
def hasX (t : XTab) (x : Str) : Bool := (t.lookup x).isSome
def isSub (t : XTab) (x : Str) (C : CN) : Bool := match t.lookup x with
  | some l => decide (C ∈ l)
  | none => false
def isSubs (t : XTab) (x : Str) (Cs : List CN) : Bool := Cs.any (isSub t x)
/-- what the written part says of them -/
structure XT (K : PySem.W.Frag) (t : XTab) (Cs Es : List CN) : Prop where
  ec : ∀ x, hasX t x = true → ExcC K (He.ga K x)
  one : ∀ x, hasX t x = true → ∀ C ∈ Cs, PySem.W.kitOne K (.ref (He.ga K x)) (C.val K) = some (isSub t x C)
  exm : ∀ x, hasX t x = true → ∀ C ∈ Es, PySem.W.exmOne K (.ref (He.ga K x)) (C.val K) = some (isSub t x C)
def ecB (K : PySem.W.Frag) (D : Addr) : Bool :=
  (decide (PySem.W.findIn K (.ref D) "__getattribute__" = some (some (.builtin "BaseException.__getattribute__"))) && (decide (PySem.W.findIn K (.ref D) "__getattr__" = some none) && decide (PySem.W.subIn K (.ref D) (.type "BaseException") = some true))) &&
  ((PySem.W.hasDictIn K D && decide (PySem.W.findIn K (.ref D) "__class__" = some (some (.builtin "object.__class__")))) &&
   (decide (PySem.W.specialIn K (.builtin "object.__class__") "__get__" = some (some (.builtin "getset_descriptor.__get__"))) && (decide (PySem.W.takesIn K (.builtin "object.__class__") = some true) && decide (PySem.W.mroIn K D (.type "object") = some true))))
theorem ecB_ok {K : PySem.W.Frag} {D : Addr} (h : ecB K D = true) : ExcC K D := by
  unfold ecB at h
  simp only [Bool.and_eq_true, decide_eq_true_eq] at h
  obtain ⟨⟨h1, h2, h3⟩, ⟨h4, h5⟩, h6, h7, h8⟩ := h
  exact ⟨h1, h2, h3, h4, h5, h6, h7, h8⟩
def xtB (t : XTab) (Cs Es : List CN) (K : PySem.W.Frag) : Bool := t.all fun p => ecB K (He.ga K p.1) && ((Cs.all fun C => decide (PySem.W.kitOne K (.ref (He.ga K p.1)) (C.val K) = some (isSub t p.1 C))) && Es.all fun C => decide (PySem.W.exmOne K (.ref (He.ga K p.1)) (C.val K) = some (isSub t p.1 C)))
theorem hasX_mem {t : XTab} {x : Str} (h : hasX t x = true) : ∃ l, (x, l) ∈ t := by
  unfold hasX at h
  obtain ⟨l, e⟩ := Option.isSome_iff_exists.mp h
  exact ⟨l, PySem.mem_of_lookup e⟩
theorem xtB_ok {t : XTab} {Cs Es : List CN} {K : PySem.W.Frag} (h : xtB t Cs Es K = true) : XT K t Cs Es := by
  have all : ∀ x, hasX t x = true → ecB K (He.ga K x) = true ∧ ((Cs.all fun C => decide (PySem.W.kitOne K (.ref (He.ga K x)) (C.val K) = some (isSub t x C))) && Es.all fun C => decide (PySem.W.exmOne K (.ref (He.ga K x)) (C.val K) = some (isSub t x C))) = true := fun x hx => by
    obtain ⟨l, m⟩ := hasX_mem hx
    exact He.ba (List.all_eq_true.mp h (x, l) m)
  refine ⟨fun x hx => ecB_ok (all x hx).1, fun x hx C m => ?_, fun x hx C m => ?_⟩
  · exact of_decide_eq_true (List.all_eq_true.mp (He.ba (all x hx).2).1 C m)
  · exact of_decide_eq_true (List.all_eq_true.mp (He.ba (all x hx).2).2 C m)
theorem kitAny_of {K : PySem.W.Frag} {t : XTab} {Cs Es : List CN} (T : XT K t Cs Es) {x : Str} (hx : hasX t x = true) : ∀ {As : List CN}, (∀ C ∈ As, C ∈ Cs) → PySem.W.kitAny K (.ref (He.ga K x)) (As.map (CN.val K)) = some (isSubs t x As)
  | [], _ => rfl
  | C :: As, h => by
    have e1 := T.one x hx C (h C List.mem_cons_self)
    have e2 := kitAny_of T hx (As := As) fun D m => h D (List.mem_cons_of_mem _ m)
    show (match PySem.W.kitOne K (.ref (He.ga K x)) (C.val K) with
      | some true => some true
      | some false => PySem.W.kitAny K (.ref (He.ga K x)) (As.map (CN.val K))
      | none => none) = some (isSub t x C || isSubs t x As)
    rw [e1, e2]
    cases isSub t x C <;> rfl

/-! ### isinstance of it -/
def XdOk (H : Hp) : Option Addr → Prop
  | none => True
  | some p => ∃ fs, H p = some (.xd fs)
section
variable {X : Cx} {pins : List (Addr × Obj)} {σ : L2.St} {H : Hp} {s : Shared} {a D : Addr} {oe : Obj} {dd : Option Addr}
theorem inst_of (I : Inv X pins σ H s) (hp : (a, oe) ∈ X.pn) (hz : Zc (.ref D) dd oe) (hf : ∃ vs, oe.data = .fields vs) (hd : XdOk H dd) : ∃ od, PySem.W.InstAt s.heap a oe D od := by
  obtain ⟨ha, _⟩ := I.pin (a, oe) (List.mem_append_left _ hp)
  obtain ⟨vs, hv⟩ := hf
  have nc : PySem.W.notCls oe = true := by
    unfold PySem.W.notCls
    rw [hv] <;> rfl
  cases dd with
  | none => exact ⟨none, ha, hz.1, nc, by rw [hz.2]; trivial⟩
  | some p =>
    obtain ⟨fs, hH⟩ := hd
    obtain ⟨u, hu⟩ := objOk_get (I.hok p _ hH)
    exact ⟨some u, ha, hz.1, nc, by rw [hz.2]; exact hu⟩
theorem kit_exc (C : ExcC X.K D) {od : Option Obj} : PySem.W.KitX X.K (.ref a) (.ref D) (fun h => PySem.W.InstAt h a oe D od) := by
  obtain ⟨cd, hc, _⟩ := PySem.W.any_some C.hd
  exact PySem.W.kitx_exc (by rw [hc] <;> rfl) C.hg C.hk C.hs C.ha C.hn C.ht C.hm
def rIs1 (K : PySem.W.Frag) (D a : Addr) (dd : Option Addr) : List V → Hp → VK → Prop := fun xs H Q => ∃ (C : CN) (b : Bool), xs = [.ref a, C.v K] ∧ XdOk H dd ∧ PySem.W.kitOne K (.ref D) (C.val K) = some b ∧ Q (.bl b) H
def rIsN (K : PySem.W.Frag) (D a : Addr) (dd : Option Addr) : List V → Hp → VK → Prop := fun xs H Q =>
  ∃ (tp : Addr) (Cs : List CN) (b : Bool), xs = [.ref a, .ref tp] ∧ H tp = some (.tup (Cs.map (CN.v K))) ∧ XdOk H dd ∧ PySem.W.kitAny K (.ref D) (Cs.map (CN.val K)) = some b ∧ Q (.bl b) H
theorem call_is1 (hp : (a, oe) ∈ X.pn) (C : ExcC X.K D) (hz : Zc (.ref D) dd oe) (hf : ∃ vs, oe.data = .fields vs) : CallR X (.builtin "isinstance") (rIs1 X.K D a dd) := by
  intro pins s σ H xs us Q I r h
  obtain ⟨A, b, rfl, hd, e, q⟩ := h
  obtain ⟨u1, u2, rfl, r1, r2⟩ := vals2 r
  cases (show u1 = Value.ref a from r1)
  cases (CN.rel r2)
  obtain ⟨od, J⟩ := inst_of I hp hz hf hd
  exact PySem.W.kia_one (kit_exc C) I.kIn J e (fun z => nomatch z) fun tk => ⟨.bl b, H, I.tok tk, rfl, q⟩
theorem cn_all {K : PySem.W.Frag} : ∀ {Cs : List CN} {us : List Value}, Vals (Cs.map (CN.v K)) us → us = Cs.map (CN.val K)
  | [], [], _ => rfl
  | C :: Cs, u :: us, h => by
    cases h with
    | cons r rr =>
      rw [CN.rel r, cn_all rr] <;> rfl
theorem call_isN (hp : (a, oe) ∈ X.pn) (C : ExcC X.K D) (hz : Zc (.ref D) dd oe) (hf : ∃ vs, oe.data = .fields vs) : CallR X (.builtin "isinstance") (rIsN X.K D a dd) := by
  intro pins s σ H xs us Q I r h
  obtain ⟨tp, As, b, rfl, hT, hd, e, q⟩ := h
  obtain ⟨u1, u2, rfl, r1, r2⟩ := vals2 r
  cases (show u1 = Value.ref a from r1)
  cases (show u2 = Value.ref tp from r2)
  obtain ⟨od, J⟩ := inst_of I hp hz hf hd
  obtain ⟨_, its, rv, ⟨oc, odd, dt, sl⟩, h1, h2, n, h3⟩ := (show ObjOk X.prog X.w H s.heap tp (.tup (As.map (CN.v X.K))) from I.hok tp _ hT)
  have e3 := cn_all rv
  subst e3
  cases h2
  cases h3
  exact PySem.W.kia_tup (kit_exc C) I.kIn J h1 e (fun z => nomatch z) fun tk => ⟨.bl b, H, I.tok tk, rfl, q⟩
end

/-! ### in a suite -/
/-- the exception x stands at c.exa, out of reach of what is tracked -/
def HX (X : Cx) (c : Ctx) (x : Exn) : Prop := ∃ (oe : Obj) (cls : Value) (dd : Option Addr), (c.exa, oe) ∈ X.pn ∧ Zc cls dd oe ∧ (∃ vs, oe.data = .fields vs) ∧ RX X.K c.B0 x cls dd
/-- what a read of the exception's slot leads to -/
def eX (i : Nat) (r : Option D) : M D := fun e => match e[i]? with
  | some (some (.al _)) => mopt r e
  | _ => .no
theorem eX_some {i : Nat} {r : Option D} {K : PySem.W.Frag} {c : Ctx} {T : List (Addr × HO)} {W : WX} {σ : L2.St} {B H : Hp} {e : Env} {k : D → Env → Hp → Hp → Prop} (st : StOk K c T B H σ e) (m : Pst K c T W σ B (eX i r e) k) :
    σ[i]? = some (some (.ref c.exa)) ∧ ∃ d, r = some d ∧ ∀ B' H', Ex B B' → k d e B' H' := by
  unfold eX at m
  cases he : e[i]? with
  | none =>
    rw [he] at m
    exact m.elim
  | some o => cases o with
    | none =>
      rw [he] at m
      exact m.elim
    | some d =>
      rw [he] at m
      cases d with
      | al j =>
        obtain ⟨fp, h1, _⟩ := st.slots
        obtain ⟨v, hv, _, cd⟩ := h1 i _ he
        rw [cd.2] at hv
        refine ⟨hv, ?_⟩
        cases r with
        | none => exact m.elim
        | some d => exact ⟨d, rfl, m⟩
      | _ => exact m.elim
theorem xd_of {K : PySem.W.Frag} {B H : Hp} {x : Exn} {cls : Value} {dd : Option Addr} (h : RX K B x cls dd) (e : Ex B H) : XdOk H dd := by
  rcases h.2 with ⟨_, rfl⟩ | ⟨p, fs, rfl, h1, _⟩
  · trivial
  · exact ⟨fs, e _ _ h1⟩
/-- the name y is the class C -/
def CNok (X : Cx) (y : Str) (C : CN) : Prop := (y == ("__debug__" : Str)) = false ∧ Gl X y ∧ match C with
  | .own x => X.mg y = some (.ref (He.ga X.K x))
  | .ty n => X.mg y = none ∧ bootBuiltins y = some (.type n) ∧ y ≠ "__name__"
theorem cn_own {X : Cx} {x : Str} (hm : X.mg x = some (.ref (He.ga X.K x))) (hg : Gl X x := by rfl) (hd : (x == ("__debug__" : Str)) = false := by decide) : CNok X x (.own x) := ⟨hd, hg, hm⟩
theorem cn_ty {X : Cx} {y : Str} {n : String} (hm : X.mg y = none) (hg : Gl X y := by rfl) (hv : bootBuiltins y = some (.type n) := by decide +kernel) (hn : y ≠ "__name__" := by decide) (hd : (y == ("__debug__" : Str)) = false := by decide) : CNok X y (.ty n) := ⟨hd, hg, hm, hv, hn⟩
inductive CNs (X : Cx) (Cs : List CN) : List Expr → List CN → Prop
  | nil : CNs X Cs [] []
  | cons {y : Str} {p : Pos} {C : CN} {es : List Expr} {As : List CN} (h : CNok X y C) (m : C ∈ Cs) (r : CNs X Cs es As) : CNs X Cs (.Name y p :: es) (C :: As)
section
variable {X : Cx} {c : Ctx} {W : WX}
theorem pe_cn {y : Str} {p : Pos} {C : CN} (h : CNok X y C) : PE X (.Name y p) (tC (C.v X.K)) := by
  obtain ⟨hd, hg, h⟩ := h
  cases C with
  | own x => exact pe_glob hg h rfl hd
  | ty n => exact pe_bltn hg h.1 h.2.1 rfl h.2.2 hd
theorem pa_cns {Cs : List CN} : ∀ {es : List Expr} {As : List CN}, CNs X Cs es As → PA X es (fun _ H Q => Q (As.map (CN.v X.K)) H)
  | _, _, .nil => PA_of pa_nil fun _ _ _ q => q
  | _, _, .cons h m r => PA_of (pa_cons (pe_cn h) (pa_cns r)) fun _ _ _ q => q
theorem CNs.mem {Cs : List CN} : ∀ {es : List Expr} {As : List CN}, CNs X Cs es As → ∀ C ∈ As, C ∈ Cs
  | _, _, .nil, _, m => nomatch m
  | _, _, .cons h m r, C, z => by
    rcases List.mem_cons.mp z with rfl | z
    · exact m
    · exact CNs.mem r C z
variable {t : XTab} {Cs Es As : List CN} {x : Exn} {n y : Str} {p p1 p2 pos : Pos} {i : Nat} {C : CN} {es : List Expr} {x1 : Nat}
theorem de_is1 (T : XT X.K t Cs Es) (h : HX X c x) (hx : hasX t x.cls = true) (he : PE X (.Name n p1) (tVar i)) (hc : CNok X y C) (hC : C ∈ Cs) (hg : Gl X "isinstance") (hm : X.mg "isinstance" = none) :
    PE X (.Call (.Name "isinstance" p) [.Name n p1, .Name y p2] [] pos) (lift X.K c W (eX i (some (.bl (isSub t x.cls C))))) := by
  obtain ⟨oe, cls, dd, hp, hz, hf, rx⟩ := h
  cases rx.1
  refine PE_of (pe_callB (call_is1 hp (T.ec _ hx) hz hf) hg hm (by decide +kernel) (pa_cons he (pa_cons (pe_cn hc) pa_nil))) fun σ H Q q => ?_
  obtain ⟨TT, B, e, st, m⟩ := q
  obtain ⟨hv, d, hd, m⟩ := eX_some st m
  cases hd
  exact ⟨_, hv, C, _, rfl, xd_of rx (fun b o z => st.bh _ _ (st.b0 _ _ z)), T.one _ hx C hC, m B H (Evl.Ex.refl B) st _ (.bl _)⟩
theorem de_isN (T : XT X.K t Cs Es) (h : HX X c x) (hx : hasX t x.cls = true) (he : PE X (.Name n p1) (tVar i)) (hc : CNs X Cs es As) (hl : As.length ≤ sizeLine) (hg : Gl X "isinstance") (hm : X.mg "isinstance" = none) :
    PE X (.Call (.Name "isinstance" p) [.Name n p1, .Tuple es x1 p2] [] pos) (lift X.K c W (eX i (some (.bl (isSubs t x.cls As))))) := by
  obtain ⟨oe, cls, dd, hp, hz, hf, rx⟩ := h
  cases rx.1
  refine PE_of (pe_callB (call_isN hp (T.ec _ hx) hz hf) hg hm (by decide +kernel) (pa_cons he (pa_cons (pe_tup (pa_cns hc)) pa_nil))) fun σ H Q q => ?_
  obtain ⟨TT, B, e, st, m⟩ := q
  obtain ⟨hv, d, hd, m⟩ := eX_some st m
  cases hd
  refine ⟨_, hv, by rw [List.length_map]; exact hl, fun tp hT => ?_⟩
  have g := Grow.new st.bh (HO.tup (As.map (CN.v X.K))) hT
  exact ⟨tp, As, _, rfl, upd_same, xd_of rx (fun b o z => g.bh _ _ (g.b _ _ (st.b0 _ _ z))), kitAny_of T hx hc.mem, m _ _ g.b (st.grow g) _ (.bl _)⟩
end
end DL
end

section
set_option maxRecDepth 100000
set_option maxHeartbeats 2000000
/-! a def that takes the caught exception, called in a suite; try -/
namespace DL
open PySem PySem.Spec PyProof.Rows L2
open Evl (Ex)

/-! ### f(e) in a suite -/
def resE : Rs D → Option D
  | .ok d _ => some d
  | _ => none
theorem StOk.called {K : PySem.W.Frag} {c : Ctx} {T : List (Addr × HO)} {B H B' H' : Hp} {σ : L2.St} {e : Env} (s : StOk K c T B H σ e) (af : After B H (fun _ => False) B' H') : StOk K c T B' H' σ e where
  len := s.len
  slots := by
    obtain ⟨fp, h1, h2, h3, h4, h5⟩ := s.slots
    refine ⟨fp, fun i d hd => ?_, h2, h3, h4, h5⟩
    obtain ⟨v, hv, ow, cd⟩ := h1 i d hd
    exact ⟨v, hv, ow.mono af.b (fun a m => af.old a (ow.free a m).2 (ow.free a m).1) (fun a _ o q => af.keep a o (fun z => z) q), cd⟩
  tmp := fun q m => by
    obtain ⟨t1, t2, t3⟩ := s.tmp q m
    exact ⟨t1, af.keep _ _ (fun z => z) t2, af.old _ (by rw [t2]; exact fun z => (nomatch z)) t3⟩
  tnd := s.tnd
  bh := af.bh
  b0 := s.b0.trans af.b
  keep := fun a o nl h => af.keep a o (fun z => z) (s.keep a o nl h)
  there := fun a n => af.there a (s.there a n)
  old := fun a n z => af.old a (s.there a n) (s.old a n z)
/-- the def at f tells r x of the exception x that is handled -/
def FnE1 (P : Program) (w : World) (K : PySem.W.Frag) (mg : Str → Option Value) (base : Heap) (k : Nat) (f : Addr) (fd : FuncData) (ps : List Str) (F : Exn → Rs D) : Prop :=
  ∀ (A : Around) (outer : List PySem.Env) (s : Shared) (H B : Hp) (args : Args) (x : Exn) (a : Addr) (oe : Obj) (cls : Value) (dd : Option Addr) (Q : VK) (d : D), L2H.RoomH k A → L2H.PinOk outer H s (a, oe) → Zc cls dd oe → (∃ vs, oe.data = .fields vs) → RX K B x cls dd → Ex B H →
    Env0 P w K mg base A outer s H → BindsTo s fd args (ps.zip [.ref a]) → resE (F x) = some d → (∀ v B' H', After B H (fun _ => False) B' H' → Sh K B' d v → Q v H') →
    codeAny (model P w) A (.call (.ref f) args) (CR (L2.CX P w) outer P w H s Q fun _ _ _ => False) s
def runE (N : Nat) (g : Exn → M Fl) (x : Exn) : Rs D := endF [] (g x (some (.al 0) :: List.replicate (N - 1) none))
theorem start_E {K : PySem.W.Frag} {B H : Hp} {a : Addr} {N : List Str} (bh : Ex B H) (hN : 1 ≤ N.length) :
    StOk K { vs := [.ref a], B0 := B, H0 := H, fp0 := fun _ => [], exa := a } [] B H (L2.start N [.ref a]) (some (.al 0) :: List.replicate (N.length - 1) none) where
  len := by simp [L2.start]
  slots := by
    refine ⟨fun _ => [], fun i d h => ?_, fun _ _ => rfl, fun _ => List.nodup_nil, fun _ _ _ _ m => (nomatch m), fun q m => (nomatch m)⟩
    cases i with
    | zero =>
      cases h
      exact ⟨.ref a, rfl, .exc 0 a, rfl, rfl⟩
    | succ i =>
      rw [List.getElem?_cons_succ, List.getElem?_replicate] at h
      split at h <;> cases h
  tmp := fun q m => nomatch m
  tnd := List.nodup_nil
  bh := bh
  b0 := Evl.Ex.refl B
  keep := fun a o _ h => h
  there := fun a h => h
  old := fun a _ h => h
section
variable {P : Program} {w : World} {K : PySem.W.Frag} {mg : Str → Option Value} {base : Heap}
theorem fn_E {x qual p : Str} {params : Arguments} {body : List Stmt} {scope : Scope} {dvs : List V} {kws : List (Str × V)} {f : Addr} {fd : FuncData} {N : List Str} {k : Nat} {g : Exn → M Fl} {ok : Exn → Bool} (F : FunD K x qual params body scope dvs kws f fd) (S : FnScope N [p] scope) (hN : 1 ≤ N.length)
    (hb : ∀ (cdv : Value) (A : Around) (outer : List PySem.Env) (s : Shared) (H : Hp) (E : XK) (q : Addr × Obj) (c : Ctx) (y : Exn), ok y = true → HX (L2H.cxH (L2.CX P w) P w K mg base N qual scope f cdv A outer s H E q) c y → L2H.RoomH k (L2H.cxH (L2.CX P w) P w K mg base N qual scope f cdv A outer s H E q).A →
      PSs (L2H.cxH (L2.CX P w) P w K mg base N qual scope f cdv A outer s H E q) body (liftS K c W0 (g y))) :
    FnE1 P w K mg base (k + 1) f fd [p] (fun y => if ok y = true then runE N.length g y else .no) := by
  intro A outer s H B args y a oe cls dd Q d hr hpin hz hf rx bh e0 hbd hres hq
  have hres : resE (if ok y = true then runE N.length g y else .no) = some d := hres
  have hy : ok y = true := by
    by_cases hy : ok y = true
    · exact hy
    · rw [if_neg hy] at hres
      cases hres
  rw [if_pos hy] at hres
  obtain ⟨oc, od, dV, kV, doc, pm, an, cdv, ct, osl, rfl, lk, hcd, _, _⟩ := F.ex
  have keep0 : ∀ b o, base.get? b = some o → s.heap.get? b = some o := fun b o e => (e0.bs b o e).1
  have KX := e0.mod.kin.keeps keep0
  refine codeAny_call_function (L2H.RoomH.depth hr) (KX _ _ lk) rfl S.co S.gen rfl (PySem.W.codeRec_of KX hcd) (hbd _ _ _ _ ?_)
  refine wpAny_newFunctionEnv_cells S.kind (fun z hz => ?_) fun env he s1 ic => ?_
  · obtain ⟨n, v⟩ := z
    exact (S.par n (List.of_mem_zip hz).1).elim .inl fun q => .inr ⟨q, PySem.W.cellsFrom_some _ _ _ (.inl q)⟩
  subst he
  refine ⟨(e0.mod.nolimit.keeps keep0).keeps ic.toInCall.keep, codeAny_func ?_⟩
  have rv : Vals [V.ref a] [Value.ref a] := .cons rfl .nil
  have I := L2H.inv_startH (CX := L2.CX P w) (cd := cdv) (E := fun _ _ _ => False) S hpin e0 rfl rv ic
  have hx : HX (L2H.cxH (L2.CX P w) P w K mg base N qual scope f cdv A outer s H (fun _ _ _ => False) (a, oe)) { vs := [.ref a], B0 := B, H0 := H, fp0 := fun _ => [], exa := a } y := ⟨oe, cls, dd, List.mem_cons_self, hz, hf, rx⟩
  have st := start_E (K := K) (N := N) (a := a) bh hN
  -- what the body leads to
  have post : SEnd K { vs := [.ref a], B0 := B, H0 := H, fp0 := fun _ => [], exa := a } W0 B { nx := fun _ H' => Q .non H', rt := Q } (g y (some (.al 0) :: List.replicate (N.length - 1) none)) := by
    have af : ∀ {σ' : L2.St} {B' H' : Hp} {e' : Env}, StOk K { vs := [.ref a], B0 := B, H0 := H, fp0 := fun _ => [], exa := a } [] B' H' σ' e' → After B H (fun _ => False) B' H' := fun t => ⟨t.b0, t.bh, fun b o _ z => t.keep b o (fun ⟨_, m⟩ => nomatch m) z, t.there, t.old⟩
    unfold runE at hres
    revert hres
    generalize g y (some (.al 0) :: List.replicate (N.length - 1) none) = r
    intro hres
    cases r with
    | no => cases hres
    | ex z e => cases hres
    | ok fl e => cases fl with
      | nx =>
        cases hres
        exact fun σ' B' H' x t => hq .non B' H' (af t) .non
      | rt d' =>
        cases hres
        exact fun v σ' B' H' x t sh => hq v B' H' (af t) sh
      | bk => cases hres
      | ct => cases hres
  have run := (hb cdv A outer s H (fun _ _ _ => False) (a, oe) _ y hy hx (hr.deeper _)).run [] s1 (L2.start N [.ref a]) H _ I ⟨B, _, st, post⟩
  refine wpAny_mono run (fun fl s' q => ?_) fun _ _ q => q
  cases fl with
  | ret u => exact q.elim fun v q => q.elim fun σ' q => q.elim fun H' q => ⟨v, H', q.1.os, q.1.bare, q.1.base, q.1.hok, q.2.1, q.2.2⟩
  | next => exact q.elim fun σ' q => q.elim fun H' q => ⟨V.non, H', q.1.os, q.1.bare, q.1.base, q.1.hok, rfl, q.2⟩
  | brk => exact (q.elim fun _ q => q.elim fun _ q => q.2).elim
  | cont => exact (q.elim fun _ q => q.elim fun _ q => q.2).elim
end
theorem huH {k : Nat} {A : Around} (r : L2H.RoomH k A) : A.units + 64 < cLine := by
  have := r.un
  omega
/-- the def x tells F of the handled exception -/
def FnE (P : Program) (w : World) (K : PySem.W.Frag) (mg : Str → Option Value) (base : Heap) (x : Str) (k : Nat) (F : Exn → Rs D) : Prop :=
  ∃ (f : Addr) (fd : FuncData) (ps : List Str), FnE1 P w K mg base k f fd ps F ∧ ps.length = 1 ∧ mg x = some (.ref f) ∧ PySem.W.keepIn K (.ref f) = true ∧ Binds K fd ps []
theorem de_hot {X : Cx} {c : Ctx} {W : WX} {k i : Nat} {x : Exn} {y n : Str} {p p1 pos : Pos} {F : Exn → Rs D} (Fe : FnE X.prog X.w X.K X.mg X.base y k F) (h : HX X c x) (R : L2H.RoomH k X.A) (hg : Gl X y) (he : PE X (.Name n p1) (tVar i)) (hdb : (y == ("__debug__" : Str)) = false := by decide) :
    PE X (.Call (.Name y p) [.Name n p1] [] pos) (lift X.K c W (eX i (resE (F x)))) := by
  obtain ⟨f, fd, ps, F1, F2, F3, F4, F5⟩ := Fe
  obtain ⟨oe, cls, dd, hp, hz, hf, rx⟩ := h
  have ha := pa_cons (X := X) he pa_nil
  refine ⟨fun pins s σ H Q I q => ?_⟩
  obtain ⟨T, B, e, st, m⟩ := q
  obtain ⟨hv, d, hd, m⟩ := eX_some st m
  refine wpAny_Call_Name_kw (ld_glob I hg F3 ?_ hdb)
  refine PySem.W.callWith_K (h₀ := X.base) I.ok.mod.kin F4 (thn (ha.run pos pins s σ H (fun vs H1 => vs = [.ref c.exa] ∧ H1 = H) I ⟨_, hv, rfl, rfl⟩) fun us s1 z => ⟨z.elim fun _ z => z.elim fun _ z => z.1.kIn, ?_⟩) rfl rfl
  obtain ⟨vs, H1, I1, r, rfl, rfl⟩ := z
  cases r with
  | cons r rr =>
    cases rr
    cases r
    have bnd := F5 s1 [.ref c.exa] I1.kIn (by rw [List.append_nil]; exact F2.symm)
    rw [List.append_nil] at bnd
    have pin := I1.pin _ (List.mem_append_left _ hp)
    have pk : L2H.PinOk X.stack H1 s1 (c.exa, oe) := ⟨pin.1, pin.2.1, fun hm => (List.mem_cons.mp (I1.stkSub c.exa hm)).elim pin.2.2.1 pin.2.2.2.1, pin.2.2.2.2⟩
    have run := F1 X.A X.stack s1 H1 B ⟨[.ref c.exa], []⟩ x c.exa oe cls dd Q d R pk hz hf ⟨rx.1, rx.2.imp (fun z => z) fun ⟨p, fs, a1, a2, a3, a4⟩ => ⟨p, fs, a1, st.b0 _ _ a2, a3, a4.mono st.b0⟩⟩ st.bh I1.env0 bnd hd
      fun v B' H' af sh => m B' H' af.b (st.called af) v (RT.of sh)
    refine wpAny_call (codeAny_mono run fun r s' hq => ?_)
    cases r with
    | error u => exact (hq.elim fun _ z => z.elim fun _ z => z.elim fun _ z => z.elim fun _ z => z.elim fun _ z => z.2.2.2.2.2.2.2).elim
    | ok fl => cases fl with
      | ret u => exact I1.after hq
      | next => exact hq.elim
      | brk => exact hq.elim
      | cont => exact hq.elim
end DL
end

section
set_option maxRecDepth 100000
set_option maxHeartbeats 2000000
/-! try: body, except C as e: .. -/
namespace DL
open PySem PySem.Spec PyProof.Rows L2
open Evl (Ex)
/-- no slot holds a caught exception -/
def noAl (e : Env) : Bool := e.all fun o => match o with
  | some (.al _) => false
  | _ => true
/-- a clause's name goes -/
def clr (i : Nat) (r : Rs Fl) : Rs Fl := match r with
  | .ok f e => if noAl (e.set i none) = true then .ok f (e.set i none) else .no
  | _ => .no
abbrev Cl := Nat × CN × (Exn → M Fl)
def hand (t : XTab) (x : Exn) : List Cl → M Fl
  | [], e => .ex x e
  | (i, C, su) :: r, e => if isSub t x.cls C = true then (if i < e.length ∧ noAl (e.set i none) = true then clr i (su x (e.set i (some (.al i)))) else .no) else hand t x r e
def sTry (t : XTab) (b : M Fl) (cl : List Cl) : M Fl := fun e => match b e with
  | .ex x e' => if hasX t x.cls = true then hand t x cl e' else .no
  | r => r
theorem noAl_at {e : Env} {i j : Nat} (h : noAl e = true) (q : e[i]? = some (some (.al j))) : False := by
  have := List.all_eq_true.mp h _ (List.mem_of_getElem? q)
  cases this
section
variable {K : PySem.W.Frag} {c : Ctx} {B H : Hp} {σ : L2.St} {e : Env}
/-- into a suite -/
theorem StOk.enter (s : StOk K c [] B H σ e) {i : Nat} {a : Addr} (hi : i < e.length) (hn : noAl (e.set i none) = true) : StOk K { c with B0 := B, exa := a } [] B H (σ.set i (some (.ref a))) (e.set i (some (.al i))) where
  len := by rw [List.length_set, List.length_set]; exact s.len
  slots := by
    obtain ⟨fp, h1, h2, h3, h4, h5⟩ := s.slots
    refine ⟨fun j => if j = i then [] else fp j, fun j u hu => ?_, fun j hu => ?_, fun j => ?_, fun j k b hjk mj mk => ?_, fun q m => nomatch m⟩
    · by_cases hj : j = i
      · subst hj
        cases set_self hu
        refine ⟨.ref a, List.getElem?_set_self (by rw [← s.len]; exact hi), ?_, rfl, rfl⟩
        dsimp only
        rw [if_pos rfl]
        exact .exc j a
      · rw [List.getElem?_set_ne (Ne.symm hj)] at hu
        obtain ⟨v, hv, ow, cd⟩ := h1 j u hu
        dsimp only
        rw [if_neg hj]
        refine ⟨v, by rw [List.getElem?_set_ne (Ne.symm hj)]; exact hv, ow, ?_⟩
        cases u with
        | al m => exact (noAl_at hn (by rw [List.getElem?_set_ne (Ne.symm hj)]; exact hu)).elim
        | _ => exact cd
    · dsimp only
      by_cases hj : j = i
      · rw [if_pos hj]
      · rw [if_neg hj]
        exact h2 j fun d z => hu d (by rw [List.getElem?_set_ne (Ne.symm hj)]; exact z)
    · dsimp only
      split
      · exact List.nodup_nil
      · exact h3 j
    · dsimp only at mj mk
      split at mj
      · cases mj
      · split at mk
        · cases mk
        · exact h4 j k b hjk mj mk
  tmp := fun q m => nomatch m
  tnd := List.nodup_nil
  bh := s.bh
  b0 := Evl.Ex.refl B
  keep := s.keep
  there := s.there
  old := fun a _ z => z
/-- out of it -/
theorem StOk.leave {B' H' : Hp} {σ' : L2.St} {e' : Env} {a : Addr} {i : Nat} (s0 : StOk K c [] B H σ e) (s : StOk K { c with B0 := B, exa := a } [] B' H' σ' e') (hn : noAl (e'.set i none) = true) : StOk K c [] B' H' (σ'.set i none) (e'.set i none) where
  len := by rw [List.length_set, List.length_set]; exact s.len
  slots := by
    obtain ⟨fp, h1, h2, h3, h4, h5⟩ := s.slots
    refine ⟨fun j => if j = i then [] else fp j, fun j u hu => ?_, fun j hu => ?_, fun j => ?_, fun j k b hjk mj mk => ?_, fun q m => nomatch m⟩
    · by_cases hj : j = i
      · subst hj
        cases set_self hu
      · have hu0 := hu
        rw [List.getElem?_set_ne (Ne.symm hj)] at hu
        obtain ⟨v, hv, ow, cd⟩ := h1 j u hu
        dsimp only
        rw [if_neg hj]
        refine ⟨v, by rw [List.getElem?_set_ne (Ne.symm hj)]; exact hv, ow, ?_⟩
        cases u with
        | al m => exact (noAl_at hn hu0).elim
        | _ => exact cd
    · dsimp only
      by_cases hj : j = i
      · rw [if_pos hj]
      · rw [if_neg hj]
        exact h2 j fun d z => hu d (by rw [List.getElem?_set_ne (Ne.symm hj)]; exact z)
    · dsimp only
      split
      · exact List.nodup_nil
      · exact h3 j
    · dsimp only at mj mk
      split at mj
      · cases mj
      · split at mk
        · cases mk
        · exact h4 j k b hjk mj mk
  tmp := fun q m => nomatch m
  tnd := List.nodup_nil
  bh := s.bh
  b0 := s0.b0.trans s.b0
  keep := s.keep
  there := s.there
  old := fun a n z => s.old a n (s0.old a n z)
end

/-! ### the clauses -/
inductive Hds (X : Cx) (k : Nat) (t : XTab) : List ExceptHandler → List Cl → Prop
  | nil : Hds X k t [] []
  | cons {y n : Str} {C : CN} {i : Nat} {b₁ : Stmt} {bs : List Stmt} {np hp : Pos} {su : Exn → M Fl} {hds : List ExceptHandler} {cl : List Cl} (hc : CNok X y C)
      (hX : ∀ x, hasX t x = true → PySem.W.exmOne X.K (.ref (He.ga X.K x)) (C.val X.K) = some (isSub t x C)) (hi : X.N[i]? = some n) (hl : X.env.kindOf n = some .local)
      (hsu : ∀ (c : Ctx) (a : Addr) (pn : List (Addr × Obj)) (x : Exn), hasX t x.cls = true → HX (X.suite a pn) c x → L2H.RoomH k (X.suite a pn).A → PSs (X.suite a pn) (b₁ :: bs) (liftS X.K c W0 (su x)))
      (r : Hds X k t hds cl) : Hds X k t (.ExceptHandler (some (.Name y np)) (some n) (b₁ :: bs) hp :: hds) ((i, C, su) :: cl)
theorem CNok.names {X : Cx} {y : Str} {C : CN} (h : CNok X y C) : Names X y (C.val X.K) := by
  obtain ⟨hd, hg, h⟩ := h
  cases C with
  | own x => exact ⟨hg, hd, .inl h⟩
  | ty n => exact ⟨hg, hd, .inr h⟩
section
variable {X : Cx} {c : Ctx} {W : WX} {k : Nat} {t : XTab}
/-- what is wished of an exception of the body -/
def wX (K : PySem.W.Frag) (c : Ctx) (W : WX) (t : XTab) (cl : List Cl) (Dn : Ends) : WX := fun cls dd σ H => ∃ x e B, StOk K c [] B H σ e ∧ RX K B x cls dd ∧ hasX t x.cls = true ∧ SEnd K c W B Dn (hand t x cl e)
/-- what the try does with it -/
def caught (X : Cx) (pins : List (Addr × Obj)) (Dn : Ends) (hds : List ExceptHandler) : Value → Shared → Prop := fun u s1 =>
  wpAny (model X.prog X.w) X.A (noteFrame u X.env) (fun _ s2 => wpAny (model X.prog X.w) X.A (setFlight u none) (fun _ s3 => wpAny (model X.prog X.w) X.A (handleBy u X.env hds) (SP X pins Dn) X.xe s3) X.xe s2) X.xe s1
/-- a suite's end, cleared, is the try's -/
theorem suite_end {K : PySem.W.Frag} {B H : Hp} {σ : L2.St} {e : Env} {Dn : Ends} {i : Nat} {a : Addr} {r : Rs Fl} (s0 : StOk K c [] B H σ e) (m : SEnd K c W B Dn (clr i r)) :
    SEnd K { c with B0 := B, exa := a } W0 B { nx := fun σ' H' => Dn.nx (σ'.set i none) H', rt := Dn.rt, bk := fun σ' H' => Dn.bk (σ'.set i none) H', ct := fun σ' H' => Dn.ct (σ'.set i none) H' } r := by
  cases r with
  | no => exact m
  | ex x e => exact m.elim
  | ok fl e1 =>
    have m : SEnd K c W B Dn (if noAl (e1.set i none) = true then .ok fl (e1.set i none) else .no) := m
    by_cases hn : noAl (e1.set i none) = true
    · rw [if_pos hn] at m
      cases fl with
      | rt d => exact fun v σ' B' H' x st sh => m v _ B' H' x (s0.leave st hn) sh
      | nx => exact fun σ' B' H' x st => m _ B' H' x (s0.leave st hn)
      | bk => exact fun σ' B' H' x st => m _ B' H' x (s0.leave st hn)
      | ct => exact fun σ' B' H' x st => m _ B' H' x (s0.leave st hn)
    · rw [if_neg hn] at m
      exact m.elim
theorem ds_try {body : List Stmt} {h₁ : ExceptHandler} {hds : List ExceptHandler} {bm : M Fl} {cl : List Cl} {pos : Pos} (b : Body X W k) (hN : X.N.Nodup) (hh : Hds X k t (h₁ :: hds) cl)
    (hb : ∀ (W' : WX) (pn : List (Addr × Obj)) (xe : Value → Shared → Prop), Body (X.tr pn xe) W' k → PSs (X.tr pn xe) body (liftS X.K c W' bm)) : PS X (.Try body (h₁ :: hds) [] [] pos) (liftS X.K c W (sTry t bm cl)) := by
  refine ⟨fun pins s σ H Dn I h => wpAny_Try_except ?_⟩
  have okX := I.ok
  have hfr : X.A.frames = some (X.env :: X.outer) := by
    rw [okX.frames, b.hs]
  have pre : liftS X.K c (wX X.K c W t cl Dn) bm Dn σ H := by
    obtain ⟨B, e, st, m⟩ := h
    refine ⟨B, e, st, ?_⟩
    revert m
    unfold sTry
    generalize bm e = r
    intro m
    cases r with
    | no => exact m
    | ok fl e1 => cases fl <;> exact m
    | ex x e1 =>
      have m : SEnd X.K c W B Dn (if hasX t x.cls = true then hand t x cl e1 else .no) := m
      by_cases hx : hasX t x.cls = true
      · rw [if_pos hx] at m
        exact fun cls dd σ' B' H' ex st' rx => ⟨x, e1, B', st', rx, hx, m.mono ex⟩
      · rw [if_neg hx] at m
        exact m.elim
  have main := (hb (wX X.K c W t cl Dn) (X.pn ++ pins) (caught X pins Dn (h₁ :: hds)) ⟨⟨fun u s' xx => ?tk, b.calm, b.room⟩, b.hs, b.hf, PassesOwn.looking⟩).run [] s σ H Dn (I.toTry _) pre
  case tk =>
    obtain ⟨a, G, sI, pins', σ1, H1, cls, dd, rfl, J0, nb, up, sky, na, os, ag, x, e, B, st, rx, hx, m⟩ := xx
    have J : Inv X pins σ1 H1 sI := J0.ofTry okX
    obtain ⟨rc, rf⟩ := rx
    subst rc
    have sky1 : Sky G (X.env :: X.outer) a (Zc (.ref (He.ga X.K x.cls)) dd) X.env.locals s'.heap := by
      rw [← b.hs]
      exact sky
    refine Sky.land Zc.steady hfr b.hf sky1 fun hA flA upA => ?_
    have JA : Inv X pins σ1 H1 { s' with heap := hA } := J.landed nb flA.1 (up.trans upA) os ag
    obtain ⟨oA, vsA, getA, zcA, datA⟩ := flA.there
    have nfr : a ∉ frs (X.env :: X.outer) := fun hm => by
      obtain ⟨_, o1, g1, hnf⟩ := flA.2.2.1.mem hm
      rw [getA] at g1
      cases g1
      exact hnf _ datA
    have nL : a ≠ X.env.locals := fun z => nfr (List.mem_filterMap.mpr ⟨X.env, List.mem_cons_self, by rw [b.hf, z]⟩)
    have nF : a ∉ X.fs := fun hm => (List.mem_filterMap.mp hm).elim fun en z => nfr (List.mem_filterMap.mpr ⟨en, List.mem_cons_of_mem _ z.1, z.2⟩)
    have SA := JA.suite getA datA na nL nF
    have go : ∀ {hs' : List ExceptHandler} {cl' : List Cl}, Hds X k t hs' cl' → SEnd X.K c W B Dn (hand t x cl' e) → wpAny (model X.prog X.w) X.A (handleBy (.ref a) X.env hs') (SP X pins Dn) X.xe { s' with heap := hA } := by
      intro hs' cl' hk
      induction hk with
      | nil =>
        intro m
        refine wpAny_handleBy_nil ?_
        obtain ⟨_, _, _, o1, w1, T1, _, _, g1, _, d1, f1, _⟩ := id flA
        unfold PySem.passOn
        refine wpAny_bind (wpAny_field g1 d1 f1 ?_)
        rw [if_neg (show ¬ ((Value.ref T1 == Value.none) = true) by simp)]
        have fin : wpAny (model X.prog X.w) X.A (setFlight (.ref a) X.env.frame) (fun _ s4 => wpAny (model X.prog X.w) X.A (throw (.ref a) : Sem Flow) (SP X pins Dn) X.xe s4) X.xe { s' with heap := hA } := by
          rw [b.hf]
          refine HandSPX.setFlight_upZ flA fun hB fB upB => wpAny_throw (b.tk _ _ ?_)
          exact ⟨a, G, sI, pins, σ1, H1, .ref (He.ga X.K x.cls), dd, rfl, J, nb, (up.trans upA).trans upB, .inr (.inr (by rw [b.hs]; exact fB)), na, os, ag, m _ _ _ _ _ (Evl.Ex.refl B) st ⟨rfl, rf⟩⟩
        first
          | exact wpAny_bind (wpAny_pure (wpAny_bind fin))
          | exact wpAny_bind fin
      | @cons y n C i b₁ bs np hp su hds' cl'' hc hX hi hl hsu r ih =>
        intro m
        refine wpAny_handleBy_cons (codeAny_handlers_test ?_) (fun z => nomatch z)
        have looksT : PySem.W.Looks (model X.prog X.w) hA (typeOf (.ref a)) (.ref (He.ga X.K x.cls)) := fun A Q E s1 kk q => wpAny_typeOf_ref (kk _ _ getA) (by rw [zcA.1]; exact q)
        have looksM := PySem.W.exm_one (M := model X.prog X.w) JA.kIn looksT (hX _ hx)
        have named : ∀ {Q E : Value → Shared → Prop}, Q (C.val X.K) { s' with heap := hA } → wpAny (model X.prog X.w) (X.A.mark (some (.ref a))) (eval (.Name y np) X.env) Q E { s' with heap := hA } := fun {Q E} q => by
          rcases hc.names with ⟨hg, hdb, hm | ⟨hm, hv, hnn⟩⟩
          · exact ld_glob (X := X.suite a ((a, oA) :: (X.pn ++ pins))) SA hg hm q hdb
          · exact ld_blt (X := X.suite a ((a, oA) :: (X.pn ++ pins))) SA hg hm hv q hnn hdb
        refine named (looksM.here ?_)
        have m : SEnd X.K c W B Dn (if isSub t x.cls C = true then (if i < e.length ∧ noAl (e.set i none) = true then clr i (su x (e.set i (some (.al i)))) else .no) else hand t x cl'' e) := m
        cases hq : isSub t x.cls C with
        | false =>
          rw [hq, if_neg Bool.false_ne_true] at m
          exact ih m
        | true =>
          rw [hq, if_pos rfl] at m
          by_cases hie : i < e.length ∧ noAl (e.set i none) = true
          · rw [if_pos hie] at m
            refine codeAny_handlers_suite_as ?_
            refine HandSPX.lands_againZ flA fun hB flB upB => ?_
            have JB : Inv X pins σ1 H1 { s' with heap := hB } := J.landed nb flB.1 ((up.trans upA).trans upB) os ag
            obtain ⟨oB, vsB, getB, zcB, datB⟩ := flB.there
            have SB := JB.suite getB datB na nL nF
            refine store_ok (X := X.suite a ((a, oB) :: (X.pn ++ pins))) (v := .ref a) SB hN hi (.inl hl) rfl (fun s5 S5 => ?_) (.inr hl)
            have hxx : HX (X.suite a ((a, oB) :: (X.pn ++ pins))) { c with B0 := B, exa := a } x := ⟨oB, _, dd, List.mem_cons_self, zcB, ⟨_, datB⟩, rfl, rf⟩
            have rm : L2H.RoomH k (X.suite a ((a, oB) :: (X.pn ++ pins))).A := ⟨b.room.dp, b.room.un⟩
            refine wpAny_mono ((hsu { c with B0 := B, exa := a } a _ x hx hxx rm).run [] s5 _ H1 _ S5 ⟨B, _, st.enter hie.1 hie.2, suite_end st m⟩) (fun f s6 hsp => ?_) (fun _ _ z => z.elim)
            have out : ∀ {σ6 : L2.St} {H6 : Hp} {Q : Shared → Prop}, Inv (X.suite a ((a, oB) :: (X.pn ++ pins))) [] σ6 H6 s6 → (∀ s7, Inv X pins (σ6.set i none) H6 s7 → Q s7) →
                wpAny (model X.prog X.w) X.A (do bindName X.env n .none; unbindBehindTheSuite X.env n hp) (fun _ s7 => Q s7) X.xe s6 := fun {σ6 H6 Q} S6 hq => gone_ok (S6.unsuite okX) hN hi hl hq
            cases f with
            | next => exact hsp.elim fun σ6 z => z.elim fun H6 z => out z.1 fun s7 J7 => ⟨_, _, J7, z.2⟩
            | brk => exact hsp.elim fun σ6 z => z.elim fun H6 z => out z.1 fun s7 J7 => ⟨_, _, J7, z.2⟩
            | cont => exact hsp.elim fun σ6 z => z.elim fun H6 z => out z.1 fun s7 J7 => ⟨_, _, J7, z.2⟩
            | ret u => exact hsp.elim fun v6 z => z.elim fun σ6 z => z.elim fun H6 z => out z.1 fun s7 J7 => ⟨_, _, _, J7, z.2.1, z.2.2⟩
          · rw [if_neg hie] at m
            exact m.elim
    exact go hh m
  refine wpAny_mono main (fun f s1 hsp => ?_) (fun e s1 he => he)
  cases f with
  | next => exact hsp.elim fun σ' z => z.elim fun H' z => wpAny_execs_nil ⟨σ', H', z.1.ofTry okX, z.2⟩
  | brk => exact hsp.elim fun σ' z => z.elim fun H' z => ⟨σ', H', z.1.ofTry okX, z.2⟩
  | cont => exact hsp.elim fun σ' z => z.elim fun H' z => ⟨σ', H', z.1.ofTry okX, z.2⟩
  | ret u => exact hsp.elim fun v z => z.elim fun σ' z => z.elim fun H' z => ⟨v, σ', H', z.1.ofTry okX, z.2.1, z.2.2⟩
end
end DL
end

section
set_option maxRecDepth 100000
set_option maxHeartbeats 2000000
/-! xs[::-1]; min; in; a field of the caught exception -/
namespace DL
open PySem L2
open Evl (Ex)
section
variable {X : Cx} {c : Ctx} {W : WX}
/-- xs[::-1], a new list -/
def eRevF (f : M D) : M (List D) := mbind f fun x => fun e => mopt ((lsq (rs e x)).map List.reverse) e
theorem Shs.reverse {K : PySem.W.Frag} {B : Hp} : ∀ {ds : List D} {vs : List V}, Shs K B ds vs → Shs K B ds.reverse vs.reverse
  | _, _, .nil => .nil
  | _, _, .cons h r => by
    rw [List.reverse_cons, List.reverse_cons]
    exact (Shs.reverse r).append (.cons h .nil)
theorem de_revF {a : Expr} {f : M D} {k : Nat} {p1 p2 p3 pos : Pos} (h : PE X a (lift X.K c W f)) : PE X (.Subscript a (.Slice none none (some (.UnaryOp .USub (.Constant (.int 1) k p1) p2)) p3) pos) (liftF X.K c W (eRevF f)) :=
  PE_of (pe_revL h) fun σ H Q q => by
    obtain ⟨T, B, e, st, m⟩ := q
    refine ⟨T, B, e, st, m.bind.imp fun x e1 B1 H1 x1 m1 st1 v rv => ?_⟩
    have m1 : Pst X.K c T W σ B1 (mopt ((lsq (rs e1 x)).map List.reverse) e1) _ := m1
    cases q : lsq (rs e1 x) with
    | none =>
      rw [q] at m1
      exact m1.elim
    | some xs =>
      rw [q] at m1
      obtain ⟨a, us, rfl, h1, r⟩ := lsq_ok st1.ex (rs_ok st1 rv) q
      exact ⟨a, us, rfl, h1, fun p hp => m1 B1 _ (Evl.Ex.refl _) p us.reverse (st1.fresh hp _) r.reverse⟩
end
section
variable {K : PySem.W.Frag}
/-- min of two ints, of a list of ints -/
def dMin2 : List D → Option D
  | [.int i, .int j] => some (.int (if j < i then j else i))
  | _ => none
theorem ok_min2 : CallD K (fun xs H Q => ∃ i j, xs = [.int i, .int j] ∧ Q (.int (if j < i then j else i)) H) dMin2 := by
  intro B H ds vs z Q e r ho k
  unfold dMin2 at ho
  split at ho
  · rename_i i j
    cases ho
    obtain ⟨v, v', rfl, h1, h2⟩ := rss2 r
    cases (show Sh K B (.int i) v from h1)
    cases (show Sh K B (.int j) v' from h2)
    exact ⟨i, j, rfl, k _ B H (Grow.refl e) (.int _)⟩
  · cases ho
def minI : List Int → Option Int
  | [] => none
  | a :: r => some (r.foldl (fun m n => if n < m then n else m) a)
theorem foldl_min : ∀ {r : List Int} {a : Int}, (r.foldl (fun m n => if n < m then n else m) a = a ∨ r.foldl (fun m n => if n < m then n else m) a ∈ r) ∧ r.foldl (fun m n => if n < m then n else m) a ≤ a ∧ ∀ x ∈ r, r.foldl (fun m n => if n < m then n else m) a ≤ x
  | [], a => ⟨.inl rfl, Int.le_refl a, fun x m => nomatch m⟩
  | b :: r, a => by
    rw [List.foldl_cons]
    obtain ⟨h1, h2, h3⟩ := foldl_min (r := r) (a := if b < a then b else a)
    have hle : (if b < a then b else a) ≤ a ∧ (if b < a then b else a) ≤ b := by
      split <;> omega
    refine ⟨?_, by omega, fun x m => ?_⟩
    · rcases h1 with h1 | h1
      · by_cases hb : b < a
        · rw [if_pos hb] at h1
          exact .inr (by rw [if_pos hb, h1]; exact List.mem_cons_self)
        · rw [if_neg hb] at h1
          exact .inl (by rw [if_neg hb, h1])
      · exact .inr (List.mem_cons_of_mem _ h1)
    · rcases List.mem_cons.mp m with e | m
      · rw [e]
        omega
      · exact h3 x m
def dMinL : List D → Option D
  | [d] => (lsq d).bind fun xs => (intsOf xs).bind fun ns => (minI ns).map .int
  | _ => none
theorem ok_minL : CallD K (rMin K) dMinL := by
  intro B H ds vs z Q e r ho k
  unfold dMinL at ho
  split at ho
  · rename_i d
    obtain ⟨v, rfl, h⟩ := rss1 r
    cases q : lsq d with
    | none =>
      rw [q] at ho
      cases ho
    | some xs =>
      rw [q] at ho
      have ho : ((intsOf xs).bind fun ns => (minI ns).map D.int) = some z := ho
      cases q2 : intsOf xs with
      | none =>
        rw [q2] at ho
        cases ho
      | some ns =>
        rw [q2] at ho
        have ho : (minI ns).map D.int = some z := ho
        obtain ⟨a, us, rfl, h1, h2⟩ := lsq_ok e h q
        rw [intsOf_ok h2 q2] at h1
        cases ns with
        | nil => cases ho
        | cons n r =>
          cases ho
          refine ⟨a, n :: r, rfl, h1, by simp, fun m hm hle => ?_⟩
          obtain ⟨f1, f2, f3⟩ := foldl_min (r := r) (a := n)
          have em : m = r.foldl (fun m n => if n < m then n else m) n := by
            apply Int.le_antisymm
            · rcases f1 with f1 | f1
              · rw [f1]
                exact hle n List.mem_cons_self
              · exact hle _ (List.mem_cons_of_mem _ f1)
            · rcases List.mem_cons.mp hm with e | hm
              · rw [e]
                exact f2
              · exact f3 m hm
          rw [em]
          exact k _ B H (Grow.refl e) (.int _)
  · cases ho
/-- a sign in a text; an int in a list or tuple of ints -/
def dInB (neg : Bool) (x y : D) : Option D := match x, y with
  | .str s, .str z => (match s.cps.toList with
    | [c] => some (.bl (if neg then !decide (c ∈ z.cps.toList) else decide (c ∈ z.cps.toList)))
    | _ => none)
  | .int i, .tup xs => (intsOf xs).map fun ns => .bl (if neg then !decide (i ∈ ns) else decide (i ∈ ns))
  | .int i, d => (lsq d).bind fun xs => (intsOf xs).map fun ns => .bl (if neg then !decide (i ∈ ns) else decide (i ∈ ns))
  | _, _ => none
theorem inV_ints {i : Int} : ∀ {ns : List Int}, inV (.int i) (ns.map V.int) = decide (i ∈ ns)
  | [] => by simp [inV]
  | n :: ns => by
    have ih := inV_ints (i := i) (ns := ns)
    unfold inV at ih ⊢
    rw [List.map_cons, List.any_cons, ih]
    show ((n == i) || decide (i ∈ ns)) = decide (i ∈ n :: ns)
    by_cases h : i = n
    · simp [h]
    · have : ¬ n = i := fun z => h z.symm
      simp [h, this]
theorem flat_ints {ns : List Int} : (ns.map V.int).all flatV = true := by
  induction ns with
  | nil => rfl
  | cons n ns ih => rw [List.map_cons, List.all_cons, ih]; rfl
end
def rInAll (K : PySem.W.Frag) (neg : Bool) : R2 := fun x y H Q => (∃ (s : Nat) (z : Str), x = .str ⟨#[s]⟩ ∧ y = .str z ∧ Q (.bl (if neg then !decide (s ∈ z.cps.toList) else decide (s ∈ z.cps.toList))) H) ∨ rIn K neg x y H Q
section
variable {X : Cx} {K : PySem.W.Frag}
theorem op_inAll : OpR X (compareOp .In) (rInAll X.K false) := op_in_sign.or op_in_seq
theorem op_notInAll : OpR X (compareOp .NotIn) (rInAll X.K true) := op_notIn_sign.or op_notIn_seq
theorem ok_inB {neg : Bool} : OpD K (rInAll K neg) (dInB neg) := by
  intro B H x y v u z Q e rx ry ho k
  unfold dInB at ho
  split at ho
  · rename_i s t
    cases (show Sh K B (.str s) v from rx)
    cases (show Sh K B (.str t) u from ry)
    split at ho
    · rename_i c hc
      cases ho
      refine .inl ⟨c, t, ?_, rfl, k _ B H (Grow.refl e) (.bl _)⟩
      obtain ⟨⟨l⟩⟩ := s
      have hc : l = [c] := hc
      rw [hc]
    · cases ho
  · rename_i i xs
    cases (show Sh K B (.int i) v from rx)
    cases q : intsOf xs with
    | none =>
      rw [q] at ho
      cases ho
    | some ns =>
      rw [q] at ho
      cases ho
      obtain ⟨a, us, rfl, h1, h2⟩ := tsq_ok e ry (show tsq (.tup xs) = some xs from rfl)
      rw [intsOf_ok h2 q] at h1
      refine .inr ⟨a, _, rfl, .inr h1, rfl, flat_ints, ?_⟩
      rw [inV_ints]
      exact k _ B H (Grow.refl e) (.bl _)
  · rename_i i _
    cases (show Sh K B (.int i) v from rx)
    cases q1 : lsq y with
    | none =>
      rw [q1] at ho
      cases ho
    | some xs =>
      rw [q1] at ho
      have ho : ((intsOf xs).map fun ns => D.bl (if neg then !decide (i ∈ ns) else decide (i ∈ ns))) = some z := ho
      cases q : intsOf xs with
      | none =>
        rw [q] at ho
        cases ho
      | some ns =>
        rw [q] at ho
        cases ho
        obtain ⟨a, us, rfl, h1, h2⟩ := lsq_ok e ry q1
        rw [intsOf_ok h2 q] at h1
        refine .inr ⟨a, _, rfl, .inl h1, rfl, flat_ints, ?_⟩
        rw [inV_ints]
        exact k _ B H (Grow.refl e) (.bl _)
  · cases ho
end
end DL
end

section
set_option maxRecDepth 100000
set_option maxHeartbeats 2000000
/-! lists of one's own inside a list of one's own; pop, extend -/
namespace DL
open PySem L2
open Evl (Ex)
section
variable {K : PySem.W.Frag} {c : Ctx} {B B' H H' : Hp} {σ : L2.St} {e : Env} {T : List (Addr × HO)}
/-- what a slot owns is taken out -/
theorem StOk.out (s : StOk K c T B H σ e) {i : Nat} {ds : List D} (he : e[i]? = some (some (.own ds))) :
    ∃ a vs G L, σ[i]? = some (some (.ref a)) ∧ H a = some (.lst vs) ∧ B a = none ∧ Ows K B H ds vs G ∧ (a :: G).Nodup ∧ L.map (·.1) = a :: G ∧ (∀ q ∈ L, H q.1 = some q.2) ∧ StOk K c (L ++ T) B H σ (e.set i none) := by
  obtain ⟨fp, h1, h2, h3, h4, h5⟩ := s.slots
  obtain ⟨v, hv, ow, cd⟩ := h1 i _ he
  have fr := ow.free
  have ow := ow.inv
  obtain ⟨a, vs, G, rfl, q2, q3, q4, q5⟩ := ow
  have nd : (a :: G).Nodup := q2 ▸ h3 i
  let L : List (Addr × HO) := (a :: G).map fun b => (b, (H b).getD (.lst []))
  have hL : L.map (·.1) = a :: G := by
    show ((a :: G).map fun b => (b, (H b).getD (.lst []))).map (·.1) = a :: G
    rw [List.map_map]
    exact List.map_id _
  have mL : ∀ q ∈ L, q.1 ∈ fp i := fun q m => by
    rw [q2, ← hL]
    exact List.mem_map.mpr ⟨q, m, rfl⟩
  have gL : ∀ q ∈ L, H q.1 = some q.2 := fun q m => by
    have z := (fr q.1 (mL q m)).2
    obtain ⟨b, mb, rfl⟩ := List.mem_map.mp m
    cases hb : H b with
    | none => exact absurd hb z
    | some o => rfl
  have t : StOk K c T B H σ (e.set i none) := s.drop i
  refine ⟨a, vs, G, L, hv, q3, q4, q5, nd, hL, gL, ?_⟩
  refine ⟨t.len, ⟨fun j => if j = i then [] else fp j, fun j u hu => ?_, fun j hn => ?_, fun j => ?_, fun j k b hjk hj hk => ?_, fun q m j hj => ?_⟩, fun q m => ?_, ?_, t.bh, t.b0, t.keep, t.there, t.old⟩
  · dsimp only
    have hj : j ≠ i := fun z => by
      subst z
      have := set_self hu
      cases this
    rw [List.getElem?_set_ne (Ne.symm hj)] at hu
    obtain ⟨w, hw, ow', cd'⟩ := h1 j u hu
    rw [if_neg hj]
    exact ⟨w, hw, ow', cd'⟩
  · by_cases hj : j = i
    · exact if_pos hj
    · show (if j = i then [] else fp j) = []
      rw [if_neg hj]
      exact h2 j fun u hu => hn u (by rw [List.getElem?_set_ne (Ne.symm hj)]; exact hu)
  · show (if j = i then [] else fp j).Nodup
    split
    · exact List.nodup_nil
    · exact h3 j
  · have hj : b ∈ (if j = i then [] else fp j) := hj
    have hk : b ∈ (if k = i then [] else fp k) := hk
    split at hj
    · cases hj
    · split at hk
      · cases hk
      · exact h4 j k b hjk hj hk
  · have hj : q.1 ∈ (if j = i then [] else fp j) := hj
    split at hj
    · cases hj
    · rename_i nj
      rcases List.mem_append.mp m with m | m
      · exact h4 i j q.1 (fun z => nj z.symm) (mL q m) hj
      · exact h5 q m j hj
  · rcases List.mem_append.mp m with m | m
    · exact ⟨cd q.1 (mL q m), gL q m, (fr q.1 (mL q m)).1⟩
    · exact s.tmp q m
  · rw [List.map_append, hL]
    refine List.nodup_append.mpr ⟨nd, s.tnd, fun x hx y hy z => ?_⟩
    obtain ⟨q, mq, rfl⟩ := List.mem_map.mp hy
    exact h5 q mq i (by rw [q2, ← z]; exact hx)
theorem StOk.tmp_on {T1 : List (Addr × HO)} (s : StOk K c (T1 ++ T) B H σ e) : ∀ a ∈ T1.map (·.1), H a ≠ none ∧ ∀ o, B a = some o → H a = some o := fun a m => by
  obtain ⟨r, mr, rfl⟩ := List.mem_map.mp m
  obtain ⟨z1, z2, z3⟩ := s.tmp r (List.mem_append_left _ mr)
  refine ⟨fun w => ?_, fun o w => ?_⟩
  · rw [z2] at w
    cases w
  · rw [z3] at w
    cases w
/-- .. and put back, as it is then -/
theorem StOk.into {T1 : List (Addr × HO)} (s : StOk K c (T1 ++ T) B H σ e) {σ' : L2.St} {i : Nat} {v : V} {ds : List D} {F : List Addr} (hi : i < e.length) (hn : ∀ d, e[i]? ≠ some (some d)) (hv : σ' = σ.set i (some v))
    (ow : Ow K B' H' (.own ds) v F) (nd : F.Nodup) (sub : ∀ a ∈ F, a ∈ T1.map (·.1)) (off : ∀ a, a ∉ T1.map (·.1) → H' a = H a ∧ B' a = B a)
    (on : ∀ a ∈ T1.map (·.1), H' a ≠ none ∧ ∀ o, B' a = some o → H' a = some o) : StOk K c T B' H' σ' (e.set i (some (.own ds))) ∧ Ex B B' := by
  subst hv
  obtain ⟨fp, h1, h2, h3, h4, h5⟩ := s.slots
  have t1 : ∀ a ∈ T1.map (·.1), c.H0 a = none ∧ H a ≠ none ∧ B a = none ∧ (∀ j, a ∉ fp j) ∧ ∀ q ∈ T, q.1 ≠ a := fun a m => by
    obtain ⟨q, mq, rfl⟩ := List.mem_map.mp m
    obtain ⟨z1, z2, z3⟩ := s.tmp q (List.mem_append_left _ mq)
    refine ⟨z1, (fun w => by rw [z2] at w; cases w), z3, h5 q (List.mem_append_left _ mq), fun r mr w => ?_⟩
    have nd2 := s.tnd
    rw [List.map_append] at nd2
    exact (List.nodup_append.mp nd2).2.2 q.1 m r.1 (List.mem_map.mpr ⟨r, mr, rfl⟩) w.symm
  have ex : Ex B B' := fun a o q => by
    by_cases m : a ∈ T1.map (·.1)
    · have z := (t1 a m).2.2.1
      rw [z] at q
      cases q
    · rw [(off a m).2]
      exact q
  have fi : fp i = [] := h2 i hn
  refine ⟨⟨by rw [List.length_set, List.length_set]; exact s.len, ⟨fun j => if j = i then F else fp j, fun j u hu => ?_, fun j hq => ?_, fun j => ?_, fun j k b hjk hj hk => ?_, fun q m j hj => ?_⟩, fun q m => ?_, ?_, ?_, s.b0.trans ex, fun a o nl h => ?_, fun a n => ?_, fun a n z => ?_⟩, ex⟩
  · dsimp only
    by_cases hj : j = i
    · subst hj
      rw [List.getElem?_set_self hi] at hu
      cases hu
      rw [if_pos rfl]
      refine ⟨v, List.getElem?_set_self (by rw [← s.len]; exact hi), ow, fun a m => (t1 a (sub a m)).1⟩
    · rw [if_neg hj]
      rw [List.getElem?_set_ne (Ne.symm hj)] at hu
      obtain ⟨w, hw, ow', cd'⟩ := h1 j u hu
      have nf : ∀ a ∈ fp j, a ∉ T1.map (·.1) := fun a m z => (t1 a z).2.2.2.1 j m
      exact ⟨w, by rw [List.getElem?_set_ne (Ne.symm hj)]; exact hw, ow'.mono ex (fun a m => (off a (nf a m)).2.trans (ow'.free a m).1) (fun a m o q => (off a (nf a m)).1.trans q), cd'⟩
  · by_cases hj : j = i
    · subst hj
      exact absurd (List.getElem?_set_self hi) (hq _)
    · show (if j = i then F else fp j) = []
      rw [if_neg hj]
      exact h2 j fun u hu => hq u (by rw [List.getElem?_set_ne (Ne.symm hj)]; exact hu)
  · show (if j = i then F else fp j).Nodup
    split
    · exact nd
    · exact h3 j
  · have hj : b ∈ (if j = i then F else fp j) := hj
    have hk : b ∈ (if k = i then F else fp k) := hk
    split at hj
    · split at hk
      · rename_i a1 a2
        exact hjk (a1.trans a2.symm)
      · exact (t1 b (sub b hj)).2.2.2.1 k hk
    · split at hk
      · exact (t1 b (sub b hk)).2.2.2.1 j hj
      · exact h4 j k b hjk hj hk
  · have hj : q.1 ∈ (if j = i then F else fp j) := hj
    split at hj
    · exact (t1 _ (sub _ hj)).2.2.2.2 q m rfl
    · exact h5 q (List.mem_append_right _ m) j hj
  · obtain ⟨z1, z2, z3⟩ := s.tmp q (List.mem_append_right _ m)
    have nf : q.1 ∉ T1.map (·.1) := fun z => (t1 _ z).2.2.2.2 q m rfl
    exact ⟨z1, (off _ nf).1.trans z2, (off _ nf).2.trans z3⟩
  · have z := s.tnd
    rw [List.map_append] at z
    exact (List.nodup_append.mp z).2.1
  · intro a o q
    by_cases m : a ∈ T1.map (·.1)
    · exact (on a m).2 o q
    · rw [(off a m).1]
      rw [(off a m).2] at q
      exact s.bh a o q
  · have nf : a ∉ T1.map (·.1) := fun z => by
      have w := (t1 a z).1
      rw [h] at w
      cases w
    rw [(off a nf).1]
    exact s.keep a o nl h
  · have nf : a ∉ T1.map (·.1) := fun z => n (t1 a z).1
    rw [(off a nf).1]
    exact s.there a n
  · have nf : a ∉ T1.map (·.1) := fun w => n (t1 a w).1
    rw [(off a nf).2]
    exact s.old a n z
/-- what is pinned by the way is let go -/
theorem StOk.less {T1 : List (Addr × HO)} (s : StOk K c (T1 ++ T) B H σ e) : StOk K c T B H σ e := by
  obtain ⟨fp, h1, h2, h3, h4, h5⟩ := s.slots
  refine ⟨s.len, ⟨fp, h1, h2, h3, h4, fun q m => h5 q (List.mem_append_right _ m)⟩, fun q m => s.tmp q (List.mem_append_right _ m), ?_, s.bh, s.b0, s.keep, s.there, s.old⟩
  have z := s.tnd
  rw [List.map_append] at z
  exact (List.nodup_append.mp z).2.1
theorem Ows.keep {ds : List D} {vs : List V} {F : List Addr} (h : Ows K B H ds vs F) (e : Ex B B') (k : ∀ a ∈ F, B' a = none ∧ H' a = H a) : Ows K B' H' ds vs F := h.mono e (fun a m => (k a m).1) fun a m o q => (k a m).2.trans q
theorem Ows.split : ∀ {ds : List D} {d : D} {vs : List V} {F : List Addr}, Ows K B H (ds ++ [d]) vs F → ∃ us u F1 F2, vs = us ++ [u] ∧ F = F1 ++ F2 ∧ Ows K B H ds us F1 ∧ Ow K B H d u F2
  | [], d, _, _, .cons h r q => by
    cases r
    exact ⟨[], _, [], _, rfl, by rw [q, List.append_nil]; rfl, .nil, h⟩
  | d0 :: ds, d, _, _, .cons h r q => by
    obtain ⟨us, u, F1, F2, rfl, rfl, r1, r2⟩ := Ows.split r
    exact ⟨_ :: us, u, _ ++ F1, F2, rfl, by rw [q, List.append_assoc], .cons h r1 rfl, r2⟩
/-- the n-th of them, a list of one's own, apart -/
theorem Ows.at_ : ∀ {ds : List D} {n : Nat} {ys : List D} {vs : List V} {F : List Addr}, Ows K B H ds vs F → ds[n]? = some (.own ys) → F.Nodup → ∃ q us F2, vs[n]? = some (.ref q) ∧ H q = some (.lst us) ∧ B q = none ∧ Ows K B H ys us F2 ∧ (q ∈ F ∧ ∀ a ∈ F2, a ∈ F) ∧
    ∀ B' H' d' F', Ex B B' → Ow K B' H' d' (.ref q) F' → F'.Nodup → (∀ a ∈ F', a ∈ q :: F2) → (∀ a ∈ F, a ∉ q :: F2 → B' a = none ∧ H' a = H a) → ∃ F3, Ows K B' H' (ds.set n d') vs F3 ∧ F3.Nodup ∧ ∀ a ∈ F3, a ∈ F
  | [], n, ys, _, _, .nil, e, _ => by simp at e
  | d :: ds, 0, ys, _, _, .cons (F := F) (G := G) h r q, e, nd => by
    have e : d = .own ys := by simpa using e
    subst e q
    have h := h.inv
    obtain ⟨a, us, F2, rfl, rfl, h2, h3, h4⟩ := h
    have nd2 := List.nodup_append.mp nd
    refine ⟨a, us, F2, rfl, h2, h3, h4, ⟨by simp, fun x m => by simp [m]⟩, fun B' H' d' F' ex ow nF sub off => ⟨F' ++ G, .cons ow (r.keep ex fun x m => off x (List.mem_append_right _ m) fun z => nd2.2.2 x z x m rfl) rfl, List.nodup_append.mpr ⟨nF, nd2.2.1, fun x mx y my => nd2.2.2 x (sub x mx) y my⟩, fun x m => ?_⟩⟩
    rcases List.mem_append.mp m with m | m
    · exact List.mem_append_left _ (sub x m)
    · exact List.mem_append_right _ m
  | d :: ds, n + 1, ys, _, _, .cons (F := F) (G := G) h r q, e, nd => by
    subst q
    have nd2 := List.nodup_append.mp nd
    obtain ⟨a, us, F2, h1, h2, h3, h4, ⟨h5, h6⟩, h7⟩ := Ows.at_ (n := n) r (by simpa using e) nd2.2.1
    refine ⟨a, us, F2, by simpa using h1, h2, h3, h4, ⟨List.mem_append_right _ h5, fun x m => List.mem_append_right _ (h6 x m)⟩, fun B' H' d' F' ex ow nF sub off => ?_⟩
    have nm : ∀ x ∈ F, x ∉ a :: F2 := fun x m z => by
      rcases List.mem_cons.mp z with w | w
      · exact nd2.2.2 x m a h5 w
      · exact nd2.2.2 x m x (h6 x w) rfl
    obtain ⟨F3, r3, n3, s3⟩ := h7 B' H' d' F' ex ow nF sub fun x m z => off x (List.mem_append_right _ m) z
    refine ⟨F ++ F3, .cons (h.mono ex (fun x m => (off x (List.mem_append_left _ m) (nm x m)).1) fun x m o q => (off x (List.mem_append_left _ m) (nm x m)).2.trans q) r3 rfl, List.nodup_append.mpr ⟨nd2.1, n3, fun x mx y my => nd2.2.2 x mx y (s3 y my)⟩, fun x m => ?_⟩
    rcases List.mem_append.mp m with m | m
    · exact List.mem_append_left _ m
    · exact List.mem_append_right _ (s3 x m)
end

section
variable {X : Cx} {c : Ctx} {W : WX}
theorem pe_neg1 {k : Nat} {n : Int} {p1 p2 : Pos} : PE X (.UnaryOp .USub (.Constant (.int n) k p1) p2) (tC (.int (-n))) := by
  exact PE_of (pe_un un_neg pe_int) fun σ H Q q => ⟨n, rfl, q⟩
/-- x = [[]] -/
def sNest (i : Nat) : M Fl := fun e => if i < e.length then .ok .nx (e.set i (some (.own [.own []]))) else .no
theorem ds_nest {i : Nat} {x : Str} {p1 p2 pos pos' : Pos} (hN : X.N.Nodup) (hi : X.N[i]? = some x) (hx : Loc X.env.scope x) (hs : swapsWith (.List [.List [] p1] p2) (some (.Name x pos')) pos.line X.env = pure false := by rfl)
    (hf : X.fn x = true ∨ X.env.scope.names.lookup x = some .local := by first | exact .inl rfl | exact .inr rfl | assumption) : PS X (.Assign [.Name x pos'] (.List [.List [] p1] p2) pos) (liftS X.K c W (sNest i)) :=
  PS_of (ps_set hN hi hx (pe_lst (pa_cons (pe_lst pa_nil) pa_nil)) hs hf) fun Dn σ H q => by
    obtain ⟨B, e, st, m⟩ := q
    have m : SEnd X.K c W B Dn (if i < e.length then _ else _) := m
    by_cases hl : i < e.length
    · rw [if_pos hl] at m
      refine ⟨by simp, fun p hp => ⟨by simp [sizeLine_eq], fun q hq => ?_⟩⟩
      have st2 := ((st.drop i).fresh hp (.lst [])).fresh hq (.lst [.ref p])
      have qp : p ≠ q := fun z => by
        rw [z, upd_same] at hq
        cases hq
      have hb : B p = none := none_ex st.bh hp
      have hb2 : B q = none := none_ex st.bh (by rw [upd_ne (Ne.symm qp)] at hq; exact hq)
      have ow : Ow X.K B (upd (upd H p (.lst [])) q (.lst [.ref p])) (.own [.own []]) (.ref q) [q, p] :=
        .own upd_same hb2 (.cons (.own (by rw [upd_ne qp]; exact upd_same) hb .nil) .nil rfl)
      have on := st2.tmp_on (T1 := [(q, .lst [.ref p]), (p, .lst [])]) (T := [])
      obtain ⟨st3, _⟩ := StOk.into (T1 := [(q, .lst [.ref p]), (p, .lst [])]) (T := []) (B' := B) (H' := upd (upd H p (.lst [])) q (.lst [.ref p])) st2 (i := i) (v := .ref q) (ds := [.own []]) (F := [q, p]) (by rw [List.length_set]; exact hl)
        (fun d z => by rw [List.getElem?_set_self hl] at z; cases z) rfl ow (by simp [Ne.symm qp]) (fun a m => by simpa using m) (fun a _ => ⟨rfl, rfl⟩) on
      rw [set_set] at st3
      exact m (σ.set i (some (.ref q))) B _ (Evl.Ex.refl B) st3
    · rw [if_neg hl] at m
      exact m.elim
/-- x.append([]) -/
def sAppN (i : Nat) : M Fl := fun e => match e[i]? with
  | some (some (.own ds)) => if ds.length < 1000000 then .ok .nx (e.set i (some (.own (ds ++ [.own []])))) else .no
  | _ => .no
theorem some_lt {α : Type} {l : List α} {i : Nat} {a : α} (h : l[i]? = some a) : i < l.length := (List.getElem?_eq_some_iff.mp h).1
theorem ds_appN {o : Expr} {i : Nat} {p1 apos cpos pos : Pos} (ho : PE X o (tVar i))
    (hs : swapsWith (.Call (.Attribute o "append" apos) [.List [] p1] [] cpos) none pos.line X.env = pure false := by rfl)
    (hbase : attributeBase o "append" X.env (eval o X.env) = eval o X.env := by rfl)
    (hfew : ((backTo cpos (starEach (.List [] p1 :: []) X.env)).all (fun x => !x.1) && (backToKw cpos (keywordEach [] X.env)).all (fun x => x.1.isSome)
      && decide ((Expr.List [] p1 :: []).length + ([] : List Keyword).length + (if ([] : List Keyword).isEmpty then 0 else 1) < 30)) = true := by rfl)
    (hline : (apos.endLine == cpos.line) = true := by rfl) (he : starEach (.List [] p1 :: []) X.env = (false, eval (.List [] p1) X.env) :: starEach [] X.env := by rfl) :
    PS X (.Expr (.Call (.Attribute o "append" apos) [.List [] p1] [] cpos) pos) (liftS X.K c W (sAppN i)) :=
  PS_of (ps_expr (pe_bm PySem.F.plainAttrs_list PySem.F.slot_list_append PySem.F.type_list_append mt_append ho (pa_cons (pe_lst pa_nil) pa_nil he) hbase hfew hline he) hs) fun Dn σ H q => by
    obtain ⟨B, e, st, m⟩ := q
    have m : SEnd X.K c W B Dn (sAppN i e) := m
    unfold sAppN at m
    split at m
    · rename_i ds hd
      by_cases hl : ds.length < 1000000
      · rw [if_pos hl] at m
        obtain ⟨a, vs, G, L, hv, h1, h2, h3, nd, hL, gL, st1⟩ := st.out hd
        refine ⟨.ref a, hv, .inl ⟨rfl, vs, SqL.of h1⟩, by simp, fun p hp => ?_⟩
        have hi : i < e.length := some_lt hd
        have pn : p ∉ a :: G := fun z => by
          rw [← hL] at z
          obtain ⟨r, mr, rfl⟩ := List.mem_map.mp z
          rw [gL r mr] at hp
          cases hp
        have pa : a ≠ p := fun z => pn (z ▸ List.mem_cons_self)
        have bp : B p = none := none_ex st.bh hp
        have st2 := st1.fresh hp (.lst [])
        have st2 : StOk X.K c (((p, .lst []) :: L) ++ []) B (upd H p (.lst [])) σ (e.set i none) := st2
        refine ⟨a, vs, .ref p, rfl, rfl, by rw [upd_ne pa]; exact h1, Nat.lt_of_lt_of_le (by rw [← h3.length]; exact hl) (line_ok (Nat.le_refl _)), ?_⟩
        have on := st2.tmp_on
        have gn : a ∉ G := (List.nodup_cons.mp nd).1
        have ow : Ow X.K B (upd (upd H p (.lst [])) a (.lst (vs ++ [.ref p]))) (.own (ds ++ [.own []])) (.ref a) (a :: (G ++ [p])) := by
          refine .own upd_same h2 (Ows.append (h3.keep (Evl.Ex.refl B) fun b mb => ⟨?_, ?_⟩) (.cons (.own (by rw [upd_ne (Ne.symm pa)]; exact upd_same) bp .nil) .nil rfl))
          · exact (h3.free b mb).1
          · rw [upd_ne (fun (z : b = a) => gn (z ▸ mb)), upd_ne (fun (z : b = p) => pn (z ▸ List.mem_cons_of_mem _ mb))]
        have g1 : (a :: (G ++ [p])).Nodup := by
          refine List.nodup_cons.mpr ⟨fun z => ?_, List.nodup_append.mpr ⟨(List.nodup_cons.mp nd).2, by simp, fun x mx y my z => ?_⟩⟩
          · rcases List.mem_append.mp z with z | z
            · exact gn z
            · exact pa (by simpa using z)
          · have : y = p := by simpa using my
            exact pn (by rw [← this, ← z]; exact List.mem_cons_of_mem _ mx)
        have g2 : ∀ x ∈ a :: (G ++ [p]), x ∈ ((p, HO.lst []) :: L).map (·.1) := by
          intro x mx
          rw [List.map_cons, hL]
          rcases List.mem_cons.mp mx with z | z
          · rw [z]
            exact List.mem_cons_of_mem _ List.mem_cons_self
          · rcases List.mem_append.mp z with z | z
            · exact List.mem_cons_of_mem _ (List.mem_cons_of_mem _ z)
            · rw [show x = p by simpa using z]
              exact List.mem_cons_self
        have g3 : ∀ x, x ∉ ((p, HO.lst []) :: L).map (·.1) → (upd (upd H p (.lst [])) a (.lst (vs ++ [.ref p]))) x = (upd H p (.lst [])) x ∧ B x = B x := by
          intro x nx
          rw [List.map_cons, hL] at nx
          exact ⟨upd_ne fun z => nx (by rw [z]; exact List.mem_cons_of_mem _ List.mem_cons_self), rfl⟩
        have g4 : ∀ x ∈ ((p, HO.lst []) :: L).map (·.1), (upd (upd H p (.lst [])) a (.lst (vs ++ [.ref p]))) x ≠ none ∧ ∀ o, B x = some o → (upd (upd H p (.lst [])) a (.lst (vs ++ [.ref p]))) x = some o := by
          intro x mx
          obtain ⟨o1, o2⟩ := on x mx
          by_cases hx : x = a
          · rw [hx, upd_same]
            exact ⟨fun z => (nomatch z), fun o z => by rw [h2] at z; cases z⟩
          · rw [upd_ne hx]
            exact ⟨o1, o2⟩
        obtain ⟨st3, _⟩ := StOk.into (T := []) st2 (i := i) (v := .ref a) (by rw [List.length_set]; exact hi)
          (fun d z => by rw [List.getElem?_set_self hi] at z; cases z) rfl ow g1 g2 g3 g4
        rw [set_set, set_same hv] at st3
        exact m σ B _ (Evl.Ex.refl B) st3
      · rw [if_neg hl] at m
        exact m.elim
    · exact m.elim
theorem Pst.goT {α : Type} {L : List (Addr × HO)} {σ : L2.St} {B : Hp} {r : Rs α} {f : α → M Fl} {Dn : Ends} (h : SEnd X.K c W B Dn (r.bind f)) : Pst X.K c (L ++ []) W σ B r (fun a e' B' _ => SEnd X.K c W B' Dn (f a e')) := by
  cases r with
  | ok a e => exact fun B' _ x => h.mono x
  | ex y e => exact fun cls dd B' H' x st => h cls dd σ B' H' x st.less
  | no => exact h
theorem StOk.pin {H B2 H2 : Hp} {σ : L2.St} {e2 : Env} {L T : List (Addr × HO)} {F : List Addr} (st2 : StOk X.K c (L ++ T) B2 H2 σ e2) (hL : L.map (·.1) = F) (gL : ∀ q ∈ L, H q.1 = some q.2) : ∀ a ∈ F, B2 a = none ∧ H2 a = H a := fun a m => by
  rw [← hL] at m
  obtain ⟨r, mr, rfl⟩ := List.mem_map.mp m
  obtain ⟨z1, z2, z3⟩ := st2.tmp r (List.mem_append_left _ mr)
  exact ⟨z3, z2.trans (gL r mr).symm⟩
/-- x[j].append(y), the item a list of one's own -/
def appR (ds : List D) (j : Int) (y : D) : Option (List D) := (ixN ds.length j).bind fun n => match ds[n]? with
  | some (.own ys) => if (ys.all isSh) = true ∧ isSh y = true ∧ ys.length < 1000000 then some (ds.set n (.own (ys ++ [y]))) else none
  | _ => none
def isRow (ds : List D) (j : Int) : Bool := match (ixN ds.length j).bind fun n => ds[n]? with
  | some (.own _) => true
  | _ => false
def sAppR (i : Nat) (j : Int) (fy : M D) : M Fl := fun e => match e[i]? with
  | some (some (.own ds)) => if isRow ds j = true then mbind fy (fun y e2 => match appR ds j y with
    | some ds' => .ok .nx (e2.set i (some (.own ds')))
    | none => .no) (e.set i none) else .no
  | _ => .no
theorem ds_appR {o b y : Expr} {fy : M D} {i : Nat} {j : Int} {spos apos cpos pos : Pos} (ho : PE X o (tVar i)) (hb : PE X b (tC (.int j))) (hy : PE X y (lift X.K c W fy)) (hp : PlainIx b := by exact fun _ _ => rfl)
    (hs : swapsWith (.Call (.Attribute (.Subscript o b spos) "append" apos) [y] [] cpos) none pos.line X.env = pure false := by rfl)
    (hbase : attributeBase (.Subscript o b spos) "append" X.env (eval (.Subscript o b spos) X.env) = eval (.Subscript o b spos) X.env := by rfl)
    (hfew : ((backTo cpos (starEach (y :: []) X.env)).all (fun x => !x.1) && (backToKw cpos (keywordEach [] X.env)).all (fun x => x.1.isSome)
      && decide ((y :: []).length + ([] : List Keyword).length + (if ([] : List Keyword).isEmpty then 0 else 1) < 30)) = true := by rfl)
    (hline : (apos.endLine == cpos.line) = true := by rfl) (he : starEach (y :: []) X.env = (false, eval y X.env) :: starEach [] X.env := by rfl) :
    PS X (.Expr (.Call (.Attribute (.Subscript o b spos) "append" apos) [y] [] cpos) pos) (liftS X.K c W (sAppR i j fy)) :=
  PS_of (ps_expr (pe_bm PySem.F.plainAttrs_list PySem.F.slot_list_append PySem.F.type_list_append mt_append (pe_ix ix_seq ho hb hp) (pa_cons hy pa_nil he) hbase hfew hline he) hs) fun Dn σ H q => by
    obtain ⟨B, e, st, m⟩ := q
    have m : SEnd X.K c W B Dn (sAppR i j fy e) := m
    unfold sAppR at m
    split at m
    · rename_i ds hd
      by_cases hr : isRow ds j = true
      · rw [if_pos hr] at m
        obtain ⟨a, vs, G, L, hv, h1, h2, h3, nd, hL, gL, st1⟩ := st.out hd
        have hi : i < e.length := some_lt hd
        have gn : a ∉ G := (List.nodup_cons.mp nd).1
        cases hx : ixN ds.length j with
        | none =>
          unfold isRow at hr
          rw [hx] at hr
          cases hr
        | some n =>
          have hr : (match ds[n]? with
            | some (.own _) => true
            | _ => false) = true := by
            unfold isRow at hr
            rw [hx] at hr
            exact hr
          split at hr
          · rename_i ys hn
            obtain ⟨p, us, F2, k1, k2, k3, k4, ⟨k5, k6⟩, k7⟩ := h3.at_ hn (List.nodup_cons.mp nd).2
            have ha : atI vs j = some (.ref p) := by
              unfold atI
              rw [← h3.length, hx]
              exact k1
            refine ⟨.ref a, hv, .inl ⟨a, vs, j, .ref p, rfl, rfl, SqL.of h1, ha, .inl ⟨rfl, us, SqL.of k2⟩, L ++ [], B, e.set i none, st1, (Pst.goT (σ := σ) m).imp fun y e2 B2 H2 x2 m2 st2 u ru => ?_⟩⟩
            have m2 : SEnd X.K c W B2 Dn (match appR ds j y with
              | some ds' => .ok .nx (e2.set i (some (.own ds')))
              | none => .no) := m2
            cases q : appR ds j y with
            | none =>
              rw [q] at m2
              exact m2.elim
            | some ds' =>
              rw [q] at m2
              unfold appR at q
              rw [hx] at q
              have q : (match ds[n]? with
                | some (.own ys) => if (ys.all isSh) = true ∧ isSh y = true ∧ ys.length < 1000000 then some (ds.set n (.own (ys ++ [y]))) else none
                | _ => none) = some ds' := q
              rw [hn] at q
              have q : (if (ys.all isSh) = true ∧ isSh y = true ∧ ys.length < 1000000 then some (ds.set n (.own (ys ++ [y]))) else none) = some ds' := q
              by_cases hc : (ys.all isSh) = true ∧ isSh y = true ∧ ys.length < 1000000
              · rw [if_pos hc] at q
                cases q
                have pin := st2.pin hL gL
                have e2 : F2 = [] := k4.nil_of hc.1
                subst e2
                have pa : p ≠ a := fun z => gn (z ▸ k5)
                refine ⟨p, us, u, rfl, rfl, (pin p (List.mem_cons_of_mem _ k5)).2.trans k2, Nat.lt_of_lt_of_le (by rw [← k4.length]; exact hc.2.2) (line_ok (Nat.le_refl _)), ?_⟩
                have ow1 : Ow X.K B2 (upd H2 p (.lst (us ++ [u]))) (.own (ys ++ [y])) (.ref p) [p] :=
                  .own upd_same (pin p (List.mem_cons_of_mem _ k5)).1 (((k4.shs hc.1).mono x2).append (.cons (ru.sh hc.2.1) .nil)).ows
                obtain ⟨F3, r3, n3, s3⟩ := k7 B2 (upd H2 p (.lst (us ++ [u]))) (.own (ys ++ [y])) [p] x2 ow1 (by simp) (fun x mx => mx) fun x mx nx =>
                  ⟨(pin x (List.mem_cons_of_mem _ mx)).1, (upd_ne fun z => nx (by rw [z]; exact List.mem_cons_self)).trans (pin x (List.mem_cons_of_mem _ mx)).2⟩
                have ow : Ow X.K B2 (upd H2 p (.lst (us ++ [u]))) (.own (ds.set n (.own (ys ++ [y])))) (.ref a) (a :: F3) :=
                  .own (by rw [upd_ne (Ne.symm pa)]; exact (pin a List.mem_cons_self).2.trans h1) (pin a List.mem_cons_self).1 r3
                have on := st2.tmp_on
                have g4 : ∀ x ∈ L.map (·.1), (upd H2 p (.lst (us ++ [u]))) x ≠ none ∧ ∀ o, B2 x = some o → (upd H2 p (.lst (us ++ [u]))) x = some o := by
                  intro x mx
                  obtain ⟨o1, o2⟩ := on x mx
                  by_cases hx : x = p
                  · rw [hx, upd_same]
                    exact ⟨fun z => (nomatch z), fun o z => by rw [(pin p (List.mem_cons_of_mem _ k5)).1] at z; cases z⟩
                  · rw [upd_ne hx]
                    exact ⟨o1, o2⟩
                have hi2 : i < (List.set e2 i none).length := by
                  rw [List.length_set, st2.len, ← st.len]
                  exact hi
                obtain ⟨st3, _⟩ := StOk.into (T := []) (st2.drop i) (i := i) (v := .ref a) hi2
                  (fun d z => by rw [List.getElem?_set_self (by rw [List.length_set] at hi2; exact hi2)] at z; cases z) rfl ow
                  (List.nodup_cons.mpr ⟨fun z => gn (s3 a z), n3⟩) (fun x mx => by
                    rw [hL]
                    rcases List.mem_cons.mp mx with z | z
                    · rw [z]
                      exact List.mem_cons_self
                    · exact List.mem_cons_of_mem _ (s3 x z)) (fun x nx => ⟨upd_ne fun z => nx (by rw [hL, z]; exact List.mem_cons_of_mem _ k5), rfl⟩) g4
                rw [set_set, set_same hv] at st3
                exact m2 σ B2 _ (Evl.Ex.refl B2) st3
              · rw [if_neg hc] at q
                cases q
          · cases hr
      · rw [if_neg hr] at m
        exact m.elim
    · exact m.elim
/-- x.pop(), the last one (a list of one's own becomes shared) -/
def ePop (i : Nat) : M D := fun e => match e[i]? with
  | some (some (.own ds)) => (match ds.getLast? with
    | some (.own ys) => if (ys.all isSh) = true then .ok (.lst ys) (e.set i (some (.own ds.dropLast))) else .no
    | some d => if isSh d = true then .ok d (e.set i (some (.own ds.dropLast))) else .no
    | none => .no)
  | _ => .no
theorem getLast_split {α : Type} {l : List α} {a : α} (h : l.getLast? = some a) : l = l.dropLast ++ [a] := by
  obtain ⟨hn, e⟩ := List.getLast?_eq_some_iff.mp h |> fun ⟨ys, e⟩ => (⟨by rw [e]; simp, by rw [e]; simp⟩ : l ≠ [] ∧ l = l.dropLast ++ [a])
  exact e
theorem de_pop {o : Expr} {i : Nat} {apos cpos : Pos} (ho : PE X o (tVar i)) (hbase : attributeBase o "pop" X.env (eval o X.env) = eval o X.env := by rfl) (hline : (apos.endLine == cpos.line) = true := by rfl) :
    PE X (.Call (.Attribute o "pop" apos) [] [] cpos) (lift X.K c W (ePop i)) :=
  PE_of (pe_bm0 PySem.F.plainAttrs_list PySem.F.slot_list_pop PySem.F.type_list_pop mt_pop ho hbase hline) fun σ H Q q => by
    obtain ⟨T, B, e, st, m⟩ := q
    unfold ePop at m
    split at m
    · rename_i ds hd
      obtain ⟨a, vs, G, L, hv, h1, h2, h3, nd, hL, gL, st1⟩ := st.out hd
      have hi : i < e.length := some_lt hd
      have gn : a ∉ G := (List.nodup_cons.mp nd).1
      have fin : ∀ d, ds.getLast? = some d → ∃ us u F1 F2, vs = us ++ [u] ∧ G = F1 ++ F2 ∧ Ows X.K B H ds.dropLast us F1 ∧ Ow X.K B H d u F2 := fun d hg => by
        have z := getLast_split hg
        rw [z] at h3
        exact Ows.split h3
      -- what is left, put back
      have back : ∀ us u F1 F2 B', vs = us ++ [u] → G = F1 ++ F2 → Ows X.K B H ds.dropLast us F1 → Ex B B' → (∀ x, x ∉ F2 → B' x = B x) → (∀ x ∈ F2, ∀ o, B' x = some o → H x = some o) →
          StOk X.K c T B' (upd H a (.lst us)) σ (e.set i (some (.own ds.dropLast))) := fun us u F1 F2 B' ev eg r ex off' on' => by
        have nd2 := List.nodup_append.mp (eg ▸ (List.nodup_cons.mp nd).2)
        have a2 : a ∉ F2 := fun z => gn (by rw [eg]; exact List.mem_append_right _ z)
        have a1 : a ∉ F1 := fun z => gn (by rw [eg]; exact List.mem_append_left _ z)
        have ow : Ow X.K B' (upd H a (.lst us)) (.own ds.dropLast) (.ref a) (a :: F1) :=
          .own upd_same (by rw [off' a a2]; exact h2) (r.keep ex fun x mx => ⟨by rw [off' x fun z => nd2.2.2 x mx x z rfl]; exact (r.free x mx).1, upd_ne fun z => a1 (z ▸ mx)⟩)
        have on := st1.tmp_on
        obtain ⟨st3, _⟩ := StOk.into (T := T) st1 (i := i) (v := .ref a) (by rw [List.length_set]; exact hi)
          (fun d z => by rw [List.getElem?_set_self hi] at z; cases z) rfl ow (List.nodup_cons.mpr ⟨a1, nd2.1⟩) (fun x mx => by
            rw [hL]
            rcases List.mem_cons.mp mx with z | z
            · rw [z]
              exact List.mem_cons_self
            · rw [eg]
              exact List.mem_cons_of_mem _ (List.mem_append_left _ z)) (fun x nx => by
            rw [hL, eg] at nx
            exact ⟨upd_ne fun z => nx (by rw [z]; exact List.mem_cons_self), off' x fun z => nx (List.mem_cons_of_mem _ (List.mem_append_right _ z))⟩) (fun x mx => by
            obtain ⟨o1, o2⟩ := on x mx
            by_cases hx : x = a
            · rw [hx, upd_same, off' a a2]
              exact ⟨fun z => (nomatch z), fun o z => by rw [h2] at z; cases z⟩
            · rw [upd_ne hx]
              refine ⟨o1, fun o z => ?_⟩
              by_cases hf : x ∈ F2
              · exact on' x hf o z
              · rw [off' x hf] at z
                exact o2 o z)
        rw [set_set, set_same hv] at st3
        exact st3
      have last : ∀ us (u : V), vs = us ++ [u] → vs[vs.length - 1]? = some u ∧ vs.dropLast = us := fun us u ev => by
        rw [ev]
        simp
      split at m
      · rename_i ys hg
        by_cases hs : (ys.all isSh) = true
        · rw [if_pos hs] at m
          obtain ⟨us, u, F1, F2, ev, eg, r1, r2⟩ := fin _ hg
          obtain ⟨p, ws, F3, rfl, rfl, k2, k3, k4⟩ := r2.inv
          have e3 := k4.nil_of hs
          subst e3
          obtain ⟨l1, l2⟩ := last us _ ev
          refine ⟨.ref a, hv, .inl ⟨rfl, vs, SqL.of h1⟩, a, vs, .ref p, rfl, rfl, h1, l1, ?_⟩
          rw [l2]
          have ex : Ex B (upd B p (.lst ws)) := Evl.Ex.new k3
          have st3 := back us _ F1 [p] (upd B p (.lst ws)) ev eg r1 ex (fun x nx => upd_ne fun z => nx (by rw [z]; exact List.mem_cons_self)) (fun x mx o z => by
            rw [show x = p by simpa using mx, upd_same] at z
            rw [show x = p by simpa using mx]
            exact k2.trans z)
          exact m _ _ ex st3 _ (RT.of (.lst upd_same ((k4.shs hs).mono ex)))
        · rw [if_neg hs] at m
          exact m.elim
      · rename_i d hno hg
        by_cases hs : isSh d = true
        · rw [if_pos hs] at m
          obtain ⟨us, u, F1, F2, ev, eg, r1, r2⟩ := fin _ hg
          obtain ⟨l1, l2⟩ := last us _ ev
          refine ⟨.ref a, hv, .inl ⟨rfl, vs, SqL.of h1⟩, a, vs, u, rfl, rfl, h1, l1, ?_⟩
          rw [l2]
          have e2 : F2 = [] := (Ows.cons r2 .nil rfl).nil_of (by simp [hs]) |> fun z => by simpa using z
          have st3 := back us _ F1 F2 B ev eg r1 (Evl.Ex.refl B) (fun x nx => rfl) (fun x mx o z => by rw [e2] at mx; cases mx)
          exact m _ _ (Evl.Ex.refl B) st3 _ (RT.of (r2.shOf hs))
        · rw [if_neg hs] at m
          exact m.elim
      · exact m.elim
    · exact m.elim
/-- x[j], a list of one's own there becomes shared -/
def eRow (i : Nat) (j : Int) : M D := fun e => match e[i]? with
  | some (some (.own ds)) => (match ixN ds.length j with
    | some n => (match ds[n]? with
      | some (.own ys) => if (ys.all isSh) = true then .ok (.lst ys) (e.set i (some (.own (ds.set n (.lst ys))))) else .no
      | _ => .no)
    | none => .no)
  | _ => .no
theorem de_row {o b : Expr} {i : Nat} {j : Int} {spos : Pos} (ho : PE X o (tVar i)) (hb : PE X b (tC (.int j))) (hp : PlainIx b := by exact fun _ _ => rfl) :
    PE X (.Subscript o b spos) (lift X.K c W (eRow i j)) :=
  PE_of (pe_ix ix_seq ho hb hp) fun σ H Q q => by
    obtain ⟨T, B, e, st, m⟩ := q
    unfold eRow at m
    split at m
    · rename_i ds hd
      split at m
      · rename_i n hx
        split at m
        · rename_i ys hn
          by_cases hs : (ys.all isSh) = true
          · rw [if_pos hs] at m
            obtain ⟨a, vs, G, L, hv, h1, h2, h3, nd, hL, gL, st1⟩ := st.out hd
            have hi : i < e.length := some_lt hd
            have gn : a ∉ G := (List.nodup_cons.mp nd).1
            obtain ⟨p, us, F2, k1, k2, k3, k4, ⟨k5, k6⟩, k7⟩ := h3.at_ hn (List.nodup_cons.mp nd).2
            have e2 : F2 = [] := k4.nil_of hs
            subst e2
            have pa : p ≠ a := fun z => gn (z ▸ k5)
            have ha : atI vs j = some (.ref p) := by
              unfold atI
              rw [← h3.length, hx]
              exact k1
            have ex : Ex B (upd B p (.lst us)) := Evl.Ex.new k3
            have sh : Sh X.K (upd B p (.lst us)) (.lst ys) (.ref p) := .lst upd_same ((k4.shs hs).mono ex)
            refine ⟨.ref a, hv, .inl ⟨a, vs, j, .ref p, rfl, rfl, SqL.of h1, ha, ?_⟩⟩
            obtain ⟨F3, r3, n3, s3⟩ := k7 (upd B p (.lst us)) H (.lst ys) [] ex (.sh sh) List.nodup_nil (fun x mx => nomatch mx) fun x mx nx =>
              ⟨(upd_ne fun z => nx (by rw [z]; exact List.mem_cons_self)).trans (h3.free x mx).1, rfl⟩
            have ow : Ow X.K (upd B p (.lst us)) H (.own (ds.set n (.lst ys))) (.ref a) (a :: F3) := .own h1 (by rw [upd_ne (Ne.symm pa)]; exact h2) r3
            have on := st1.tmp_on
            obtain ⟨st3, _⟩ := StOk.into (T := T) st1 (i := i) (v := .ref a) (by rw [List.length_set]; exact hi)
              (fun d z => by rw [List.getElem?_set_self hi] at z; cases z) rfl ow (List.nodup_cons.mpr ⟨fun z => gn (s3 a z), n3⟩) (fun x mx => by
                rw [hL]
                rcases List.mem_cons.mp mx with z | z
                · rw [z]
                  exact List.mem_cons_self
                · exact List.mem_cons_of_mem _ (s3 x z)) (fun x nx => ⟨rfl, upd_ne fun z => nx (by rw [hL, z]; exact List.mem_cons_of_mem _ k5)⟩) (fun x mx => by
                obtain ⟨o1, o2⟩ := on x mx
                refine ⟨o1, fun o z => ?_⟩
                by_cases hx : x = p
                · rw [hx, upd_same] at z
                  rw [hx]
                  exact k2.trans z
                · rw [upd_ne hx] at z
                  exact o2 o z)
            rw [set_set, set_same hv] at st3
            exact m _ _ ex st3 _ (RT.of sh)
          · rw [if_neg hs] at m
            exact m.elim
        · exact m.elim
      · exact m.elim
    · exact m.elim
/-- x.extend(y) -/
def extE (e : Env) (o y : D) : Option Env := (ownAt e o).bind fun t => match y with
  | .lst ys => if (t.2.2.all isSh) = true ∧ (ys.all isSh) = true ∧ t.2.2.length + ys.length < 1000000 then some (e.set t.1 (relab (some t.2.1) (t.2.2 ++ ys))) else none
  | _ => none
def sExt (fo fy : M D) : M Fl := mbind fo fun o => fun e => if (ownAt e o).isSome = true then (mbind fy fun y => fun e => match extE e o y with
  | some e' => .ok .nx e'
  | none => .no) e else .no
theorem ds_ext {o y : Expr} {fo fy : M D} {apos cpos pos : Pos} (ho : PE X o (lift X.K c W fo)) (hy : PE X y (lift X.K c W fy))
    (hs : swapsWith (.Call (.Attribute o "extend" apos) [y] [] cpos) none pos.line X.env = pure false := by rfl)
    (hbase : attributeBase o "extend" X.env (eval o X.env) = eval o X.env := by rfl)
    (hfew : ((backTo cpos (starEach (y :: []) X.env)).all (fun x => !x.1) && (backToKw cpos (keywordEach [] X.env)).all (fun x => x.1.isSome)
      && decide ((y :: []).length + ([] : List Keyword).length + (if ([] : List Keyword).isEmpty then 0 else 1) < 30)) = true := by rfl)
    (hline : (apos.endLine == cpos.line) = true := by rfl) (he : starEach (y :: []) X.env = (false, eval y X.env) :: starEach [] X.env := by rfl) :
    PS X (.Expr (.Call (.Attribute o "extend" apos) [y] [] cpos) pos) (liftS X.K c W (sExt fo fy)) :=
  PS_of (ps_expr (pe_bm PySem.F.plainAttrs_list PySem.F.slot_list_extend PySem.F.type_list_extend mt_extend ho (pa_cons hy pa_nil he) hbase hfew hline he) hs) fun Dn σ H q => by
    obtain ⟨B, e, st, m⟩ := q
    refine ⟨[], B, e, st, (Pst.go (σ := σ) (show SEnd X.K c W B Dn ((fo e).bind _) from m)).imp fun d e1 B1 H1 x1 m1 st1 v rv => ?_⟩
    by_cases hi : (ownAt e1 d).isSome = true
    · have m1 : SEnd X.K c W B1 Dn ((fy e1).bind fun y => fun e => match extE e d y with
        | some e' => .ok .nx e'
        | none => .no) := by
        have m1 : SEnd X.K c W B1 Dn (if (ownAt e1 d).isSome = true then _ else _) := m1
        rw [if_pos hi] at m1
        exact m1
      obtain ⟨z, hz⟩ := Option.isSome_iff_exists.mp hi
      obtain ⟨i, d0, xs⟩ := z
      obtain ⟨a1, a2, a, vs, G, rfl, a3, a4, a5⟩ := ownAt_ok st1 rv hz
      refine ⟨.inl ⟨rfl, vs, SqL.of a4⟩, [], B1, e1, st1, (Pst.go (σ := σ) m1).imp fun y e2 B2 H2 x2 m2 st2 u ru => ?_⟩
      have m2 : SEnd X.K c W B2 Dn (match extE e2 d y with
        | some e' => .ok .nx e'
        | none => .no) := m2
      cases q : extE e2 d y with
      | none =>
        rw [q] at m2
        exact m2.elim
      | some e' =>
        rw [q] at m2
        unfold extE at q
        cases q2 : ownAt e2 d with
        | none =>
          rw [q2] at q
          cases q
        | some t =>
          obtain ⟨j, d1, ys⟩ := t
          rw [q2] at q
          cases y with
          | lst zs =>
            have q : (if (ys.all isSh) = true ∧ (zs.all isSh) = true ∧ ys.length + zs.length < 1000000 then some (e2.set j (relab (some d1) (ys ++ zs))) else none) = some e' := q
            by_cases hc : (ys.all isSh) = true ∧ (zs.all isSh) = true ∧ ys.length + zs.length < 1000000
            · rw [if_pos hc] at q
              cases q
              obtain ⟨b1, b2, b, us, G', eb, b3, b4, b5⟩ := ownAt_ok st2 (rv.al_keep hz) q2
              cases eb
              have ru : Sh X.K B2 (.lst zs) u := ru
              cases ru with
              | lst h1 r1 =>
                have r := b5.shs hc.1
                refine ⟨a, _, us, _, rfl, rfl, b4, st2.bh _ _ h1, Nat.le_of_lt (Nat.lt_of_lt_of_le (by rw [← b5.length, ← r1.length]; exact hc.2.2) (line_ok (Nat.le_refl _))), ?_⟩
                exact m2 σ B2 _ (Evl.Ex.refl _) (st2.write b1 b2 b3 b4 (by rw [List.all_append, hc.1, hc.2.1]; rfl) (r.append r1))
            · rw [if_neg hc] at q
              cases q
          | _ => cases q
    · exfalso
      have m1 : SEnd X.K c W B1 Dn (if (ownAt e1 d).isSome = true then _ else _) := m1
      rw [if_neg hi] at m1
      exact m1
end
end DL
end

section
set_option maxRecDepth 100000
set_option maxHeartbeats 2000000
/-! methods of a text: partition, split, join; str(n), int(s); a list or tuple times a number -/
namespace DL
open PySem L2
open Evl (Ex)
/-- o.m(e) of a text -/
def eM1 (op : D → D → Option D) (f g : M D) : M D := mbind f fun x => match x with
  | .str s => mbind g fun y => fun e => mopt (op (.str s) (rs e y)) e
  | _ => fun _ => .no
section
variable {X : Cx} {c : Ctx} {W : WX} {f g : M D} {op : D → D → Option D} {r : V → List V → Hp → VK → Prop}
theorem m1_conv (ok : OpD X.K (fun x y => r x [y]) op) : ∀ σ H Q, lift X.K c W (eM1 op f g) σ H Q → tM1 r (lift X.K c W f) (lift X.K c W g) σ H Q := fun σ H Q q => by
  obtain ⟨T, B, e, st, m⟩ := q
  refine ⟨T, B, e, st, m.bind.imp fun x e1 B1 H1 x1 m1 st1 v rv => ?_⟩
  cases x with
  | str s =>
    cases rv
    refine ⟨⟨s, rfl⟩, T, B1, e1, st1, m1.bind.imp fun y e2 B2 H2 x2 m2 st2 u ru => ?_⟩
    have m2 : Pst X.K c T W σ B2 (mopt (op (.str s) (rs e2 y)) e2) _ := m2
    cases ho : op (.str s) (rs e2 y) with
    | none =>
      rw [ho] at m2
      exact m2.elim
    | some z =>
      rw [ho] at m2
      exact ok B2 H2 (.str s) (rs e2 y) (.str s) u z Q st2.ex (RS.of (.str s)) (rs_ok st2 ru) ho fun w B' H' g s => m2 B' H' g.b (st2.grow g) w (RT.of s)
  | _ => exact m1.elim
end
/-- the texts of a list -/
def strsOf : List D → Option (List Str)
  | [] => some []
  | .str s :: ds => (strsOf ds).map (s :: ·)
  | _ => none
section
variable {K : PySem.W.Frag}
theorem strsOf_ok {B : Hp} : ∀ {ds : List D} {vs : List V} {ss : List Str}, Shs K B ds vs → strsOf ds = some ss → vs = ss.map V.str
  | [], _, _, h, e => by cases h; cases e; rfl
  | .str s :: ds, _, ss, h, e => by
    cases h with
    | cons h1 r =>
      cases h1
      cases q : strsOf ds with
      | none =>
        rw [strsOf, q] at e
        cases e
      | some ms =>
        rw [strsOf, q] at e
        cases e
        rw [strsOf_ok r q] <;> rfl
  | .non :: _, _, _, _, e => by cases e
  | .bl _ :: _, _, _, _, e => by cases e
  | .int _ :: _, _, _, _, e => by cases e
  | .ty _ :: _, _, _, _, e => by cases e
  | .ref _ :: _, _, _, _, e => by cases e
  | .tup _ :: _, _, _, _, e => by cases e
  | .lst _ :: _, _, _, _, e => by cases e
  | .klst _ :: _, _, _, _, e => by cases e
  | .own _ :: _, _, _, _, e => by cases e
  | .bor _ :: _, _, _, _, e => by cases e
  | .al _ :: _, _, _, _, e => by cases e
theorem shs_strs {B : Hp} : ∀ (ss : List Str), Shs K B (ss.map D.str) (ss.map V.str)
  | [] => .nil
  | s :: ss => .cons (.str s) (shs_strs ss)
/-- x.partition(sep) -/
def dPart : D → D → Option D
  | .str a, .str b => if b.length ≠ 0 ∧ a.length ≤ 1000000 then some (.tup [.str (Txt.partition a b).1, .str (Txt.partition a b).2.1, .str (Txt.partition a b).2.2]) else none
  | _, _ => none
theorem ok_part : OpD K (fun x y H Q => (fun x xs H Q => ∃ a b, x = .str a ∧ xs = [.str b] ∧ (b.length == 0) = false ∧ a.length ≤ sizeLine ∧
    ∀ p, H p = none → Q (.ref p) (upd H p (.tup [.str (Txt.partition a b).1, .str (Txt.partition a b).2.1, .str (Txt.partition a b).2.2]))) x [y] H Q) dPart := by
  intro B H x y v u z Q e rx ry ho k
  unfold dPart at ho
  split at ho
  · rename_i a b
    cases (show Sh K B (.str a) v from rx)
    cases (show Sh K B (.str b) u from ry)
    split at ho
    · rename_i hl
      cases ho
      refine ⟨a, b, rfl, rfl, by simpa using hl.1, line_ok hl.2, fun p hp => ?_⟩
      have g := Grow.new e (.tup [.str (Txt.partition a b).1, .str (Txt.partition a b).2.1, .str (Txt.partition a b).2.2]) hp
      exact k _ _ _ g (.tup (SqT.of upd_same) (.cons (.str _) (.cons (.str _) (.cons (.str _) .nil))))
    · cases ho
  · cases ho
/-- x.split(sep) -/
def dSplit : D → D → Option D
  | .str a, .str b => if b.length ≠ 0 ∧ a.length ≤ 1000000 then some (.lst ((Txt.split a b).map D.str)) else none
  | _, _ => none
theorem ok_split : OpD K (fun x y H Q => (fun x xs H Q => ∃ a b, x = .str a ∧ xs = [.str b] ∧ (b.length == 0) = false ∧ a.length + 2 ≤ sizeLine ∧ rNewStrs (Txt.split a b) H Q) x [y] H Q) dSplit := by
  intro B H x y v u z Q e rx ry ho k
  unfold dSplit at ho
  split at ho
  · rename_i a b
    cases (show Sh K B (.str a) v from rx)
    cases (show Sh K B (.str b) u from ry)
    split at ho
    · rename_i hl
      cases ho
      refine ⟨a, b, rfl, rfl, by simpa using hl.1, Nat.le_trans (Nat.add_le_add_right hl.2 2) (by decide), fun p hp => ?_⟩
      have g := Grow.new e (.lst ((Txt.split a b).map V.str)) hp
      exact k _ _ _ g (.lst upd_same (shs_strs _))
    · cases ho
  · cases ho
/-- sep.join(a list of texts) -/
def dJoin : D → D → Option D
  | .str a, y => (lsq y).bind fun xs => (strsOf xs).bind fun ys => if (ys.map (·.length)).sum + ys.length * a.length ≤ 1000000 then some (.str (Txt.join a ys)) else none
  | _, _ => none
theorem ok_join : OpD K (fun x y H Q => (fun x xs H Q => ∃ a p, ∃ ys : List Str, x = .str a ∧ xs = [.ref p] ∧ (SqL K H p (ys.map V.str) ∨ SqT K H p (ys.map V.str)) ∧
    (ys.map (·.length)).sum + ys.length * a.length ≤ 16777216 ∧ Q (.str (Txt.join a ys)) H) x [y] H Q) dJoin := by
  intro B H x y v u z Q e rx ry ho k
  unfold dJoin at ho
  split at ho
  · rename_i a
    cases (show Sh K B (.str a) v from rx)
    cases q1 : lsq y with
    | none =>
      rw [q1] at ho
      cases ho
    | some xs =>
      rw [q1] at ho
      have ho : ((strsOf xs).bind fun ys => if (ys.map (·.length)).sum + ys.length * a.length ≤ 1000000 then some (D.str (Txt.join a ys)) else none) = some z := ho
      cases q2 : strsOf xs with
      | none =>
        rw [q2] at ho
        cases ho
      | some ys =>
        rw [q2] at ho
        have ho : (if (ys.map (·.length)).sum + ys.length * a.length ≤ 1000000 then some (D.str (Txt.join a ys)) else none) = some z := ho
        split at ho
        · rename_i hl
          cases ho
          obtain ⟨p, us, rfl, h1, h2⟩ := lsq_ok e ry q1
          rw [strsOf_ok h2 q2] at h1
          exact ⟨a, p, ys, rfl, rfl, .inl h1, Nat.le_trans hl (by decide), k _ B H (Grow.refl e) (.str _)⟩
        · cases ho
  · cases ho
/-- str(n) -/
def dStr : List D → Option D
  | [.int i] => if i.natAbs.log2 < 1920 then some (.str (toString i)) else none
  | _ => none
theorem ok_str : CallD K (fun xs H Q => ∃ i, xs = [.int i] ∧ i.natAbs.log2 < 1920 ∧ Q (.str (toString i)) H) dStr := by
  intro B H ds vs z Q e r ho k
  unfold dStr at ho
  split at ho
  · rename_i i
    obtain ⟨v, rfl, h⟩ := rss1 r
    cases (show Sh K B (.int i) v from h)
    split at ho
    · rename_i hl
      cases ho
      exact ⟨i, rfl, hl, k _ B H (Grow.refl e) (.str _)⟩
    · cases ho
  · cases ho
/-- int(n), int(b), int(s) -/
def dIntT : List D → Option D
  | [.int i] => some (.int i)
  | [.bl b] => some (.int (if b then 1 else 0))
  | [.str s] => if s.length ≤ 640 then (PySem.intText? s).map .int else none
  | _ => none
theorem ok_intT : CallD K (fun xs H Q => ((∃ i, xs = [.int i] ∧ Q (.int i) H) ∨ ∃ k, xs = [.bl k] ∧ Q (.int (if k then 1 else 0)) H) ∨ ∃ a n, xs = [.str a] ∧ PySem.intText? a = some n ∧ a.length ≤ 640 ∧ Q (.int n) H) dIntT := by
  intro B H ds vs z Q e r ho k
  unfold dIntT at ho
  split at ho
  · rename_i i
    obtain ⟨v, rfl, h⟩ := rss1 r
    cases ho
    cases (show Sh K B (.int i) v from h)
    exact .inl (.inl ⟨i, rfl, k _ B H (Grow.refl e) (.int _)⟩)
  · rename_i b
    obtain ⟨v, rfl, h⟩ := rss1 r
    cases ho
    cases (show Sh K B (.bl b) v from h)
    exact .inl (.inr ⟨b, rfl, k _ B H (Grow.refl e) (.int _)⟩)
  · rename_i s
    obtain ⟨v, rfl, h⟩ := rss1 r
    cases (show Sh K B (.str s) v from h)
    split at ho
    · rename_i hl
      cases q : PySem.intText? s with
      | none =>
        rw [q] at ho
        cases ho
      | some n =>
        rw [q] at ho
        cases ho
        exact .inr ⟨s, n, rfl, q, hl, k _ B H (Grow.refl e) (.int _)⟩
    · cases ho
  · cases ho
end
section
variable {X : Cx} {c : Ctx} {W : WX} {f g : M D} {o e : Expr} {apos pos : Pos}
theorem de_part (ho : PE X o (lift X.K c W f)) (he : PE X e (lift X.K c W g)) (hs : starEach [e] X.env = [(false, eval e X.env)] := by rfl) (hbase : attributeBase o "partition" X.env (eval o X.env) = eval o X.env := by rfl) (hline : (apos.endLine == pos.line) = true := by rfl) :
    PE X (.Call (.Attribute o "partition" apos) [e] [] pos) (lift X.K c W (eM1 dPart f g)) := PE_of (pe_partition ho he hs hbase hline) (m1_conv ok_part)
theorem de_split (ho : PE X o (lift X.K c W f)) (he : PE X e (lift X.K c W g)) (hs : starEach [e] X.env = [(false, eval e X.env)] := by rfl) (hbase : attributeBase o "split" X.env (eval o X.env) = eval o X.env := by rfl) (hline : (apos.endLine == pos.line) = true := by rfl) :
    PE X (.Call (.Attribute o "split" apos) [e] [] pos) (lift X.K c W (eM1 dSplit f g)) := PE_of (pe_split ho he hs hbase hline) (m1_conv ok_split)
theorem de_join (ho : PE X o (lift X.K c W f)) (he : PE X e (lift X.K c W g)) (hs : starEach [e] X.env = [(false, eval e X.env)] := by rfl) (hbase : attributeBase o "join" X.env (eval o X.env) = eval o X.env := by rfl) (hline : (apos.endLine == pos.line) = true := by rfl) :
    PE X (.Call (.Attribute o "join" apos) [e] [] pos) (lift X.K c W (eM1 dJoin f g)) := PE_of (pe_join ho he hs hbase hline) (m1_conv ok_join)
end
end DL
end

section
set_option maxRecDepth 100000
set_option maxHeartbeats 2000000
/-! for over a text, over enumerate(text); rows that are not reached; lists times numbers -/
namespace DL
open PySem L2 PySem.Spec PyProof.Rows
open Evl (Ex)
/-- the pairs (place, sign) of a text -/
def Itx (x : Str) : It := ⟨fun i _ => i < x.cps.size, fun i H v H' => ∃ T c, v = .ref T ∧ H T = none ∧ H' = upd H T (.tup [.int (i : Nat), .str ⟨#[c]⟩]) ∧ x.cps[i]? = some c, fun i _ => x.cps.size ≤ i⟩
theorem draws_past {P : Program} {w : World} {A : Around} (hh : A.handled = none) (it : Addr) (x : Str) (t : Tok) (n : Nat) (hn : x.cps.size ≤ n) :
    Draws P w A it [it] n (fun _ _ => True) (fun j h => h.IsStrIter it (strIterType x) x t j ∧ n ≤ j) where
  live := fun i h st => by
    obtain ⟨⟨o, ho, _⟩, _⟩ := st
    exact ⟨o, ho⟩
  frame := fun i h h' st k => by
    obtain ⟨⟨o, ho, r⟩, z⟩ := st
    exact ⟨⟨o, k it (by simp) o ho, r⟩, z⟩
  item := fun i s Q E hi st _ => absurd st.2 (by omega)
  done := fun s Q E st hE => by
    obtain ⟨st, _⟩ := st
    have hx : x.cps[n]? = none := Array.getElem?_eq_none hn
    cases ha : x.cps.all (· < 128)
    · simp only [strIterType, ha, Bool.false_eq_true, if_false] at st
      exact wpAny_nextOf_wide_end hh st hx hE
    · simp only [strIterType, ha, if_true] at st
      exact wpAny_nextOf_ascii_end hh st hx hE
theorem turn_enumX {P : Program} {w : World} {K : PySem.W.Frag} {elts : List Expr} {kk : Nat} {tpos : Pos} (x : Str) (t : Tok) (e it : Addr) :
    Turn P w K (.Tuple elts kk tpos) (Itx x) [e, it] e (fun i h => (∃ old, IsEnum h e it ((i : Nat) : Int) old) ∧ h.IsStrIter it (strIterType x) x t i ∧ e ≠ it) where
  mem := by simp
  obj := fun i h st b hb => by
    obtain ⟨⟨old, he⟩, ⟨o, ho, hc, hd⟩, _⟩ := st
    have e' : b = e ∨ b = it := by simpa using hb
    rcases e' with z | z
    · rw [z]; exact ⟨_, he, fun v q => nomatch q⟩
    · rw [z]; exact ⟨o, ho, fun v q => by rw [hd] at q; cases q⟩
  keep := fun i h h' st k => by
    obtain ⟨⟨old, he⟩, ⟨o, ho, r⟩, hne⟩ := st
    exact ⟨⟨old, k e (by simp) _ he⟩, ⟨o, k it (by simp) o ho, r⟩, hne⟩
  item := by
    intro X hP hw hK hc i pins s σ H E I hf st hg
    subst hP hw hK
    obtain ⟨⟨old, he⟩, hit, hne⟩ := st
    have hel : e < s.heap.objs.size := Heap.lt_size he
    have hil : it < s.heap.objs.size := by obtain ⟨_, q, _⟩ := hit; exact Heap.lt_size q
    refine wpAny_pyNext_enum_itemD (Draws.text (show X.A.in1.handled = none from I.ok.hd hc) it x t) he hit hg hne (by simpa using hne) fun v h' tk hp ho hit' hT hsz hk => ?_
    obtain ⟨c, u, hcx, rfl⟩ := hp
    refine ⟨_, rfl, wpAny_letOwnedTupleGo_enum (s := { s with heap := h', toks := tk + 1 }) ho fun h'' he' sb => ?_⟩
    have hT2 : h''.get? s.heap.objs.size = some { cls := .type "tuple", data := .seq #[.int i tk, .str ⟨#[c]⟩ u] } := (sb.2 _ (Nat.ne_of_gt hel)).trans hT
    have new : ObjOk X.prog X.w (upd H s.heap.objs.size (.tup [.int (i : Nat), .str ⟨#[c]⟩])) h'' s.heap.objs.size (.tup [.int (i : Nat), .str ⟨#[c]⟩]) :=
      ⟨by show 2 ≤ sizeLine; decide, [.int i tk, .str ⟨#[c]⟩ u], .cons ⟨_, rfl⟩ (.cons ⟨_, rfl⟩ .nil), ⟨_, hT2, rfl, _, rfl⟩⟩
    have I1 : Inv X pins σ (upd H s.heap.objs.size (.tup [.int (i : Nat), .str ⟨#[c]⟩])) { s with heap := h'', toks := tk + 1 } :=
      I.turnedNew (ch := [e, it]) (fun b ob hb q => (sb.2 b (fun z => hb (by simp [z]))).trans (hk b ob (fun z => hb (by simp [z])) (fun z => hb (by simp [z])) q)) hf (Nat.le_refl _) new
    refine ⟨.ref s.heap.objs.size, _, I1, rfl, ⟨_, c, rfl, I.hok.fresh (Nat.le_refl _), rfl, hcx⟩, ⟨⟨.str ⟨#[c]⟩ u, ?_⟩, ?_, hne⟩, fun b hb => ?_⟩
    · have e1 : ((i + 1 : Nat) : Int) = (i : Int) + 1 := by omega
      rw [e1]; exact he'
    · obtain ⟨o, q, r⟩ := hit'
      exact ⟨o, (sb.2 it (Ne.symm hne)).trans q, r⟩
    · have hb' : b < s.heap.objs.size := by
        have e' : b = e ∨ b = it := by simpa using hb
        rcases e' with z | z
        · rw [z]; exact hel
        · rw [z]; exact hil
      rw [upd_ne (Nat.ne_of_lt hb')]
      exact (hf b hb).1
  done := by
    intro X hP hw hK hc i pins s σ H E I hf st hg
    subst hP hw hK
    obtain ⟨⟨old, he⟩, hit, hne⟩ := st
    obtain ⟨f0, f1, f2, f3, f4, f5⟩ := hf it (by simp)
    exact wpAny_pyNext_enum_endD (draws_past (show X.A.in1.handled = none from I.ok.hd hc) it x t i hg) he ⟨hit, Nat.le_refl _⟩ fun h' eb => ⟨rfl, I.turned (t' := s.toks) (fun b o hb q => eb b o hb q) f0 f1 f3 f4 f5⟩
  self := fun A i s Q E st h => let ⟨⟨_, he⟩, _⟩ := st; wpAny_pyIter_enum he h
def iEnumX (ta : TA) : TI := fun σ H R => ta σ H fun vs H1 => ∃ x, vs = [.str x] ∧ R (Itx x) H1
theorem pi_enumX {X : Cx} {e : Expr} {ta : TA} {p pos tpos : Pos} {elts : List Expr} {kk : Nat} (hg : Gl X "enumerate") (hm : X.mg "enumerate" = none) (ha : PA X [e] ta) (hs : starEach [e] X.env = [(false, eval e X.env)] := by rfl) :
    PI X (.Tuple elts kk tpos) (.Call (.Name "enumerate" p) [e] [] pos) (iEnumX ta) := by
  refine ⟨fun pins s σ H R I h => ?_⟩
  refine Call_ (ld_blt I hg hm boot_enumerate (PyProof.Rows.callWith_type1 (thn (ha.run pos pins s σ H _ I h) fun us s1 ⟨vs, H1, I1, r1, q1⟩ => ?_) hs rfl))
  obtain ⟨x, ex, q⟩ := q1
  subst ex
  cases r1 with
  | cons r rr =>
    cases rr
    obtain ⟨t, rfl⟩ := r
    refine call_enumerate_str fun h' he hit hsz hk => wpAny_pyIter_enum he ?_
    have I2 : Inv X pins σ H1 { s1 with heap := h' } := I1.kept (t' := s1.toks) hk
    refine ⟨s1.heap.objs.size + 1, [s1.heap.objs.size + 1, s1.heap.objs.size], _, _, H1, rfl, I2, turn_enumX x t (s1.heap.objs.size + 1) s1.heap.objs.size, ⟨⟨.none, he⟩, hit, Nat.succ_ne_self _⟩, fun b hb => ?_, q⟩
    have e' : b = s1.heap.objs.size + 1 ∨ b = s1.heap.objs.size := by simpa using hb
    have hle : s1.heap.objs.size ≤ b := by
      rcases e' with z | z
      · rw [z]; exact Nat.le_add_right _ _
      · rw [z]; exact Nat.le_refl _
    exact I1.fpOk hle (I1.hok.fresh hle)
/-- the signs of a text, one by one -/
def signD (c : Nat) : D := .str ⟨#[c]⟩
def enumD : Nat → List Nat → List D
  | _, [] => []
  | i, c :: cs => .tup [.int (i : Nat), signD c] :: enumD (i + 1) cs
theorem enumD_len : ∀ (i : Nat) (l : List Nat), (enumD i l).length = l.length
  | _, [] => rfl
  | i, _ :: l => by rw [enumD, List.length_cons, List.length_cons, enumD_len (i + 1) l]
theorem enumD_get : ∀ (i : Nat) (l : List Nat) (k c : Nat), l[k]? = some c → (enumD i l)[k]? = some (.tup [.int ((i + k : Nat) : Int), signD c])
  | i, b :: l, 0, c, h => by
    have h : b = c := by simpa using h
    rw [h]
    rfl
  | i, b :: l, k + 1, c, h => by
    have h : l[k]? = some c := by simpa using h
    rw [enumD, List.getElem?_cons_succ, enumD_get (i + 1) l k c h]
    have z : i + 1 + k = i + (k + 1) := by omega
    rw [z]
section
variable {K : PySem.W.Frag} {B0 : Hp}
theorem it_str {s : Str} : ItOk K B0 (Its s) (s.cps.toList.map signD) where
  go := fun i B H _ _ hi => by
    have hi : i < s.cps.size := by simpa using hi
    exact hi
  stop := fun i B H _ _ hi => by
    have hi : s.cps.size ≤ i := by simpa using hi
    exact hi
  yld := fun i B H x H' e1 e2 hi hy => by
    obtain ⟨rfl, c, hc, rfl⟩ := hy
    refine ⟨B, signD c, Grow.refl e2, ?_, .str _⟩
    rw [List.getElem?_map, Array.getElem?_toList, hc]
    rfl
theorem it_enumX {s : Str} : ItOk K B0 (Itx s) (enumD 0 s.cps.toList) where
  go := fun i B H _ _ hi => by
    rw [enumD_len] at hi
    have hi : i < s.cps.size := by simpa using hi
    exact hi
  stop := fun i B H _ _ hi => by
    rw [enumD_len] at hi
    have hi : s.cps.size ≤ i := by simpa using hi
    exact hi
  yld := fun i B H x H' e1 e2 hi hy => by
    obtain ⟨T, c, rfl, hT, rfl, hc⟩ := hy
    have g := Grow.new e2 (.tup [.int (i : Nat), .str ⟨#[c]⟩]) hT
    have hc : s.cps.toList[i]? = some c := by rw [Array.getElem?_toList, hc]
    refine ⟨_, .tup [.int ((i : Nat) : Int), signD c], g, ?_, .tup (SqT.of upd_same) (.cons (.int _) (.cons (.str _) .nil))⟩
    have z := enumD_get 0 _ i c hc
    rw [Nat.zero_add] at z
    exact z
end
def signsOf : D → Option (List D)
  | .str s => some (s.cps.toList.map signD)
  | _ => none
def eIterS (f : M D) : M (List D) := mbind f fun d => mopt (signsOf d)
def enumOf : List D → Option (List D)
  | [.str s] => some (enumD 0 s.cps.toList)
  | _ => none
def eEnumS (fs : M (List D)) : M (List D) := mbind fs fun ds => mopt (enumOf ds)
section
variable {X : Cx} {c : Ctx} {W : WX}
theorem di_str {tg x : Expr} {f : M D} (h : PE X x (lift X.K c W f)) : PI X tg x (liftI X.K c W (eIterS f)) := PI_of (pi_str h) fun σ H R q => by
  obtain ⟨T, B, e, st, m⟩ := q
  refine ⟨T, B, e, st, m.bind.imp fun d e1 B1 H1 x1 m1 st1 v rv => ?_⟩
  have m1 : Pst X.K c T W σ B1 (mopt (signsOf d) e1) _ := m1
  cases d with
  | str s =>
    cases rv
    exact ⟨s, rfl, m1 B1 H1 (Evl.Ex.refl _) st1 _ it_str⟩
  | _ => exact m1.elim
theorem di_enumX {a : Expr} {fs : M (List D)} {p pos tpos : Pos} {elts : List Expr} {kk : Nat} (hg : Gl X "enumerate") (hm : X.mg "enumerate" = none) (ha : PA X [a] (liftA X.K c W fs)) (hs : starEach [a] X.env = [(false, eval a X.env)] := by rfl) :
    PI X (.Tuple elts kk tpos) (.Call (.Name "enumerate" p) [a] [] pos) (liftI X.K c W (eEnumS fs)) := PI_of (pi_enumX hg hm ha hs) fun σ H R q => by
  obtain ⟨T, B, e, st, m⟩ := q
  refine ⟨T, B, e, st, m.bind.imp fun ds e1 B1 H1 x1 m1 st1 vs rv => ?_⟩
  have m1 : Pst X.K c T W σ B1 (mopt (enumOf ds) e1) _ := m1
  cases ds with
  | nil => exact m1.elim
  | cons d ds => cases ds with
    | nil =>
      obtain ⟨v, us, rfl, r1, r2⟩ := rv
      cases (show _ = _ from r2)
      cases d with
      | str s =>
        cases r1
        exact ⟨s, rfl, m1 B1 H1 (Evl.Ex.refl _) st1 _ it_enumX⟩
      | _ => exact m1.elim
    | cons d2 ds => cases d <;> exact m1.elim
/-- a global that is a number, a text -/
theorem de_gInt {x : Str} {i : Int} {pos : Pos} (hg : Gl X x) (hm : ∃ t, X.mg x = some (.int i t)) (hd : (x == ("__debug__" : Str)) = false := by decide) : PE X (.Name x pos) (lift X.K c W (eC (.int i))) := by
  obtain ⟨t, h⟩ := hm
  exact de_c (pe_glob (v := .int i) hg h ⟨t, rfl⟩ hd) fun _ => .int _
theorem de_gStr {x z : Str} {pos : Pos} (hg : Gl X x) (hm : ∃ t, X.mg x = some (.str z t)) (hd : (x == ("__debug__" : Str)) = false := by decide) : PE X (.Name x pos) (lift X.K c W (eC (.str z))) := by
  obtain ⟨t, h⟩ := hm
  exact de_c (pe_glob (v := .str z) hg h ⟨t, rfl⟩ hd) fun _ => .str _
/-- a row that is not reached -/
def sNo : M Fl := fun _ => .no
theorem ds_no {st : Stmt} : PS X st (liftS X.K c W sNo) := ⟨fun pins s σ H Dn I q => by
  obtain ⟨B, e, st, m⟩ := q
  exact m.elim⟩
end
section
variable {X : Cx} {c : Ctx} {W : WX} {CX : CXT} {k kf : Nat} {f : Addr} {fd : FuncData} {ps : List Str} {sp : Sp} {E : L2.St → XK} {x : Str} {p pos : Pos} {Fm : List D → Rs D}
theorem pe_callS0 (F : FnOk X.prog X.w X.K X.mg X.base CX k f fd ps sp) (hr : Room k X.A) (hg : Gl X x) (hm : X.mg x = some (.ref f)) (hk : PySem.W.keepIn X.K (.ref f) = true) (hb : Binds X.K fd ps []) (hx : ∀ σ, PassesAt CX X σ (E σ))
    (hdb : (x == ("__debug__" : Str)) = false := by decide) : PE X (.Call (.Name x p) [] [] pos) (tCallS sp E tNil) := by
  refine ⟨fun pins s σ H Q I h => ?_⟩
  refine wpAny_Call_Name_kw (ld_glob I hg hm ?_ hdb)
  exact PySem.W.callWith_K0 I.kIn hk (run_fnS (us := []) F hr hb (hx σ) I .nil h)
/-- a call without arguments -/
theorem de_fn0 (b : Bx X W k) (F : Fn X.prog X.w X.K X.mg X.base x kf 0 Fm) (hk : kf ≤ k) (hg : Gl X x) (hdb : (x == ("__debug__" : Str)) = false := by decide) : PE X (.Call (.Name x p) [] [] pos) (lift X.K c W (eCall 0 Fm aNil)) := by
  obtain ⟨f, fd, ps, F1, F2, F3, F4⟩ := F
  refine PE_of (pe_callS0 F1 (b.room.mono hk) hg F2 F3 F4 (fun σ => passAt b.tk σ) hdb) fun σ H Q q => ?_
  obtain ⟨T, B, e, st, m⟩ := call_conv σ H Q q
  exact m B H (Evl.Ex.refl B) st [] rfl
end
theorem dss_no {X : Cx} {c : Ctx} {W : WX} {st : List Stmt} : PSs X st (liftS X.K c W sNo) := ⟨fun pins s σ H Dn I q => by
  obtain ⟨B, e, st, m⟩ := q
  exact m.elim⟩
/-- a list times a number -/
def dMulA (x y : D) : Option D := match x, y with
  | .int i, .int j => dMulI (.int i) (.int j)
  | x, .int k => (mls x).bind fun xs => if -1000000 ≤ k ∧ k ≤ 1000000 ∧ xs.length * k.toNat ≤ 1000000 then some (.lst (List.replicate k.toNat xs).flatten) else none
  | _, _ => none
def rMulA : R2 := fun x y H Q => rI CMulW (fun i j => .int (i * j)) x y H Q ∨ rRep x y H Q
theorem op_mulA {X : Cx} : OpR X (binaryOp .Mult) rMulA := op_mulW.or op_rep
theorem Shs.rep {K : PySem.W.Frag} {B : Hp} {ds : List D} {vs : List V} (h : Shs K B ds vs) : ∀ n : Nat, Shs K B (List.replicate n ds).flatten (List.replicate n vs).flatten
  | 0 => .nil
  | n + 1 => by
    rw [List.replicate_succ, List.flatten_cons, List.replicate_succ, List.flatten_cons]
    exact h.append (Shs.rep h n)
theorem ok_mulA {K : PySem.W.Frag} : OpD K rMulA dMulA := by
  intro B H x y v u z Q e rx ry ho k
  unfold dMulA at ho
  split at ho
  · exact .inl (ok_mulI B H _ _ v u z Q e rx ry ho k)
  · rename_i n _
    cases (show Sh K B (.int n) u from ry)
    cases q : mls x with
    | none =>
      rw [q] at ho
      cases ho
    | some xs =>
      rw [q] at ho
      have ho : (if -1000000 ≤ n ∧ n ≤ 1000000 ∧ xs.length * n.toNat ≤ 1000000 then some (D.lst (List.replicate n.toNat xs).flatten) else none) = some z := ho
      split at ho
      · rename_i hl
        cases ho
        obtain ⟨a, vs, rfl, h1, r⟩ := mls_ok e rx q
        refine .inr ⟨a, n, vs, rfl, rfl, h1, by omega, by omega, by rw [← r.length]; exact line_ok hl.2.2, fun p hp => ?_⟩
        have g := Grow.new e (.lst (List.replicate n.toNat vs).flatten) hp
        exact k _ _ _ g (.lst upd_same ((Shs.rep r _).mono g.b))
      · cases ho
  · cases ho
end DL
end

section
set_option maxRecDepth 100000
set_option maxHeartbeats 2000000
/-! e.f, e the caught exception -/
namespace DL
open PySem PySem.Spec PyProof.Rows L2
open Evl (Ex)
/-- no raised class has an attribute of its own by these names -/
def FldT (K : PySem.W.Frag) (t : XTab) (fs : List Str) : Prop := ∀ x, hasX t x = true → ∀ f ∈ fs, PySem.W.findIn K (.ref (He.ga K x)) f = some none
def fldB (t : XTab) (fs : List Str) (K : PySem.W.Frag) : Bool := t.all fun p => fs.all fun f => decide (PySem.W.findIn K (.ref (He.ga K p.1)) f = some none)
theorem fldB_ok {t : XTab} {fs : List Str} {K : PySem.W.Frag} (h : fldB t fs K = true) : FldT K t fs := fun x hx f m => by
  obtain ⟨l, hm⟩ := hasX_mem hx
  exact of_decide_eq_true (List.all_eq_true.mp (List.all_eq_true.mp h (x, l) hm) f m)
theorem shs_look {K : PySem.W.Frag} {B : Hp} : ∀ {xs : List (Str × D)} {ys : List (Str × V)} {f : Str} {d : D}, ys.map (·.1) = xs.map (·.1) → Shs K B (xs.map (·.2)) (ys.map (·.2)) → xs.lookup f = some d → ∃ v, ys.lookup f = some v ∧ Sh K B d v
  | [], _, _, _, _, _, e => by cases e
  | (g, d) :: xs, [], _, _, h, _, _ => by cases h
  | (g, d) :: xs, (g', v) :: ys, f, d', h, r, e => by
    have h1 : g' = g := (List.cons.inj h).1
    have h2 : ys.map (·.1) = xs.map (·.1) := (List.cons.inj h).2
    subst h1
    have r : Shs K B (d :: xs.map (·.2)) (v :: ys.map (·.2)) := r
    cases r with
    | cons s r =>
      rw [List.lookup_cons] at e ⊢
      cases q : f == g' with
      | true =>
        rw [q] at e
        cases e
        exact ⟨v, rfl, s⟩
      | false =>
        rw [q] at e
        exact shs_look h2 r e
theorem de_fld {X : Cx} {c : Ctx} {W : WX} {t : XTab} {Cs Es : List CN} {fs : List Str} {x : Exn} {n f : Str} {p1 pos : Pos} {i : Nat} (T : XT X.K t Cs Es) (FT : FldT X.K t fs) (h : HX X c x) (hx : hasX t x.cls = true) (hm : f ∈ fs) (he : PE X (.Name n p1) (tVar i))
    (hb : attributeBase (.Name n p1) f X.env (eval (.Name n p1) X.env) = eval (.Name n p1) X.env := by rfl) : PE X (.Attribute (.Name n p1) f pos) (lift X.K c W (eX i (x.fs.lookup f))) := by
  obtain ⟨oe, cls, dd, hp, hz, ⟨vs, hv⟩, rc, rf⟩ := h
  subst rc
  have C := T.ec _ hx
  refine ⟨fun pins s σ H Q I q => ?_⟩
  obtain ⟨TT, B, e, st, m⟩ := q
  obtain ⟨hs, d, hd, m⟩ := eX_some st m
  rcases rf with ⟨z, _⟩ | ⟨p, ys, rfl, hB, hn, hr⟩
  · rw [z] at hd
    cases hd
  obtain ⟨v, hl, sh⟩ := shs_look hn hr hd
  refine attr_of hb (thn (he.run pins s σ H (fun w H1 => w = .ref c.exa ∧ H1 = H) I ⟨_, hs, rfl, rfl⟩) fun u s1 hh => ?_)
  obtain ⟨w, H1, I1, rw_, rfl, rfl⟩ := hh
  obtain rfl : u = Value.ref c.exa := rw_
  obtain ⟨ha, _⟩ := I1.pin (c.exa, oe) (List.mem_append_left _ hp)
  have hx' : ObjOk X.prog X.w H1 s1.heap p (.xd ys) := I1.hok p _ (st.bh _ _ (st.b0 _ _ hB))
  obtain ⟨mA, hns, hr'⟩ := hx'
  obtain ⟨od, ho, hlo⟩ := lookIn_ns hns
  obtain ⟨u, hu, ru⟩ := RelO.some_of (v := v) (o := mA f) (by rw [← hl]; exact hr' f)
  have J : PySem.W.InstAt s1.heap c.exa oe (He.ga X.K x.cls) (some od) := ⟨ha, hz.1, by unfold PySem.W.notCls; rw [hv] <;> rfl, by rw [hz.2]; exact ho⟩
  exact HandSPX.exc_get I1.kIn J C.hg C.hk C.hs (PySem.W.findObj_own C.hd (FT _ hx f hm) rfl (by rw [hlo, hu])) (handed_of ru) ⟨v, H1, I1.tok _, ru, m B H1 (Evl.Ex.refl B) st v (RT.of (sh.mono st.b0))⟩
end DL
end

section
set_option maxRecDepth 100000
set_option maxHeartbeats 2000000
/-! raise C(x, ..), C an own class whose own __init__ calls its base's and stores each argument -/
namespace DL
open PySem PySem.Spec PyProof.Rows L2
open Evl (Ex)
/-- what such an __init__ does -/
def spI (C : Addr) (fs : List Str) : Sp := fun vs H Q _ => ∃ (a : Addr) (ys : List V), vs = .ref a :: ys ∧ ys.length = fs.length ∧ fs ≠ [] ∧ H a = some (exo a C none) ∧
  ∀ dx, H dx = none → dx ≠ a → Q .non (upd (upd H dx (exd dx (fs.zip ys).reverse)) a (exo a C (some dx)))
/-- the base, an own class, as it is read for its __init__ -/
structure BaseI (K : PySem.W.Frag) (mg : Str → Option Value) (x : Str) : Prop where
  gl : mg x = some (.ref (He.ga K x))
  sp : PySem.W.specialIn K (.ref (He.ga K x)) "__getattribute__" = some (some (.builtin "type.__getattribute__"))
  rd : PySem.W.readsIn K (He.ga K x) (.type "type") = true
  fd : PySem.W.findCls K (.ref (He.ga K x)) (.type "type") "__init__" = some (.val (.builtin "ValueError.__init__"))
theorem pe_pinit {X : Cx} {e : Expr} {es : List Expr} {ta : TA} {x : Str} {p1 p2 pos : Pos} {pl : Sem Bool} (T : BaseI X.K X.mg x) (hg : Gl X x) (ha : PA X (e :: es) ta) (hdb : (x == ("__debug__" : Str)) = false := by decide)
    (hc : eval (.Call (.Attribute (.Name x p1) "__init__" p2) (e :: es) [] pos) X.env = (do
      let ov ← eval (.Name x p1) X.env
      standAt p2.atName
      let (f, first) ← holding [ov] (getMethod ov "__init__" pl)
      callWith pos f first (backTo pos (starEach (e :: es) X.env)) (backToKw pos (keywordEach [] X.env))) := by rfl)
    (he : starEach (e :: es) X.env = (false, eval e X.env) :: starEach es X.env := by rfl) (hpl : (backTo pos (starEach es X.env)).any (·.1) = false := by rfl) :
    PE X (.Call (.Attribute (.Name x p1) "__init__" p2) (e :: es) [] pos) (tVeI X.K ta) := by
  refine ⟨fun pins s σ H Q I h => ?_⟩
  refine PySem.W.methodCall_KW (ld_glob I hg T.gl ?_ hdb) hc
  refine PySem.W.method_cls I.kIn T.sp (PySem.W.cls_value I.kIn T.rd T.fd (by decide +kernel) ?_)
  show wpAny _ _ (callWith pos (Value.builtin "ValueError.__init__") [] (backTo pos (starEach (e :: es) X.env)) []) _ _ _
  refine PyProof.Rows.callWith_method1 (thn (ha.run pos pins _ σ H _ (I.tok _) h) fun us s1 q => ?_) he hpl
  obtain ⟨vs, H1, I1, r1, a, C, ws, ev, hl, T, ea, q⟩ := q
  subst ev
  cases r1 with
  | @cons _ u0 _ ur ra rw' =>
    obtain rfl : u0 = Value.ref a := ra
    have hlen : ur.length ≤ sizeLine := by
      rw [← Paired.length rw', sizeLine_eq]
      omega
    exact oinit_ok T I1 ea hlen fun s' J => ⟨.non, H1, J, rfl, q⟩
/-- the class x, its own __init__ of the fields fs -/
structure XI (P : Program) (w : World) (K : PySem.W.Frag) (mg : Str → Option Value) (base : Heap) (x : Str) (k : Nat) (fs : List Str) : Prop where
  oc : OexC K (He.ga K x)
  gl : mg x = some (.ref (He.ga K x))
  ini : ∃ (f : Addr) (fd : FuncData) (ps : List Str), FnOk P w K mg base (L2.CX P w) k f fd ps (spI (He.ga K x) fs) ∧ PySem.W.findIn K (.ref (He.ga K x)) "__init__" = some (some (.ref f)) ∧ PySem.W.typeIn K (.ref f) = some (.type "function") ∧ Binds K fd ps []
section
variable {P : Program} {w : World} {K : PySem.W.Frag} {mg : Str → Option Value} {base : Heap}
/-- the body: Base.__init__(self, z), self.g = y -/
abbrev tIni1 (K : PySem.W.Frag) (z g : Str) : TS := tSeq (tDrop (tVeI K (tCons (tVar 0) (tCons (tC (.str z)) tNil)))) (tOst K g (tVar 0) (tVar 1))
abbrev tIni2 (K : PySem.W.Frag) (z g g2 : Str) : TS := tSeq (tDrop (tVeI K (tCons (tVar 0) (tCons (tC (.str z)) tNil)))) (tSeq (tOst K g (tVar 0) (tVar 1)) (tOst K g2 (tVar 0) (tVar 2)))
theorem fn_init1 {C : Addr} {z g qual sf y : Str} {params : Arguments} {body : List Stmt} {scope : Scope} {f : Addr} {fd : FuncData} (F : FunD K "__init__" qual params body scope [] [] f fd)
    (S : FnScope [sf, y] [sf, y] scope) (O : OexC K C) (hno : PySem.W.findIn K (.ref C) g = some none)
    (hb : ∀ (cdv : Value) (A : Around) (outer : List PySem.Env) (s : Shared) (H : Hp) (E : XK), PSs (cxOf (L2.CX P w) P w K mg base [sf, y] qual scope f cdv A outer s H E) body (tIni1 K z g)) :
    FnOk P w K mg base (L2.CX P w) 1 f fd [sf, y] (spI C [g]) := by
  refine F.ok S (fun vs H Q E h => ?_) (fun cdv A outer s H us Q E hr h => ?_)
  · obtain ⟨a, ys, rfl, hl, _⟩ := h
    rw [List.length_cons, hl] <;> rfl
  · obtain ⟨a, ys, rfl, hl, _, ha, q⟩ := h
    obtain ⟨v, rfl⟩ : ∃ v, ys = [v] := match ys, hl with
      | [v], _ => ⟨v, rfl⟩
    refine ⟨_, hb cdv A outer s H E, ?_⟩
    refine ⟨.ref a, rfl, a, C, [.str z], rfl, by simp, O, ha, ?_⟩
    refine ⟨v, rfl, .ref a, rfl, a, C, rfl, O, hno, .inl ⟨ha, fun dx n ne => q dx n ne⟩⟩
theorem fn_init2 {C : Addr} {z g g2 qual sf y y2 : Str} {params : Arguments} {body : List Stmt} {scope : Scope} {f : Addr} {fd : FuncData} (F : FunD K "__init__" qual params body scope [] [] f fd)
    (S : FnScope [sf, y, y2] [sf, y, y2] scope) (O : OexC K C) (hno : PySem.W.findIn K (.ref C) g = some none) (hno2 : PySem.W.findIn K (.ref C) g2 = some none)
    (hb : ∀ (cdv : Value) (A : Around) (outer : List PySem.Env) (s : Shared) (H : Hp) (E : XK), PSs (cxOf (L2.CX P w) P w K mg base [sf, y, y2] qual scope f cdv A outer s H E) body (tIni2 K z g g2)) :
    FnOk P w K mg base (L2.CX P w) 1 f fd [sf, y, y2] (spI C [g, g2]) := by
  refine F.ok S (fun vs H Q E h => ?_) (fun cdv A outer s H us Q E hr h => ?_)
  · obtain ⟨a, ys, rfl, hl, _⟩ := h
    rw [List.length_cons, hl] <;> rfl
  · obtain ⟨a, ys, rfl, hl, _, ha, q⟩ := h
    obtain ⟨v, v2, rfl⟩ : ∃ v v2, ys = [v, v2] := match ys, hl with
      | [v, v2], _ => ⟨v, v2, rfl⟩
    refine ⟨_, hb cdv A outer s H E, ?_⟩
    refine ⟨.ref a, rfl, a, C, [.str z], rfl, by simp, O, ha, ?_⟩
    refine ⟨v, rfl, .ref a, rfl, a, C, rfl, O, hno, .inl ⟨ha, fun dx n ne => ?_⟩⟩
    refine ⟨v2, rfl, .ref a, rfl, a, C, rfl, O, hno2, .inr ⟨dx, [(g, v)], upd_same, by rw [upd_ne ne, upd_same], by simp, ?_⟩⟩
    have e : upd (upd (upd H dx (exd dx [(g, v)])) a (exo a C (some dx))) dx (exd dx [(g2, v2), (g, v)]) = upd (upd H dx (exd dx [(g2, v2), (g, v)])) a (exo a C (some dx)) := by
      funext b
      by_cases b1 : b = dx
      · rw [b1, upd_same, upd_ne ne, upd_same]
      · rw [upd_ne b1]
        by_cases b2 : b = a
        · rw [b2, upd_same, upd_same]
        · rw [upd_ne b2, upd_ne b2, upd_ne b1, upd_ne b1]
    rw [e]
    exact q dx n ne
end
/-- raise x(..), the fields fs -/
def sRaiseN (x : Str) (fs : List Str) (f : M (List D)) : M Fl := mbind f fun ds => fun e => if ds.all isSh = true ∧ ds.length = fs.length ∧ ds.length ≤ 1000 then .ex ⟨x, (fs.zip ds).reverse⟩ e else .no
theorem map_fst_zip' {α : Type} : ∀ {fs : List Str} {ys : List α}, ys.length = fs.length → (fs.zip ys).map (·.1) = fs
  | [], [], _ => rfl
  | f :: fs, y :: ys, h => by
    rw [List.zip_cons_cons, List.map_cons, map_fst_zip' (Nat.succ.inj h)]
theorem map_snd_zip' {α : Type} : ∀ {fs : List Str} {ys : List α}, ys.length = fs.length → (fs.zip ys).map (·.2) = ys
  | [], [], _ => rfl
  | f :: fs, y :: ys, h => by
    rw [List.zip_cons_cons, List.map_cons, map_snd_zip' (Nat.succ.inj h)]
theorem Shs.rev {K : PySem.W.Frag} {B : Hp} : ∀ {ds : List D} {vs : List V}, Shs K B ds vs → Shs K B ds.reverse vs.reverse
  | _, _, .nil => .nil
  | _, _, .cons h r => by
    rw [List.reverse_cons, List.reverse_cons]
    exact Shs.append (Shs.rev r) (.cons h .nil)
theorem ds_raiseN {X : Cx} {c : Ctx} {W : WX} {k kf : Nat} {x : Str} {fs : List Str} {e : Expr} {es : List Expr} {fa : M (List D)} {p pos pos' : Pos} (b : Bx X W k) (T : XI X.prog X.w X.K X.mg X.base x kf fs) (hk : kf + 1 ≤ k) (hf : fs ≠ []) (hg : Gl X x)
    (ha : PA X (e :: es) (liftA X.K c W fa)) (hdb : (x == ("__debug__" : Str)) = false := by decide) (he : starEach (e :: es) X.env = (false, eval e X.env) :: starEach es X.env := by rfl) (hpl : (backTo pos (starEach es X.env)).any (·.1) = false := by rfl) :
    PS X (.Raise (some (.Call (.Name x p) (e :: es) [] pos)) none pos') (liftS X.K c W (sRaiseN x fs fa)) := by
  obtain ⟨f, fd, ps, F1, F2, F3, F4⟩ := T.ini
  have hx : Passes (L2.CX X.prog X.w) X (fun _ _ _ => False) := fun _ _ _ _ _ _ _ ⟨_, _, _, _, _, _, _, _, _, _, _, _, z⟩ => z.elim
  refine PS_of (ps_raise b.calm b.tk (pmk_oex T.oc F2 F3 F1 (b.room.mono hk) F4 .nil hx hg T.gl ha hdb he hpl)) fun Dn σ H q => ?_
  obtain ⟨B, e0, st, m⟩ := q
  refine ⟨[], B, e0, st, (Pst.go (σ := σ) (show SEnd X.K c W B Dn ((fa e0).bind _) from m)).imp fun ds e1 B1 H1 x1 m1 st1 us ru => ?_⟩
  have m1 : SEnd X.K c W B1 Dn (if ds.all isSh = true ∧ ds.length = fs.length ∧ ds.length ≤ 1000 then .ex ⟨x, (fs.zip ds).reverse⟩ e1 else .no) := m1
  by_cases hc : ds.all isSh = true ∧ ds.length = fs.length ∧ ds.length ≤ 1000
  · rw [if_pos hc] at m1
    obtain ⟨h1, h2, h3⟩ := hc
    have lu : us.length = fs.length := ru.length.symm.trans h2
    refine ⟨by rw [← ru.length]; exact h3, fun a na => ⟨a, us, by rw [List.append_nil], lu, hf, upd_same, fun dx hd hne => ?_⟩⟩
    rw [upd_ne hne] at hd
    refine ⟨rfl, dx, (fs.zip us).reverse, upd_same, by rw [upd_ne hne, upd_same], hd, ?_⟩
    have eH : upd (del (upd (upd (upd H1 a (exo a (He.ga X.K x) none)) dx (exd dx (fs.zip us).reverse)) a (exo a (He.ga X.K x) (some dx))) a) dx (.xd (fs.zip us).reverse) = upd H1 dx (.xd (fs.zip us).reverse) := by
      funext z
      by_cases z1 : z = dx
      · rw [z1, upd_same, upd_same]
      · rw [upd_ne z1, upd_ne z1]
        by_cases z2 : z = a
        · rw [z2, del_same, na]
        · rw [del_ne z2, upd_ne z2, upd_ne z1, upd_ne z2]
    rw [eH]
    have g := Grow.new st1.bh (HO.xd (fs.zip us).reverse) hd
    refine m1 (.ref (He.ga X.K x)) (some dx) σ _ _ g.b (st1.grow g) ⟨rfl, .inr ⟨dx, (fs.zip us).reverse, rfl, upd_same, ?_, ?_⟩⟩
    · show (fs.zip us).reverse.map (·.1) = (fs.zip ds).reverse.map (·.1)
      rw [List.map_reverse, List.map_reverse, map_fst_zip' lu, map_fst_zip' h2]
    · show Shs X.K _ ((fs.zip ds).reverse.map (·.2)) ((fs.zip us).reverse.map (·.2))
      rw [List.map_reverse, List.map_reverse, map_snd_zip' lu, map_snd_zip' h2]
      exact ((ru.shs h1).mono g.b).rev
  · rw [if_neg hc] at m1
    exact m1.elim
/-! ### the head's facts -/
def oexB (K : PySem.W.Frag) (C : Addr) : Bool := (match K.lookup C with
  | some ⟨.type "type", _, .cls cd, sl⟩ => (match cd.mro, sl.toList with
    | .ref C' :: bm, [_, _, _, _, some (.builtin n), _] => C' == C && n == "ValueError.__new__" && cd.hasDict && !cd.hasDel && PySem.HandSPX.refsVE bm
    | _, _ => false)
  | _ => false) && (decide (PySem.W.findIn K (.ref C) "__setattr__" = some (some (.builtin "object.__setattr__"))) &&
  (decide (PySem.W.subIn K (.ref C) (.type "BaseException") = some true) && (decide (PySem.W.typeIn K (.ref C) = some (.type "type")) && PySem.W.keepIn K (.ref C))))
theorem oexB_ok {K : PySem.W.Frag} {C : Addr} (h : oexB K C = true) : OexC K C := by
  unfold oexB at h
  obtain ⟨h1, h2⟩ := He.ba h
  obtain ⟨h2, h3⟩ := He.ba h2
  obtain ⟨h3, h4⟩ := He.ba h3
  obtain ⟨h4, h5⟩ := He.ba h4
  refine ⟨?_, of_decide_eq_true h2, of_decide_eq_true h3, of_decide_eq_true h4, h5⟩
  split at h1
  · rename_i dd cd sl ho
    split at h1
    · rename_i C' bm k0 k1 k2 k3 n k5 hm hs
      simp only [Bool.and_eq_true, beq_iff_eq, Bool.not_eq_true'] at h1
      obtain ⟨⟨⟨⟨rfl, rfl⟩, hd⟩, hdel⟩, hr⟩ := h1
      obtain ⟨nm, bs, mro, ns, qn, hd', sn, sub, ab, col, del⟩ := cd
      dsimp only at hm hdel hd
      subst hm hdel hd
      have hsl : sl = #[k0, k1, k2, k3, some (.builtin "ValueError.__new__"), k5] := by
        obtain ⟨l⟩ := sl
        simp only at hs
        rw [hs]
      subst hsl
      exact ⟨nm, qn, ns, bs, bm, sn, sub, ab, col, dd, k0, k1, k2, k3, k5, ho, hr⟩
    · cases h1
  · cases h1
def baseB (x : Str) (K : PySem.W.Frag) : Bool := decide (PySem.W.specialIn K (.ref (He.ga K x)) "__getattribute__" = some (some (.builtin "type.__getattribute__"))) &&
  (PySem.W.readsIn K (He.ga K x) (.type "type") && (match PySem.W.findCls K (.ref (He.ga K x)) (.type "type") "__init__" with
    | some (.val (.builtin n)) => n == "ValueError.__init__"
    | _ => false))
theorem baseB_ok {K : PySem.W.Frag} {mg : Str → Option Value} {x : Str} (h : baseB x K = true) (hg : mg x = some (.ref (He.ga K x))) : BaseI K mg x := by
  unfold baseB at h
  obtain ⟨h1, h2⟩ := He.ba h
  obtain ⟨h2, h3⟩ := He.ba h2
  refine ⟨hg, of_decide_eq_true h1, h2, ?_⟩
  split at h3
  · rename_i n e
    rw [e, eq_of_beq h3]
  · cases h3
/-- the class x, its own __init__, the fields that no class has -/
def inB (x : Str) (fs : List Str) (K : PySem.W.Frag) : Bool := oexB K (He.ga K x) && (decide (PySem.W.findIn K (.ref (He.ga K x)) "__init__" = some (some (.ref (He.fAd K (x, some "__init__"))))) &&
  (decide (PySem.W.typeIn K (.ref (He.fAd K (x, some "__init__"))) = some (.type "function")) && fs.all fun f => decide (PySem.W.findIn K (.ref (He.ga K x)) f = some none)))
structure InX (K : PySem.W.Frag) (mg : Str → Option Value) (x : Str) (fs : List Str) : Prop where
  oc : OexC K (He.ga K x)
  gl : mg x = some (.ref (He.ga K x))
  i : PySem.W.findIn K (.ref (He.ga K x)) "__init__" = some (some (.ref (He.fAd K (x, some "__init__"))))
  t : PySem.W.typeIn K (.ref (He.fAd K (x, some "__init__"))) = some (.type "function")
  no : ∀ f ∈ fs, PySem.W.findIn K (.ref (He.ga K x)) f = some none
theorem inB_ok {K : PySem.W.Frag} {mg : Str → Option Value} {x : Str} {fs : List Str} (h : inB x fs K = true) (hg : mg x = some (.ref (He.ga K x))) : InX K mg x fs := by
  unfold inB at h
  obtain ⟨h1, h2⟩ := He.ba h
  obtain ⟨h2, h3⟩ := He.ba h2
  obtain ⟨h3, h4⟩ := He.ba h3
  exact ⟨oexB_ok h1, hg, of_decide_eq_true h2, of_decide_eq_true h3, fun f m => of_decide_eq_true (List.all_eq_true.mp h4 f m)⟩
end DL
end

section
set_option maxRecDepth 100000
set_option maxHeartbeats 2000000
/-! a def of plain arguments, called while an exception is handled (no exception leaves it) -/
namespace DL
open PySem PySem.Spec PyProof.Rows L2
open Evl (Ex)
/-- the def at f keeps sp, whatever is handled -/
def FnP1 (P : Program) (w : World) (K : PySem.W.Frag) (mg : Str → Option Value) (base : Heap) (k : Nat) (f : Addr) (fd : FuncData) (ps : List Str) (sp : Sp) : Prop :=
  ∀ (A : Around) (outer : List PySem.Env) (s : Shared) (H : Hp) (args : Args) (us : List Value) (vs : List V) (Q : VK) (p : Addr × Obj), vs.length = ps.length → L2H.RoomH k A → L2H.PinOk outer H s p →
    Env0 P w K mg base A outer s H → BindsTo s fd args (ps.zip us) → Vals vs us → sp vs H Q (fun _ _ _ => False) → codeAny (model P w) A (.call (.ref f) args) (CR (L2.CX P w) outer P w H s Q fun _ _ _ => False) s
section
variable {P : Program} {w : World} {K : PySem.W.Frag} {mg : Str → Option Value} {base : Heap}
theorem fn_P {x qual : Str} {params : Arguments} {body : List Stmt} {scope : Scope} {dvs : List V} {kws : List (Str × V)} {f : Addr} {fd : FuncData} {N ps : List Str} {k n : Nat} {g : M Fl} (F : FunD K x qual params body scope dvs kws f fd) (S : FnScope N ps scope) (hn : ps.length = n) (hN : ps.length ≤ N.length)
    (hb : ∀ (cdv : Value) (A : Around) (outer : List PySem.Env) (s : Shared) (H : Hp) (E : XK) (q : Addr × Obj) (c : Ctx), L2H.RoomH k (L2H.cxH (L2.CX P w) P w K mg base N qual scope f cdv A outer s H E q).A →
      PSs (L2H.cxH (L2.CX P w) P w K mg base N qual scope f cdv A outer s H E q) body (liftS K c W0 g)) :
    FnP1 P w K mg base (k + 1) f fd ps (spF K n (runF N.length g)) := by
  subst hn
  intro A outer s H args us vs Q p hl hr hpin e0 hbd rv hsp
  obtain ⟨oc, od, dV, kV, doc, pm, an, cdv, ct, osl, rfl, lk, hcd, _, _⟩ := F.ex
  have keep0 : ∀ b o, base.get? b = some o → s.heap.get? b = some o := fun b o e => (e0.bs b o e).1
  have KX := e0.mod.kin.keeps keep0
  refine codeAny_call_function (L2H.RoomH.depth hr) (KX _ _ lk) rfl S.co S.gen rfl (PySem.W.codeRec_of KX hcd) (hbd _ _ _ _ ?_)
  refine wpAny_newFunctionEnv_cells S.kind (fun z hz => ?_) fun env he s1 ic => ?_
  · obtain ⟨y, v⟩ := z
    exact (S.par y (List.of_mem_zip hz).1).elim .inl fun q => .inr ⟨q, PySem.W.cellsFrom_some _ _ _ (.inl q)⟩
  subst he
  refine ⟨(e0.mod.nolimit.keeps keep0).keeps ic.toInCall.keep, codeAny_func ?_⟩
  have I := L2H.inv_startH (CX := L2.CX P w) (cd := cdv) (E := fun _ _ _ => False) S hpin e0 hl rv ic
  obtain ⟨B, ds, fp, a, hd, m⟩ := hsp
  -- what the body leads to
  have post : SEnd K { vs := vs, B0 := B, H0 := H, fp0 := fp } W0 B { nx := fun _ H' => Q .non H', rt := Q } (g (ds.map some ++ List.replicate (N.length - ds.length) none)) := by
    unfold runF at m
    revert m
    generalize g (ds.map some ++ List.replicate (N.length - ds.length) none) = r
    intro m
    cases r with
    | no => exact m
    | ex y e =>
      by_cases hb : borOk ds e = true
      · rw [endF, if_pos hb] at m
        exact fun cls dd σ' B' H' x st rx => by
          obtain ⟨fp', o⟩ := outs_ok a st hb
          exact m cls dd B' H' fp' (after_ok st) rx o
      · rw [endF, if_neg hb] at m
        exact m.elim
    | ok fl e => cases fl with
      | nx =>
        by_cases hb : borOk ds e = true
        · rw [endF, if_pos hb] at m
          exact fun σ' B' H' x st => by
            obtain ⟨fp', o⟩ := outs_ok a st hb
            exact m .non B' H' fp' (after_ok st) .non o
        · rw [endF, if_neg hb] at m
          exact m.elim
      | rt d =>
        by_cases hb : borOk ds e = true
        · rw [endF, if_pos hb] at m
          exact fun v σ' B' H' x st sh => by
            obtain ⟨fp', o⟩ := outs_ok a st hb
            exact m v B' H' fp' (after_ok st) sh o
        · rw [endF, if_neg hb] at m
          exact m.elim
      | bk => exact m.elim
      | ct => exact m.elim
  have run := (hb cdv A outer s H (fun _ _ _ => False) p _ (hr.deeper _)).run [] s1 (L2.start N vs) H _ I ⟨B, _, start_ok a (by omega), post⟩
  refine wpAny_mono run (fun fl s' q => ?_) fun _ _ q => q
  cases fl with
  | ret u => exact q.elim fun v q => q.elim fun σ' q => q.elim fun H' q => ⟨v, H', q.1.os, q.1.bare, q.1.base, q.1.hok, q.2.1, q.2.2⟩
  | next => exact q.elim fun σ' q => q.elim fun H' q => ⟨V.non, H', q.1.os, q.1.bare, q.1.base, q.1.hok, rfl, q.2⟩
  | brk => exact (q.elim fun _ q => q.elim fun _ q => q.2).elim
  | cont => exact (q.elim fun _ q => q.elim fun _ q => q.2).elim
end
/-- the def x computes F on n arguments, whatever is handled -/
def FnP (P : Program) (w : World) (K : PySem.W.Frag) (mg : Str → Option Value) (base : Heap) (x : Str) (k n : Nat) (F : List D → Rs D) : Prop :=
  ∃ (f : Addr) (fd : FuncData) (ps : List Str), FnP1 P w K mg base k f fd ps (spF K n F) ∧ ps.length = n ∧ mg x = some (.ref f) ∧ PySem.W.keepIn K (.ref f) = true ∧ Binds K fd ps []
def eCallP (n : Nat) (F : List D → Rs D) (fs : M (List D)) : M D := mbind fs fun ds => eAt n F ds
theorem de_fnP {X : Cx} {c : Ctx} {W : WX} {k kf n : Nat} {x : Exn} {y : Str} {p pos : Pos} {e : Expr} {es : List Expr} {fs : M (List D)} {F : List D → Rs D} (Fe : FnP X.prog X.w X.K X.mg X.base y kf n F) (h : HX X c x) (R : L2H.RoomH k X.A) (hk : kf ≤ k) (hg : Gl X y)
    (ha : PA X (e :: es) (liftA X.K c W fs)) (hdb : (y == ("__debug__" : Str)) = false := by decide) (he : starEach (e :: es) X.env = (false, eval e X.env) :: starEach es X.env := by rfl) (hpl : (backTo pos (starEach es X.env)).any (·.1) = false := by rfl) :
    PE X (.Call (.Name y p) (e :: es) [] pos) (lift X.K c W (eCallP n F fs)) := by
  obtain ⟨f, fd, ps, F1, F2, F3, F4, F5⟩ := Fe
  obtain ⟨oe, cls, dd, hp, _⟩ := h
  refine ⟨fun pins s σ H Q I q => ?_⟩
  obtain ⟨T, B, e0, st, m⟩ := q
  refine wpAny_Call_Name_kw (ld_glob I hg F3 ?_ hdb)
  refine PySem.W.callWith_K (h₀ := X.base) I.ok.mod.kin F4 (thn (ha.run pos pins s σ H _ I ⟨T, B, e0, st, m.bind.imp fun ds e1 B1 H1 x1 m1 st1 vs rv => (show spF X.K n F vs H1 Q (fun _ _ _ => False) from at_core st1 rv m1)⟩) fun us s1 z => ⟨z.elim fun _ z => z.elim fun _ z => z.1.kIn, ?_⟩) he hpl
  obtain ⟨vs, H1, I1, r, sp⟩ := z
  have hl : vs.length = ps.length := by
    obtain ⟨_, ds, _, a, hd, _⟩ := sp
    rw [a.len, hd, F2]
  have bnd := F5 s1 us I1.kIn (by rw [List.append_nil, ← r.length]; exact hl)
  rw [List.append_nil] at bnd
  have pin := I1.pin _ (List.mem_append_left _ hp)
  have pk : L2H.PinOk X.stack H1 s1 (c.exa, oe) := ⟨pin.1, pin.2.1, fun hm => (List.mem_cons.mp (I1.stkSub c.exa hm)).elim pin.2.2.1 pin.2.2.2.1, pin.2.2.2.2⟩
  refine wpAny_call (codeAny_mono (F1 X.A X.stack s1 H1 ⟨us, []⟩ us vs Q _ hl (R.mono hk) pk I1.env0 bnd r sp) fun r s' hq => ?_)
  cases r with
  | error u => exact (hq.elim fun _ z => z.elim fun _ z => z.elim fun _ z => z.elim fun _ z => z.elim fun _ z => z.2.2.2.2.2.2.2).elim
  | ok fl => cases fl with
    | ret u => exact I1.after hq
    | next => exact hq.elim
    | brk => exact hq.elim
    | cont => exact hq.elim
end DL
end

section
set_option maxRecDepth 100000
set_option maxHeartbeats 2000000
/-! a step range; list(tuple); a call that gives a list of one's own; a walk over a list that a slot owns -/
namespace DL
open PySem L2
open Evl (Ex)

section
variable {X : Cx} {c : Ctx} {W : WX} {K : PySem.W.Frag}
/-! ### range(i, j, -1) -/
theorem it_rangeC {B0 : Hp} {lo : Int} {n : Nat} : ItOk K B0 (Itc lo (-1) n) ((List.range n).map fun i : Nat => D.int (lo - (i : Int))) where
  go := fun i B H _ _ hi => by
    have hi : i < n := by simpa using hi
    exact hi
  stop := fun i B H _ _ hi => by
    have hi : n ≤ i := by simpa using hi
    exact hi
  yld := fun i B H x H' e1 e2 hi hy => by
    obtain ⟨rfl, rfl⟩ := hy
    have hi : i < n := by simpa using hi
    have e : lo + (i : Int) * (-1) = lo - (i : Int) := by omega
    rw [e]
    exact ⟨B, .int (lo - i), Grow.refl e2, by simp [hi], .int _⟩
def eRange3 (fs : M (List D)) : M (List D) := mbind fs fun ds => mopt (rgOf3 ds)
theorem di_range3 {tg a b d : Expr} {fs : M (List D)} {p pos : Pos} (hg : Gl X "range") (hm : X.mg "range" = none) (ha : PA X [a, b, d] (liftA X.K c W fs))
    (hs : starEach [a, b, d] X.env = (false, eval a X.env) :: starEach [b, d] X.env := by rfl) (hpl : (backTo pos (starEach [b, d] X.env)).any (·.1) = false := by rfl) :
    PI X tg (.Call (.Name "range" p) [a, b, d] [] pos) (liftI X.K c W (eRange3 fs)) :=
  PI_of (pi_range3 hg hm ha hs hpl) fun σ H R q => by
    obtain ⟨T, B, e, st, m⟩ := q
    refine ⟨T, B, e, st, m.bind.imp fun ds e1 B1 H1 x1 m1 st1 vs rv => ?_⟩
    have m1 : Pst X.K c T W σ B1 (mopt (rgOf3 ds) e1) _ := m1
    cases q : rgOf3 ds with
    | none =>
      rw [q] at m1
      exact m1.elim
    | some xs =>
      rw [q] at m1
      have m2 : Pst X.K c T W σ B1 (.ok xs e1) _ := m1
      unfold rgOf3 at q
      split at q
      · rename_i i j k
        by_cases hj : -1000000 ≤ i ∧ i ≤ 1000000 ∧ -1000000 ≤ j ∧ j ≤ 1000000 ∧ k = -1
        · rw [if_pos hj] at q
          cases q
          obtain ⟨v, us, rfl, r1, v', us', rfl, r2, v'', us'', rfl, r3, r4⟩ := rv
          cases (show _ = _ from r4)
          cases (show Sh X.K B1 (.int i) v from r1)
          cases (show Sh X.K B1 (.int j) v' from r2)
          cases (show Sh X.K B1 (.int k) v'' from r3)
          obtain ⟨h1, h2, h3, h4, rfl⟩ := hj
          exact ⟨i, j, -1, _, rfl, RgC.neg (by omega) (by omega) (by omega) (by omega), m2 B1 H1 (Evl.Ex.refl _) st1 _ it_rangeC⟩
        · rw [if_neg hj] at q
          cases q
      · cases q

/-! ### list(t) of a tuple -/
theorem call_listT : CallR X (.type "list") (fun xs H Q => ∃ p ys, xs = [.ref p] ∧ SqT X.K H p ys ∧ ∀ l, H l = none → Q (.ref l) (upd H l (.lst ys))) := by
  intro pins s σ H xs us Q I r h
  obtain ⟨p, ys, rfl, hq, q⟩ := h
  obtain ⟨u, rfl, rx⟩ := vals1 r
  cases rx
  obtain ⟨its, r', ⟨o, ho, hc, n, hd⟩, hz⟩ := I.tuple hq
  have hlen := r'.length
  refine call_list_seq (hsz := by rw [List.size_toArray]; omega) p (.inr rfl) ho hc hd fun h' c' hk hD => ?_
  have I2 : Inv X pins σ (upd H s.heap.objs.size (.lst ys)) { s with heap := h' } :=
    I.laid (t' := s.toks) hk (Nat.le_refl _) (show ObjOk X.prog X.w _ _ _ (.lst ys) from ⟨hz, its, c', r', hD⟩)
  exact ⟨.ref s.heap.objs.size, _, I2, rfl, q _ (I.hok.fresh (Nat.le_refl _))⟩
def dListT : List D → Option D
  | [.tup xs] => some (.lst xs)
  | _ => none
theorem ok_listT : CallD K (fun xs H Q => ∃ p ys, xs = [.ref p] ∧ SqT K H p ys ∧ ∀ l, H l = none → Q (.ref l) (upd H l (.lst ys))) dListT := by
  intro B H ds vs z Q e r ho k
  unfold dListT at ho
  split at ho
  · rename_i xs
    cases ho
    obtain ⟨v, rfl, h⟩ := rss1 r
    obtain ⟨a, us, rfl, h1, h2⟩ := tsq_ok e h (show tsq (.tup xs) = some xs from rfl)
    refine ⟨a, us, rfl, h1, fun l hl => ?_⟩
    have g := Grow.new e (.lst us) hl
    exact k _ _ _ g (.lst upd_same (h2.mono g.b))
  · cases ho
end

/-! ### data without lists -/
mutual
def lf : D → Bool
  | .non => true
  | .bl _ => true
  | .int _ => true
  | .str _ => true
  | .tup xs => lfs xs
  | _ => false
def lfs : List D → Bool
  | [] => true
  | d :: ds => lf d && lfs ds
end
section
variable {K : PySem.W.Frag} {B B' : Hp}
mutual
theorem Sh.lf_go (t : ∀ a xs, SqT K B a xs → SqT K B' a xs) : ∀ {d : D} {v : V}, Sh K B d v → lf d = true → Sh K B' d v
  | _, _, .non, _ => .non
  | _, _, .bl b, _ => .bl b
  | _, _, .int i, _ => .int i
  | _, _, .str s, _ => .str s
  | _, _, .ty n, f => absurd f (by simp [lf])
  | _, _, .ref a, f => absurd f (by simp [lf])
  | _, _, .tup h r, f => .tup (t _ _ h) (Shs.lf_go t r (by simpa [lf] using f))
  | _, _, .lst h r, f => absurd f (by simp [lf])
  | _, _, .klst h r, f => absurd f (by simp [lf])
theorem Shs.lf_go (t : ∀ a xs, SqT K B a xs → SqT K B' a xs) : ∀ {ds : List D} {vs : List V}, Shs K B ds vs → lfs ds = true → Shs K B' ds vs
  | _, _, .nil, _ => .nil
  | _, _, .cons h r, f => by
    have f := (Bool.and_eq_true _ _).mp (by simpa only [lfs] using f)
    exact .cons (Sh.lf_go t h f.1) (Shs.lf_go t r f.2)
end
theorem lf_sh {d : D} (h : lf d = true) : isSh d = true := by
  cases d <;> first | rfl | simp [lf] at h
theorem lfs_sh : ∀ {ds : List D}, lfs ds = true → ds.all isSh = true
  | [], _ => rfl
  | d :: ds, h => by
    have h := (Bool.and_eq_true _ _).mp (by simpa only [lfs] using h)
    rw [List.all_cons, lf_sh h.1, lfs_sh h.2]
    rfl
theorem lfs_at : ∀ {ds : List D} {i : Nat} {d : D}, lfs ds = true → ds[i]? = some d → lf d = true
  | [], _, _, _, e => by simp at e
  | x :: ds, 0, d, h, e => by
    simp at e
    subst e
    exact ((Bool.and_eq_true _ _).mp (by simpa only [lfs] using h)).1
  | x :: ds, i + 1, d, h, e => lfs_at (i := i) ((Bool.and_eq_true _ _).mp (by simpa only [lfs] using h)).2 (by simpa using e)
/-- the ghost without its lists -/
def noL (B : Hp) : Hp := fun a => match B a with
  | some (.lst _) => none
  | o => o
theorem noL_some {a : Addr} {o : HO} (h : noL B a = some o) : B a = some o := by
  unfold noL at h
  split at h
  · cases h
  · exact h
theorem noL_of {a : Addr} {o : HO} (h : B a = some o) (n : ∀ xs, o ≠ .lst xs) : noL B a = some o := by
  unfold noL
  rw [h]
  split
  · rename_i q
    cases q
    exact absurd rfl (n _)
  · rfl
theorem noL_none {a : Addr} (h : B a = none) : noL B a = none := by
  unfold noL
  rw [h]
theorem noL_t {a : Addr} {xs : List V} (h : SqT K B a xs) : SqT K (noL B) a xs := by
  rcases h with (h | ⟨o, h⟩) | h
  · exact .inl (.inl (noL_of h fun _ z => nomatch z))
  · exact .inl (.inr ⟨o, noL_of h fun _ z => nomatch z⟩)
  · exact .inr h
end

/-! ### a call that gives a list of one's own -/
def eCallF (n : Nat) (F : List D → Rs D) (fs : M (List D)) : M (List D) := mbind fs fun ds => fun e => if ds.length = n ∧ lfs ds = true then
    match F ds with
    | .ok (.lst zs) _ => if lfs zs = true then .ok zs e else .no
    | _ => .no
  else .no
section
variable {X : Cx} {c : Ctx} {W : WX} {k kf n : Nat} {x : Str} {p pos : Pos} {e : Expr} {es : List Expr} {fs : M (List D)} {Fm : List D → Rs D}
theorem callF_conv : ∀ σ H Q, liftF X.K c W (eCallF n Fm fs) σ H Q → tCallS (spF X.K n Fm) (WE W) (liftA X.K c W fs) σ H Q := fun σ H Q q => by
  obtain ⟨T, B, e, st, m⟩ := q
  refine ⟨T, B, e, st, m.bind.imp fun ds e1 B1 H1 x1 m1 st1 vs rv => ?_⟩
  have m1 : Pst X.K c T W σ B1 (if ds.length = n ∧ lfs ds = true then
    match Fm ds with
    | .ok (.lst zs) _ => if lfs zs = true then .ok zs e1 else .no
    | _ => .no
  else .no) _ := m1
  by_cases hc : ds.length = n ∧ lfs ds = true
  · rw [if_pos hc] at m1
    have shs : Shs X.K B1 ds vs := rv.shs (lfs_sh hc.2)
    have shs2 : Shs X.K (noL B1) ds vs := shs.lf_go (fun _ _ => noL_t) hc.2
    have exn : Ex (noL B1) B1 := fun a o h => noL_some h
    refine ⟨noL B1, ds, fun _ => [], ⟨exn.trans st1.bh, shs.length.symm, fun i d hd => ?_, fun _ _ => rfl, fun _ => List.nodup_nil, fun _ _ _ _ h => (nomatch h), fun i xs h => ?_, fun i j h => ?_⟩, hc.1, ?_⟩
    · obtain ⟨v, hv, sh⟩ := shs2.get hd
      exact ⟨v, hv, .sh sh⟩
    · have := lfs_at hc.2 h
      simp [lf] at this
    · have := lfs_at hc.2 h
      simp [lf] at this
    · generalize Fm ds = r at m1 ⊢
      cases r with
      | no => exact m1.elim
      | ex y o => exact m1.elim
      | ok d o =>
        cases d with
        | lst zs =>
          intro v B' H' fp' af sh _
          have m1 : Pst X.K c T W σ B1 (if lfs zs = true then .ok zs e1 else .no) _ := m1
          by_cases hz : lfs zs = true
          · rw [if_pos hz] at m1
            cases sh with
            | @lst a us _ h r =>
              have hk : ∀ b o, H1 b = some o → H' b = some o := fun b o q => af.keep b o (fun ⟨i, z⟩ => nomatch z) q
              -- the list is new
              have fr : H1 a = none := by
                cases q : H1 a with
                | none => rfl
                | some o =>
                  exfalso
                  have ne : H1 a ≠ none := by rw [q]; exact fun z => nomatch z
                  cases qb : B1 a with
                  | none =>
                    have := af.old a ne (noL_none qb)
                    rw [h] at this
                    cases this
                  | some u =>
                    by_cases hl : ∃ ws, u = .lst ws
                    · obtain ⟨ws, rfl⟩ := hl
                      have : noL B1 a = none := by unfold noL; rw [qb]
                      have := af.old a ne this
                      rw [h] at this
                      cases this
                    · have hu := noL_of qb fun ws z => hl ⟨ws, z⟩
                      have := af.b a u hu
                      rw [h] at this
                      cases this
                      exact hl ⟨us, rfl⟩
              have ba : B1 a = none := none_ex st1.bh fr
              let B2 : Hp := fun b => if b = a then none else match B1 b with
                | some o => some o
                | none => B' b
              have B2a : B2 a = none := if_pos rfl
              have B2of : ∀ b o, b ≠ a → B' b = some o → B2 b = some o := fun b o hb q => by
                show (if b = a then none else match B1 b with
                  | some o => some o
                  | none => B' b) = some o
                rw [if_neg hb]
                cases q1 : B1 b with
                | none => exact q
                | some u =>
                  have h1 := hk b u (st1.bh b u q1)
                  rw [af.bh b o q] at h1
                  exact h1.symm
              have B2some : ∀ b o, B1 b = some o → B2 b = some o := fun b o q => by
                have hb : b ≠ a := fun z => by
                  rw [z, ba] at q
                  cases q
                show (if b = a then none else match B1 b with
                  | some o => some o
                  | none => B' b) = some o
                rw [if_neg hb, q]
              have B2sub : ∀ b o, B2 b = some o → H' b = some o := fun b o q => by
                have q : (if b = a then none else match B1 b with
                  | some o => some o
                  | none => B' b) = some o := q
                by_cases hb : b = a
                · rw [if_pos hb] at q
                  cases q
                · rw [if_neg hb] at q
                  cases q1 : B1 b with
                  | none =>
                    rw [q1] at q
                    exact af.bh b o q
                  | some u =>
                    rw [q1] at q
                    cases q
                    exact hk b _ (st1.bh b _ q1)
              have g : Grow B1 (upd H1 a (.lst us)) B2 H' := ⟨B2some, fun b o q => by
                by_cases hb : b = a
                · subst hb
                  rw [upd_same] at q
                  cases q
                  exact af.bh _ _ h
                · rw [upd_ne hb] at q
                  exact hk b o q, B2sub, fun b nb => by
                by_cases hb : b = a
                · subst hb
                  rw [B2a, ba]
                · rw [upd_ne hb] at nb
                  cases q1 : B1 b with
                  | some u => exact B2some b u q1
                  | none =>
                    show (if b = a then none else match B1 b with
                      | some o => some o
                      | none => B' b) = none
                    rw [if_neg hb, q1]
                    exact af.old b nb (noL_none q1)⟩
              have rz : Shs X.K B2 zs us := r.lf_go (fun b xs q => by
                rcases q with (q | ⟨o, q⟩) | q
                · refine .inl (.inl (B2of b _ (fun z => ?_) q))
                  rw [z, h] at q
                  cases q
                · refine .inl (.inr ⟨o, B2of b _ (fun z => ?_) q⟩)
                  rw [z, h] at q
                  cases q
                · exact .inr q) hz
              exact m1 B2 H' g.b a us ((st1.fresh fr _).grow g) rz
          · rw [if_neg hz] at m1
            exact m1.elim
        | _ => exact m1.elim
  · rw [if_neg hc] at m1
    exact m1.elim
theorem de_fnF (b : Bx X W k) (F : Fn X.prog X.w X.K X.mg X.base x kf n Fm) (hk : kf ≤ k) (hg : Gl X x) (ha : PA X (e :: es) (liftA X.K c W fs)) (hdb : (x == ("__debug__" : Str)) = false := by decide)
    (he : starEach (e :: es) X.env = (false, eval e X.env) :: starEach es X.env := by rfl) (hpl : (backTo pos (starEach es X.env)).any (·.1) = false := by rfl) : PE X (.Call (.Name x p) (e :: es) [] pos) (liftF X.K c W (eCallF n Fm fs)) := by
  obtain ⟨f, fd, ps, F1, F2, F3, F4⟩ := F
  exact PE_of (pe_callS F1 (b.room.mono hk) hg F2 F3 F4 (fun σ => passAt b.tk σ) ha hdb he hpl) callF_conv
end

/-! ### a walk over the list that the slot i owns: the body leaves the slot alone -/
def isAlAt (i : Nat) (e : Env) : Bool := match e[i]? with
  | some (some (.al j)) => decide (j = i)
  | _ => false
def isShO : Option D → Bool
  | some d => isSh d
  | none => true
def onlySh (i : Nat) (e : Env) : Bool := (e.set i none).all isShO
/-- the slot's list comes back -/
def unH (i : Nat) (ds : List D) (r : Rs Fl) : Rs Fl := match r with
  | .ok f e => if isAlAt i e = true ∧ onlySh i e = true then .ok f (e.set i (some (.own ds))) else .no
  | .ex x e => if isAlAt i e = true ∧ onlySh i e = true then .ex x (e.set i (some (.own ds))) else .no
  | .no => .no
def sForO (i : Nat) (t : TgF) (b : M Fl) : M Fl := fun e => match e[i]? with
  | some (some (.own ds)) => if ds.all isSh = true ∧ onlySh i e = true then unH i ds (forL t b ds (e.set i (some (.al i)))) else .no
  | _ => .no
section
variable {X : Cx} {c : Ctx} {W : WX} {K : PySem.W.Frag}
theorem onlySh_at {i j : Nat} {e : Env} {d : D} (h : onlySh i e = true) (hj : j ≠ i) (q : e[j]? = some (some d)) : isSh d = true := by
  have z : (e.set i none)[j]? = some (some d) := by rw [List.getElem?_set_ne (Ne.symm hj)]; exact q
  exact List.all_eq_true.mp h _ (List.mem_of_getElem? z)
theorem isAlAt_at {i : Nat} {e : Env} (h : isAlAt i e = true) : e[i]? = some (some (.al i)) := by
  unfold isAlAt at h
  split at h
  · rename_i j q
    rw [q, of_decide_eq_true h]
  · cases h
def hideC (B H : Hp) (a : Addr) : Ctx := { vs := [], B0 := B, H0 := H, fp0 := fun _ => [], exa := a }
theorem slot_sh {c c' : Ctx} {B H H' : Hp} {σ : L2.St} {j : Nat} {d : D} {F : List Addr} (h : isSh d = true) (s : SlotOk K c B H σ j d F) : SlotOk K c' B H' σ j d [] := by
  obtain ⟨v, hv, ow, cd⟩ := s
  have ow := ow.inv
  cases d with
  | own _ => cases h
  | bor _ => cases h
  | al _ => cases h
  | _ => exact ⟨v, hv, .sh ow.1, fun a m => nomatch m⟩
theorem hide_ok {B H : Hp} {σ : L2.St} {e : Env} {i : Nat} {a : Addr} (st : StOk K c [] B H σ e) (ho : onlySh i e = true) (hi : i < e.length) (hs : σ[i]? = some (some (.ref a))) : StOk K (hideC B H a) [] B H σ (e.set i (some (.al i))) := by
  obtain ⟨fp, h1, h2, h3, h4, h5⟩ := st.slots
  refine ⟨by rw [List.length_set]; exact st.len, ⟨fun _ => [], fun j d hd => ?_, fun _ _ => rfl, fun _ => List.nodup_nil, fun _ _ _ _ h => (nomatch h), fun q m => (nomatch m)⟩, fun q m => (nomatch m), List.nodup_nil, st.bh, Evl.Ex.refl _, fun a o _ h => h, fun a h => h, fun a _ h => h⟩
  by_cases hj : j = i
  · subst hj
    rw [List.getElem?_set_self hi] at hd
    cases hd
    exact ⟨.ref a, hs, .exc _ _, rfl, rfl⟩
  · rw [List.getElem?_set_ne (Ne.symm hj)] at hd
    exact slot_sh (onlySh_at ho hj hd) (h1 j d hd)
theorem hide_list {B H B' H' : Hp} {σ' : L2.St} {e' : Env} {a : Addr} {vs : List V} (st : StOk K (hideC B H a) [] B' H' σ' e') (h : H a = some (.lst vs)) : H' a = some (.lst vs) :=
  st.keep a _ (fun ⟨_, m⟩ => nomatch m) h
theorem hide_back {B H B' H' : Hp} {σ σ' : L2.St} {e e' : Env} {i : Nat} {a : Addr} {vs : List V} {ds : List D} (st : StOk K c [] B H σ e) (hl : H a = some (.lst vs)) (hb : B a = none) (h0 : c.H0 a = none) (r : Shs K B ds vs)
    (st' : StOk K (hideC B H a) [] B' H' σ' e') (h1 : isAlAt i e' = true) (h2 : onlySh i e' = true) : StOk K c [] B' H' σ' (e'.set i (some (.own ds))) := by
  have ex : Ex B B' := st'.b0
  have hi : i < e'.length := by
    have := isAlAt_at h1
    exact (List.getElem?_eq_some_iff.mp this).1
  have ba : B' a = none := st'.old a (by show H a ≠ none; rw [hl]; exact fun z => nomatch z) hb
  obtain ⟨fp, s1, s2, s3, s4, s5⟩ := st'.slots
  have hv : σ'[i]? = some (some (.ref a)) := by
    obtain ⟨v, hv, ow, cd⟩ := s1 i _ (isAlAt_at h1)
    rw [hv, cd.2]
    rfl
  refine ⟨by rw [List.length_set]; exact st'.len, ⟨fun j => if j = i then [a] else [], fun j d hd => ?_, fun j hn => ?_, fun j => ?_, fun j k b hjk hj hk => ?_, fun q m => (nomatch m)⟩, fun q m => (nomatch m), List.nodup_nil, st'.bh, st.b0.trans ex, fun b o nl h => ?_, fun b h => ?_, fun b h n => ?_⟩
  · dsimp only
    by_cases hj : j = i
    · subst hj
      rw [List.getElem?_set_self hi] at hd
      cases hd
      rw [if_pos rfl]
      refine ⟨.ref a, hv, .own (hide_list st' hl) ba (r.mono ex).ows, fun b m => ?_⟩
      cases List.mem_singleton.mp m
      exact h0
    · rw [List.getElem?_set_ne (Ne.symm hj)] at hd
      rw [if_neg hj]
      exact slot_sh (onlySh_at h2 hj hd) (s1 j d hd)
  · show (if j = i then [a] else []) = []
    by_cases hj : j = i
    · subst hj
      exact absurd (List.getElem?_set_self hi) (hn _)
    · exact if_neg hj
  · show (if j = i then [a] else []).Nodup
    split
    · exact List.nodup_cons.mpr ⟨fun z => (nomatch z), List.nodup_nil⟩
    · exact List.nodup_nil
  · have hj : b ∈ (if j = i then [a] else []) := hj
    have hk : b ∈ (if k = i then [a] else []) := hk
    split at hj
    · split at hk
      · rename_i q1 q2
        exact hjk (q1.trans q2.symm)
      · cases hk
    · cases hj
  · exact st'.keep b o (fun ⟨_, m⟩ => nomatch m) (st.keep b o nl h)
  · exact st'.there b (st.there b h)
  · exact st'.old b (st.there b h) (st.old b h n)
theorem unH_end {B H B2 : Hp} {σ : L2.St} {e : Env} {i : Nat} {a : Addr} {vs : List V} {ds : List D} {Dn : Ends} {r : Rs Fl} (st : StOk K c [] B H σ e) (hl : H a = some (.lst vs)) (hb : B a = none) (h0 : c.H0 a = none) (sh : Shs K B ds vs)
    (m : SEnd K c W B2 Dn (unH i ds r)) : SEnd K (hideC B H a) W B2 Dn r := by
  cases r with
  | no => exact m
  | ex x e' =>
    have m : SEnd K c W B2 Dn (if isAlAt i e' = true ∧ onlySh i e' = true then .ex x (e'.set i (some (.own ds))) else .no) := m
    by_cases hc : isAlAt i e' = true ∧ onlySh i e' = true
    · rw [if_pos hc] at m
      exact fun cls dd σ' B' H' x st' rx => m cls dd σ' B' H' x (hide_back st hl hb h0 sh st' hc.1 hc.2) rx
    · rw [if_neg hc] at m
      exact m.elim
  | ok f e' =>
    have m : SEnd K c W B2 Dn (if isAlAt i e' = true ∧ onlySh i e' = true then .ok f (e'.set i (some (.own ds))) else .no) := m
    by_cases hc : isAlAt i e' = true ∧ onlySh i e' = true
    · rw [if_pos hc] at m
      cases f with
      | rt d => exact fun v σ' B' H' x st' => m v σ' B' H' x (hide_back st hl hb h0 sh st' hc.1 hc.2)
      | _ => exact fun σ' B' H' x st' => m σ' B' H' x (hide_back st hl hb h0 sh st' hc.1 hc.2)
    · rw [if_neg hc] at m
      exact m.elim
theorem ds_forO {tg x : Expr} {body : List Stmt} {S : List Nat} {t : TgF} {i : Nat} {g : M Fl} {pos : Pos} (hp : PassesOwn (model X.prog X.w) X.A X.env X.xe) (hc : X.calm = true) (hi : PE X x (tVar i)) (hg : ∀ c, PG X tg (liftG X.K c S t)) (hb : ∀ c, PSs X body (liftS X.K c W g))
    (hs : ∀ y, foldedSetIterable x X.env y = pure y := by intro _; rfl) : PS X (.For tg x body [] pos) (liftS X.K c W (sForO i t g)) :=
  PS_of (ps_for hp hc (pi_list hi) (g := fun v σ H Q => ∃ c, liftG X.K c S t v σ H Q) ⟨fun pins s σ H v u Q I r q => q.elim fun c q => (hg c).run pins s σ H v u Q I r q⟩
    (tb := fun Dn σ H => ∃ c, liftS X.K c W g Dn σ H) ⟨fun pins s σ H Dn I q => q.elim fun c q => (hb c).run pins s σ H Dn I q⟩ hs) fun Dn σ H q => by
  obtain ⟨B, e, st, m⟩ := q
  have m : SEnd X.K c W B Dn (sForO i t g e) := m
  unfold sForO at m
  split at m
  · rename_i ds he
    by_cases hc : ds.all isSh = true ∧ onlySh i e = true
    · rw [if_pos hc] at m
      obtain ⟨fp, s1, s2, s3, s4, s5⟩ := st.slots
      obtain ⟨v, hv, ow, cd⟩ := s1 i _ he
      obtain ⟨a, vs, G, rfl, f1, hl, ba, ows⟩ := ow.inv
      have sh := ows.shs hc.1
      have h0 : c.H0 a = none := cd a (by rw [f1]; exact List.mem_cons_self)
      refine ⟨_, hv, a, rfl, ⟨vs, SqL.of hl⟩, ?_⟩
      refine ⟨fun j n σ' H' => n = ds.length - j ∧ j ≤ ds.length ∧ ∃ B' e', Ex B B' ∧ StOk X.K (hideC B H a) [] B' H' σ' e' ∧ SEnd X.K (hideC B H a) W B' Dn (forL t g (ds.drop j) e'),
        ⟨ds.length, by simp, Nat.zero_le _, B, _, Evl.Ex.refl _, hide_ok st hc.2 (List.getElem?_eq_some_iff.mp he).1 hv, unH_end st hl ba h0 sh m⟩, ?_⟩
      rintro j n σ' H' ⟨rfl, hle, B2, e2, x2, st2, m2⟩
      have hl2 := hide_list st2 hl
      by_cases hlt : j < ds.length
      · have hlt2 : j < vs.length := by rw [← sh.length]; exact hlt
        have hd : ds[j]? = some ds[j] := by simp [hlt]
        refine .inr ⟨⟨vs, vs[j], SqL.of hl2, by simp [hlt2]⟩, fun σ3 H3 => ∃ B3 e3, Ex B B3 ∧ StOk X.K (hideC B H a) [] B3 H3 σ3 e3 ∧ SEnd X.K (hideC B H a) W B3 Dn (forL t g (ds.drop (j + 1)) e3), fun σ3 H3 ⟨B3, e3, y3, st3, m3⟩ => ⟨ds.length - (j + 1), by omega, rfl, hlt, B3, e3, y3, st3, m3⟩, fun v H3 hy => ?_⟩
        obtain ⟨rfl, hy⟩ := hy
        have hy := hy vs (SqL.of hl2)
        obtain ⟨w, hw, shd⟩ := (sh.mono x2).get hd
        rw [hw] at hy
        cases hy
        rw [drop_cons hd] at m2
        have m2 : SEnd X.K (hideC B H a) W B2 Dn (match t ds[j] e2 with
          | none => .no
          | some e1 => match g e1 with
            | .ok .nx e2 => forL t g (ds.drop (j + 1)) e2
            | .ok .ct e2 => forL t g (ds.drop (j + 1)) e2
            | .ok .bk e2 => .ok .nx e2
            | r => r) := m2
        refine ⟨_, [], B2, e2, ds[j], st2, shd, ?_⟩
        cases q : t ds[j] e2 with
        | none =>
          rw [q] at m2
          exact m2.elim
        | some e3 =>
          rw [q] at m2
          have m2 : SEnd X.K (hideC B H a) W B2 Dn (match g e3 with
            | .ok .nx e2 => forL t g (ds.drop (j + 1)) e2
            | .ok .ct e2 => forL t g (ds.drop (j + 1)) e2
            | .ok .bk e2 => .ok .nx e2
            | r => r) := m2
          refine fun σ4 B4 H4 _ _ x4 st4 => ⟨_, B4, e3, st4, ?_⟩
          generalize g e3 = r at m2 ⊢
          cases r with
          | no => exact m2
          | ex y e' => exact SEnd.mono x4 m2
          | ok fl e' => cases fl with
            | nx => exact fun σ5 B5 H5 x5 st5 => ⟨B5, e', (x2.trans x4).trans x5, st5, SEnd.mono (x4.trans x5) m2⟩
            | ct => exact fun σ5 B5 H5 x5 st5 => ⟨B5, e', (x2.trans x4).trans x5, st5, SEnd.mono (x4.trans x5) m2⟩
            | bk => exact SEnd.mono x4 m2
            | rt d => exact SEnd.mono x4 m2
      · have hj : j = ds.length := by omega
        subst hj
        rw [List.drop_length] at m2
        exact .inl ⟨⟨vs, SqL.of hl2, by rw [← sh.length]; exact Nat.le_refl _⟩, m2 σ' B2 H' (Evl.Ex.refl _) st2⟩
    · rw [if_neg hc] at m
      exact m.elim
  · exact m.elim
end
end DL
end

section
set_option maxRecDepth 100000
set_option maxHeartbeats 2000000
/-! a tuple some times over -/
namespace DL
open PySem PySem.Spec PyProof.Rows L2
open Evl (Ex)
/-- once: the tuple itself -/
theorem tuple_mul1 (l : Addr) (items : Array Value) (n : Nat) (dd : Option Addr) (sl : Array (Option Value)) (u : Tok) :
    Meets (Builtin.«tuple.__mul__» ⟨[.ref l, .int 1 u], []⟩) (fun _ R s => s.heap.get? l = some { cls := .type "tuple", dict := dd, data := .seq items n, slots := sl } ∧ R (.ok (.ret (.ref l))) s) :=
  .of_wp fun prog w A R s h => by
    obtain ⟨hp, g, d, tk, os⟩ := s
    obtain ⟨hl, h⟩ := h
    have f1 := AutoSeq1.idx_int
    wp_walk using wpAny_loadPart' hl
    exact ⟨_, rfl, h⟩
def rRep1 (K : PySem.W.Frag) : R2 := fun x y H Q => ∃ l xs, x = .ref l ∧ y = .int 1 ∧ SqT K H l xs ∧ Q (.ref l) H
theorem op_rep1 {X : Cx} : OpR X (binaryOp .Mult) (rRep1 X.K) := by
  intro pins s σ H x y v u Q I rx ry h
  obtain ⟨l, xs, rfl, rfl, hT, q⟩ := h
  cases rx
  obtain ⟨t, rfl⟩ := ry
  obtain ⟨its, r, ⟨⟨cls, dd, data, sl⟩, ho, hc, n, hd⟩, hs⟩ := I.tuple hT
  simp only at hc hd
  subst hc hd
  exact wpAny_binaryOp_repeat_ref (T := "tuple") (U := "int") (by decide) ⟨_, ho, rfl⟩ (fun s' => typeIs_int s' 1 t) noFill_tuple_mul F.fills_int_mul F.slot_int_rmul repeat_tuple F.slot_int_index.lookup
    (call_meets F.slot_int_rmul (typeIs_int s 1 t) F.entry_int_rmul (F.args_int_rmul_2 _ _) (int_rmul_tuple 1 t l its.toArray n dd sl)
      ⟨ho, rfl, ⟨_, ho, rfl⟩, call_meets F.slot_tuple_mul ⟨_, ho, rfl⟩ F.entry_tuple_mul (F.args_tuple_mul_2 _ _) (tuple_mul1 l its.toArray n dd sl t) ⟨ho, .ref l, H, I, rfl, q⟩⟩)
def dMulB (x y : D) : Option D := match x, y with
  | .tup xs, .int k => if 1 ≤ k ∧ k ≤ 1000 ∧ 1 ≤ xs.length ∧ xs.length ≤ 1000 then some (.tup (List.replicate k.toNat xs).flatten) else none
  | x, y => dMulA x y
def rMulB (K : PySem.W.Frag) : R2 := fun x y H Q => rMulA x y H Q ∨ (rRepT K x y H Q ∨ rRep1 K x y H Q)
theorem op_mulB {X : Cx} : OpR X (binaryOp .Mult) (rMulB X.K) := op_mulA.or (op_repT.or op_rep1)
theorem ok_mulB {K : PySem.W.Frag} : OpD K (rMulB K) dMulB := by
  intro B H x y v u z Q e rx ry ho k
  unfold dMulB at ho
  split at ho
  · rename_i xs n
    cases (show Sh K B (.int n) u from ry)
    split at ho
    · rename_i hl
      cases ho
      obtain ⟨a, vs, rfl, h1, r⟩ := tsq_ok e rx (show tsq (.tup xs) = some xs from rfl)
      by_cases h1n : n = 1
      · subst h1n
        refine .inr (.inr ⟨a, vs, rfl, rfl, h1, k _ B H (Grow.refl e) ?_⟩)
        have z : (List.replicate (1 : Int).toNat xs).flatten = xs := by simp
        rw [z]
        exact rx
      · refine .inr (.inl ⟨a, n, vs, rfl, rfl, h1, fun z => ?_, by omega, by omega, by rw [← r.length]; omega, fun p hp => ?_⟩)
        · have := r.length
          rw [z] at this
          simp at this
          rw [this] at hl
          simp at hl
        · have g := Grow.new e (.tup (List.replicate n.toNat vs).flatten) hp
          exact k _ _ _ g (.tup (SqT.of upd_same) ((Shs.rep r _).mono g.b))
    · cases ho
  · exact .inl (ok_mulA B H _ _ v u z Q e rx ry ho k)
end DL
end

section
set_option maxRecDepth 100000
set_option maxHeartbeats 4000000
namespace K03
open PySem L2 DL
/-! ### the bodies as functions on environments -/
def c_DEEPEST : D := (.int 20)
def c_DIGITS : D := (.str "0123456789")
def c_SEPARATORS : D := (.str " \n{}")
def c_SMALL_LETTERS : D := (.str "abcdefghijklmnopqrstuvwxyz")
def c_WORDS : D := (.tup [(.str "drop"), (.str "twin"), (.str "swap"), (.str "over"), (.str "rot"), (.str "pick"), (.str "count"), (.str "mark"), (.str "["), (.str "]"), (.str "wipe"), (.str "add"), (.str "sub"), (.str "mul"), (.str "div"), (.str "neg"), (.str "min"), (.str "max"), (.str "abs"), (.str "floor"), (.str "letter"), (.str "lt"), (.str "le"), (.str "eq"), (.str "not"), (.str "and"), (.str "or"), (.str "true"), (.str "false"), (.str "do"), (.str "if"), (.str "choose"), (.str "times"), (.str "for"), (.str "each"), (.str "def"), (.str "get"), (.str "known"), (.str "begin"), (.str "end"), (.str "size"), (.str "nth"), (.str "join"), (.str "spread"), (.str "save"), (.str "back"), (.str "shift"), (.str "scale"), (.str "matrix"), (.str "ink"), (.str "share"), (.str "pen"), (.str "cuts"), (.str "at"), (.str "line"), (.str "by"), (.str "curve"), (.str "shut"), (.str "box"), (.str "fresh"), (.str "fill"), (.str "fillodd"), (.str "stroke"), (.str "clip"), (.str "clipodd"), (.str "record"), (.str "put"), (.str "show"), (.str "tile"), (.str "page"), (.str "clean")])
def xtab : XTab := [("NoPlace", [.own "NoPlace", .own "PrintError", .ty "ValueError"]), ("TooDeep", [.own "TooDeep", .own "PrintError", .ty "ValueError"])]
def flds : List Str := ["limit", "place"]
def ens : List CN := [.own "TooDeep", .own "NoPlace"]
def cns : List CN := [.own "BadText", .own "ByZero", .own "Moving", .own "Flat", .own "TooLong", .own "TooMany", .own "TooGreat", .own "NoPiece", .own "NoPatch", .own "NoEntry", .own "NotOpaque", .own "SameInk", .own "BadHeights", .own "BadTurn", .own "BadRange", .own "Turns", .own "Parallel", .own "NotWithin", .own "TooManyPages", .own "BadPart", .own "NoPage", .own "BadOrder", .own "NothingToUndo", .own "NothingToRedo", .own "PrintError", .ty "ValueError", .own "TooDeep", .own "NoPlace"]
abbrev n_is_name : List Str := ["text", "sign"]
abbrev b_is_name : M Fl := (sSeq (sIf (tOrD (tNotD (tOf (eChain dLe dLe (eC (.int 1)) (eBlt dLen (aCons (eVar 0) aNil)) (eC (.int 8))))) (tOf (eBin (dInB true) (eBin dIdx (eVar 0) (eC (.int 0))) (eC c_SMALL_LETTERS)))) (sRet (eC (.bl false))) sNext)
  (sSeq (sFor (eIterS (eVal 0)) (gN 1) (sIf (tAndD (tOf (eBin (dInB true) (eVar 1) (eC c_SMALL_LETTERS))) (tOf (eBin (dInB true) (eVar 1) (eC c_DIGITS)))) (sRet (eC (.bl false))) sNext))
  (sRet (eC (.bl true)))))
def F_is_name : List D → Rs D := runF 2 b_is_name

abbrev n_digits_value : List Str := ["text", "sign"]
abbrev b_digits_value : M Fl := (sSeq (sIf (tOrD (tNotD (tOf (eChain dLe dLe (eC (.int 1)) (eBlt dLen (aCons (eVar 0) aNil)) (eC (.int 24))))) (tAndD (tOf (eBin dEq (eBin dIdx (eVar 0) (eC (.int 0))) (eC (.str "0")))) (tOf (eBin dNe (eVar 0) (eC (.str "0")))))) (sRet (eC .non)) sNext)
  (sSeq (sFor (eIterS (eVal 0)) (gN 1) (sIf (tOf (eBin (dInB true) (eVar 1) (eC c_DIGITS))) (sRet (eC .non)) sNext))
  (sRet (eBlt dIntT (aCons (eVar 0) aNil)))))
def F_digits_value : List D → Rs D := runF 2 b_digits_value

abbrev n_token_number : List Str := ["text", "top", "slash", "bottom", "below", "n", "d"]
abbrev b_token_number : M Fl := (sSeq (sUnp (gT 3 (gsCons (gN 1) (gsCons (gN 2) (gsCons (gN 3) gsNil)))) (eM1 dPart (eVar 0) (eC (.str "/"))))
  (sSeq (sAsg 4 (eBin dEq (eSlice (eVar 1) eNoPart (ePart (eC (.int 1)))) (eC (.str "-"))))
  (sSeq (sAsg 5 (eCall 1 F_digits_value (aCons (eIf (tTruD (eVar 4)) (eSlice (eVar 1) (ePart (eC (.int 1))) eNoPart) (eVal 1)) aNil)))
  (sSeq (sIf (tOrD (tOf (eBin dIs (eVar 5) (eC .non))) (tAndD (tTruD (eVar 4)) (tOf (eBin dEq (eVar 5) (eC (.int 0)))))) (sRet (eC .non)) sNext)
  (sSeq (sIf (tTruD (eVar 4)) (sAsg 5 (eUn dNeg (eVar 5))) sNext)
  (sSeq (sIf (tOf (eBin dEq (eVar 2) (eC (.str "")))) (sRet (eTup (aCons (eVal 5) (aCons (eC (.int 0)) (aCons (eC (.int 1)) aNil))))) sNext)
  (sSeq (sAsg 6 (eCall 1 F_digits_value (aCons (eVal 3) aNil)))
  (sSeq (sIf (tOrD (tOf (eBin dIs (eVar 6) (eC .non))) (tOrD (tOf (eBin dLt (eVar 6) (eC (.int 2)))) (tOf (eBin dNe (eBlt dGcd2 (aCons (eVar 5) (aCons (eVar 6) aNil))) (eC (.int 1)))))) (sRet (eC .non)) sNext)
  (sRet (eTup (aCons (eVal 5) (aCons (eC (.int 0)) (aCons (eVal 6) aNil)))))))))))))
def F_token_number : List D → Rs D := runF 7 b_token_number

abbrev n_token_kind : List Str := ["text"]
abbrev b_token_kind : M Fl := (sSeq (sIf (tOf (eBin dEq (eVar 0) (eC (.str "{")))) (sRet (eC (.str "open"))) sNext)
  (sSeq (sIf (tOf (eBin dEq (eVar 0) (eC (.str "}")))) (sRet (eC (.str "close"))) sNext)
  (sSeq (sIf (tOrD (tOf (eBin dEq (eVar 0) (eC (.str "[")))) (tOrD (tOf (eBin dEq (eVar 0) (eC (.str "]")))) (tTruD (eCall 1 F_is_name (aCons (eVal 0) aNil))))) (sRet (eC (.str "word"))) sNext)
  (sSeq (sIf (tAndD (tOf (eBin dEq (eSlice (eVar 0) eNoPart (ePart (eC (.int 1)))) (eC (.str "/")))) (tTruD (eCall 1 F_is_name (aCons (eSlice (eVar 0) (ePart (eC (.int 1))) eNoPart) aNil)))) (sRet (eC (.str "name"))) sNext)
  (sSeq (sIf (tOf (eBin dIsNot (eCall 1 F_token_number (aCons (eVal 0) aNil)) (eC .non))) (sRet (eC (.str "number"))) sNext)
  (sRet (eC (.str "bad"))))))))
def F_token_kind : List D → Rs D := runF 1 b_token_kind

abbrev n_tokens : List Str := ["text", "found", "start", "place", "sign"]
abbrev b_tokens : M Fl := (sSeq (sAsgF 1 (eLstF aNil))
  (sSeq (sAsg 2 (eC (.int 0)))
  (sSeq (sFor (eEnumS (aCons (eBin dAdd (eVar 0) (eC (.str " "))) aNil)) (gT 2 (gsCons (gN 3) (gsCons (gN 4) gsNil))) (sIf (tOf (eBin (dInB false) (eVar 4) (eC c_SEPARATORS))) (sSeq (sIf (tOf (eBin dLt (eVar 2) (eVar 3))) (sApp (eVar 1) (eTup (aCons (eCall 1 F_token_kind (aCons (eSlice (eVar 0) (ePart (eVar 2)) (ePart (eVar 3))) aNil)) (aCons (eSlice (eVar 0) (ePart (eVar 2)) (ePart (eVar 3))) (aCons (eVal 2) aNil))))) sNext)
  (sSeq (sIf (tOrD (tOf (eBin dEq (eVar 4) (eC (.str "{")))) (tOf (eBin dEq (eVar 4) (eC (.str "}"))))) (sApp (eVar 1) (eTup (aCons (eCall 1 F_token_kind (aCons (eVal 4) aNil)) (aCons (eVal 4) (aCons (eVal 3) aNil))))) sNext)
  (sAsg 2 (eBin dAdd (eVar 3) (eC (.int 1)))))) sNext))
  (sRet (eVal 1)))))
def F_tokens : List D → Rs D := runF 5 b_tokens

abbrev n_single_item : List Str := ["kind", "token"]
abbrev b_single_item : M Fl := (sSeq (sIf (tOf (eBin dEq (eVar 0) (eC (.str "number")))) (sRet (eTup (aCons (eC (.str "number")) (aCons (eCall 1 F_token_number (aCons (eVal 1) aNil)) aNil)))) sNext)
  (sSeq (sIf (tOf (eBin dEq (eVar 0) (eC (.str "name")))) (sRet (eTup (aCons (eC (.str "name")) (aCons (eSlice (eVar 1) (ePart (eC (.int 1))) eNoPart) aNil)))) sNext)
  (sRet (eTup (aCons (eC (.str "word")) (aCons (eVal 1) aNil))))))
def F_single_item : List D → Rs D := runF 2 b_single_item

abbrev n_read_items : List Str := ["text", "rows", "kind", "token", "place", "row"]
abbrev b_read_items : M Fl := (sSeq (sNest 1)
  (sSeq (sFor (eIter (eCall 1 F_tokens (aCons (eVal 0) aNil))) (gT 3 (gsCons (gN 2) (gsCons (gN 3) (gsCons (gN 4) gsNil)))) (sSeq (sIf (tOrD (tOf (eBin dEq (eVar 2) (eC (.str "bad")))) (tOrD (tAndD (tOf (eBin dEq (eVar 2) (eC (.str "close")))) (tOf (eBin dEq (eBlt dLen (aCons (eVar 1) aNil)) (eC (.int 1))))) (tAndD (tOf (eBin dEq (eVar 2) (eC (.str "open")))) (tOf (eBin dGt (eBlt dLen (aCons (eVar 1) aNil)) (eC c_DEEPEST)))))) (sRaiseN "BadText" ["place"] (aCons (eVal 4) aNil)) sNext)
  (sIf (tOf (eBin dEq (eVar 2) (eC (.str "open")))) (sAppN 1) (sIf (tOf (eBin dEq (eVar 2) (eC (.str "close")))) (sSeq (sAsg 5 (ePop 1))
  (sAppR 1 (-1) (eTup (aCons (eC (.str "proc")) (aCons (eBlt dTuple (aCons (eVar 5) aNil)) aNil))))) (sAppR 1 (-1) (eCall 2 F_single_item (aCons (eVal 2) (aCons (eVal 3) aNil))))))))
  (sSeq (sIf (tOf (eBin dGt (eBlt dLen (aCons (eVar 1) aNil)) (eC (.int 1)))) (sRaiseN "BadText" ["place"] (aCons (eBlt dLen (aCons (eVar 0) aNil)) aNil)) sNext)
  (sRet (eBlt dTuple (aCons (eRow 1 0) aNil))))))
def F_read_items : List D → Rs D := runF 6 b_read_items

abbrev n_proc_depth : List Str := ["items", "depth", "kind", "worth"]
abbrev b_proc_depth (R : List D → Rs D) : M Fl := (sSeq (sAsg 1 (eC (.int 0)))
  (sSeq (sFor (eIter (eVal 0)) (gT 2 (gsCons (gN 2) (gsCons (gN 3) gsNil))) (sIf (tOf (eBin dEq (eVar 2) (eC (.str "proc")))) (sAsg 1 (eBlt dMax2 (aCons (eVar 1) (aCons (eBin dAdd (eC (.int 1)) (eCall 1 R (aCons (eVal 3) aNil))) aNil)))) sNext))
  (sRet (eVal 1))))
def G_proc_depth : Nat → List D → Rs D
  | 0 => runF 4 sNo
  | m + 1 => runF 4 (b_proc_depth (G_proc_depth m))
def F_proc_depth : List D → Rs D := G_proc_depth 40

abbrev n_places_behind : List Str := ["around", "items", "found", "index", "place", "kind", "worth"]
abbrev b_places_behind (R : List D → Rs D) : M Fl := (sSeq (sAsgF 2 (eLstF aNil))
  (sSeq (sFor (eRange (aCons (eBlt dLen (aCons (eVar 1) aNil)) aNil)) (gN 3) (sSeq (sAsg 4 (eBin dAdd (eVar 0) (eTup (aCons (eVal 3) aNil))))
  (sSeq (sApp (eVar 2) (eVal 4))
  (sSeq (sUnp (gT 2 (gsCons (gN 5) (gsCons (gN 6) gsNil))) (eBin dIdx (eVar 1) (eVar 3)))
  (sIf (tOf (eBin dEq (eVar 5) (eC (.str "proc")))) (sExt (eVar 2) (eCall 2 R (aCons (eVal 4) (aCons (eVal 6) aNil)))) sNext)))))
  (sRet (eVal 2))))
def G_places_behind : Nat → List D → Rs D
  | 0 => runF 7 sNo
  | m + 1 => runF 7 (b_places_behind (G_places_behind m))
def F_places_behind : List D → Rs D := G_places_behind 40

abbrev n_places : List Str := ["items"]
abbrev b_places : M Fl := (sRet (eCall 2 F_places_behind (aCons (eTup aNil) (aCons (eVal 0) aNil))))
def F_places : List D → Rs D := runF 1 b_places

abbrev n_rows_around : List Str := ["items", "place", "rows", "row", "index", "kind", "worth"]
abbrev b_rows_around : M Fl := (sSeq (sAsgF 2 (eLstF aNil))
  (sSeq (sAsg 3 (eVal 0))
  (sSeq (sFor (eIter (eVal 1)) (gN 4) (sSeq (sIf (tNotD (tOf (eChain dLe dLt (eC (.int 0)) (eVar 4) (eBlt dLen (aCons (eVar 3) aNil))))) (sRaiseN "NoPlace" ["place"] (aCons (eVal 1) aNil)) sNext)
  (sSeq (sApp (eVar 2) (eVal 3))
  (sSeq (sUnp (gT 2 (gsCons (gN 5) (gsCons (gN 6) gsNil))) (eBin dIdx (eVar 3) (eVar 4)))
  (sAsg 3 (eIf (tOf (eBin dEq (eVar 5) (eC (.str "proc")))) (eVal 6) (eTup aNil)))))))
  (sSeq (sIf (tOf (eBin dEq (eBlt dLen (aCons (eVar 2) aNil)) (eC (.int 0)))) (sRaiseN "NoPlace" ["place"] (aCons (eVal 1) aNil)) sNext)
  (sRet (eVal 2))))))
def F_rows_around : List D → Rs D := runF 7 b_rows_around

abbrev n_item_at : List Str := ["items", "place", "rows"]
abbrev b_item_at : M Fl := (sSeq (sAsg 2 (eCall 2 F_rows_around (aCons (eVal 0) (aCons (eVal 1) aNil))))
  (sRet (eBin dIdx (eBin dIdx (eVar 2) (eUn dNeg (eC (.int 1)))) (eBin dIdx (eVar 1) (eUn dNeg (eC (.int 1)))))))
def F_item_at : List D → Rs D := runF 3 b_item_at

abbrev n_spliced : List Str := ["row", "index", "inner"]
abbrev b_spliced : M Fl := (sRet (eBin dAdd (eBin dAdd (eSlice (eVar 0) eNoPart (ePart (eVar 1))) (eVar 2)) (eSlice (eVar 0) (ePart (eBin dAdd (eVar 1) (eC (.int 1)))) eNoPart)))
def F_spliced : List D → Rs D := runF 3 b_spliced

abbrev n_exchanged : List Str := ["items", "place", "row", "rows", "inner", "level", "whole"]
abbrev b_exchanged : M Fl := (sSeq (sAsg 3 (eCall 2 F_rows_around (aCons (eVal 0) (aCons (eVal 1) aNil))))
  (sSeq (sAsg 4 (eVal 2))
  (sSeq (sFor (eRange3 (aCons (eBin dSub (eBlt dLen (aCons (eVar 1) aNil)) (eC (.int 1))) (aCons (eC (.int 0)) (aCons (eUn dNeg (eC (.int 1))) aNil)))) (gN 5) (sAsg 4 (eTup (aCons (eTup (aCons (eC (.str "proc")) (aCons (eCall 3 F_spliced (aCons (eBin dIdx (eVar 3) (eVar 5)) (aCons (eBin dIdx (eVar 1) (eVar 5)) (aCons (eVal 4) aNil)))) aNil))) aNil))))
  (sSeq (sAsg 6 (eCall 3 F_spliced (aCons (eBin dIdx (eVar 3) (eC (.int 0))) (aCons (eBin dIdx (eVar 1) (eC (.int 0))) (aCons (eVal 4) aNil)))))
  (sSeq (sIf (tOf (eBin dGt (eCall 1 F_proc_depth (aCons (eVal 6) aNil)) (eC c_DEEPEST))) (sRaiseN "TooDeep" ["limit"] (aCons (eC c_DEEPEST) aNil)) sNext)
  (sRet (eVal 6)))))))
def F_exchanged : List D → Rs D := runF 7 b_exchanged

abbrev n__law_gcd : List Str := ["a", "b", "k"]
abbrev b__law_gcd : M Fl := (sSeq (sAsg 0 (eBlt dAbs (aCons (eVar 0) aNil)))
  (sSeq (sAsg 1 (eBlt dAbs (aCons (eVar 1) aNil)))
  (sSeq (sFor (eRange (aCons (eC (.int 4000)) aNil)) (gN 2) (sSeq (sIf (tOf (eBin dEq (eVar 1) (eC (.int 0)))) sBreak sNext)
  (sPar 0 1 (aCons (eVal 1) (aCons (eBin dMod (eBlt dToInt (aCons (eVar 0) aNil)) (eVar 1)) aNil)))))
  (sRet (eVal 0)))))
def F__law_gcd : List D → Rs D := runF 3 b__law_gcd

abbrev n__law_row : List Str := ["script", "row", "cell", "rest", "k"]
abbrev b__law_row : M Fl := (sSeq (sAsgF 1 (eLstF aNil))
  (sSeq (sFor (eIter (eSlice (eVar 0) eNoPart (ePart (eC (.int 63))))) (gN 2) (sSeq (sAsg 3 (eBlt dAbs (aCons (eBlt dToInt (aCons (eVar 2) aNil)) aNil)))
  (sFor (eRange (aCons (eC (.int 30)) aNil)) (gN 4) (sSeq (sApp (eVar 1) (eBin dMod (eBlt dToInt (aCons (eVar 3) aNil)) (eC (.int 60))))
  (sSeq (sAsg 3 (eBin dDiv (eVar 3) (eC (.int 60))))
  (sIf (tOf (eBin dEq (eVar 3) (eC (.int 0)))) sBreak sNext))))))
  (sRet (eVal 1))))
def F__law_row : List D → Rs D := runF 5 b__law_row

abbrev n__law_next : List Str := ["tape", "many", "at", "row", "shift"]
abbrev b__law_next : M Fl := (sSeq (sAsg 2 (eBin dIdx (eVar 0) (eC (.int 1))))
  (sSeq (sSub (eVar 0) (eC (.int 1)) (eBin dAdd (eVar 2) (eC (.int 1))))
  (sSeq (sAsg 3 (eBin dIdx (eVar 0) (eC (.int 0))))
  (sSeq (sIf (tOf (eBin dEq (eBlt dLen (aCons (eVar 3) aNil)) (eC (.int 0)))) (sRet (eBin dMod (eBlt dToInt (aCons (eBin dAdd (eBin dMulI (eVar 2) (eC (.int 5))) (eBin dDiv (eVar 2) (eC (.int 3)))) aNil)) (eVar 1))) sNext)
  (sSeq (sAsg 4 (eBin dMulI (eBin dDiv (eVar 2) (eBlt dLen (aCons (eVar 3) aNil))) (eC (.int 7))))
  (sRet (eBin dMod (eBlt dToInt (aCons (eBin dAdd (eBin dIdx (eVar 3) (eBin dMod (eBlt dToInt (aCons (eVar 2) aNil)) (eBlt dLen (aCons (eVar 3) aNil)))) (eVar 4)) aNil)) (eVar 1))))))))
def F__law_next : List D → Rs D := runF 5 b__law_next

abbrev n__law_words : List Str := ["s"]
abbrev b__law_words : M Fl := (sSeq (sAsg 0 (eC (.str "drop twin swap over rot pick count mark [ ] wipe add sub mul div neg min max abs")))
  (sSeq (sAsg 0 (eBin dAdd (eVar 0) (eC (.str " floor letter lt le eq not and or true false do if choose times for each"))))
  (sSeq (sAsg 0 (eBin dAdd (eVar 0) (eC (.str " def get known begin end size nth join spread save back shift scale matrix"))))
  (sSeq (sAsg 0 (eBin dAdd (eVar 0) (eC (.str " ink share pen cuts at line by curve shut box fresh fill fillodd stroke clip"))))
  (sSeq (sAsg 0 (eBin dAdd (eVar 0) (eC (.str " clipodd record put show tile page clean"))))
  (sRet (eM1 dSplit (eVar 0) (eC (.str " ")))))))))
def F__law_words : List D → Rs D := runF 1 b__law_words

abbrev n__law_name : List Str := ["tape", "signs", "text", "k"]
abbrev b__law_name : M Fl := (sSeq (sAsg 1 (eC (.str "abcdefghijklmnopqrstuvwxyz0123456789")))
  (sSeq (sAsg 2 (eBin dIdx (eVar 1) (eCall 2 F__law_next (aCons (eVar 0) (aCons (eC (.int 26)) aNil)))))
  (sSeq (sFor (eRange (aCons (eCall 2 F__law_next (aCons (eVar 0) (aCons (eC (.int 8)) aNil))) aNil)) (gN 3) (sAsg 2 (eBin dAdd (eVar 2) (eBin dIdx (eVar 1) (eCall 2 F__law_next (aCons (eVar 0) (aCons (eC (.int 36)) aNil)))))))
  (sRet (eVal 2)))))
def F__law_name : List D → Rs D := runF 4 b__law_name

abbrev n__law_still : List Str := ["tape", "n", "d", "k", "g"]
abbrev b__law_still : M Fl := (sSeq (sAsg 1 (eC (.int 0)))
  (sSeq (sAsg 2 (eC (.int 0)))
  (sSeq (sFor (eRange (aCons (eBin dIdx (eFrz (eLstF (aCons (eC (.int 1)) (aCons (eC (.int 1)) (aCons (eC (.int 2)) (aCons (eC (.int 3)) (aCons (eC (.int 14)) aNil))))))) (eCall 2 F__law_next (aCons (eVar 0) (aCons (eC (.int 5)) aNil)))) aNil)) (gN 3) (sAsg 1 (eBin dAdd (eBin dMulI (eVar 1) (eC (.int 60))) (eCall 2 F__law_next (aCons (eVar 0) (aCons (eC (.int 60)) aNil))))))
  (sSeq (sFor (eRange (aCons (eBin dIdx (eFrz (eLstF (aCons (eC (.int 0)) (aCons (eC (.int 0)) (aCons (eC (.int 1)) (aCons (eC (.int 1)) (aCons (eC (.int 14)) aNil))))))) (eCall 2 F__law_next (aCons (eVar 0) (aCons (eC (.int 5)) aNil)))) aNil)) (gN 3) (sAsg 2 (eBin dAdd (eBin dMulI (eVar 2) (eC (.int 60))) (eCall 2 F__law_next (aCons (eVar 0) (aCons (eC (.int 60)) aNil))))))
  (sSeq (sAsg 1 (eBin dMod (eBlt dToInt (aCons (eVar 1) aNil)) (eBin dPow (eC (.int 10)) (eC (.int 24)))))
  (sSeq (sAsg 2 (eBin dAdd (eC (.int 1)) (eBin dMod (eBlt dToInt (aCons (eVar 2) aNil)) (eBin dPow (eC (.int 10)) (eC (.int 23))))))
  (sSeq (sIf (tOf (eBin dEq (eCall 2 F__law_next (aCons (eVar 0) (aCons (eC (.int 2)) aNil))) (eC (.int 1)))) (sAsg 1 (eUn dNeg (eVar 1))) sNext)
  (sSeq (sAsg 4 (eCall 2 F__law_gcd (aCons (eVal 1) (aCons (eVal 2) aNil))))
  (sRet (eTup (aCons (eBin dDiv (eVar 1) (eVar 4)) (aCons (eC (.int 0)) (aCons (eBin dDiv (eVar 2) (eVar 4)) aNil)))))))))))))
def F__law_still : List D → Rs D := runF 5 b__law_still

abbrev n__law_still_text : List Str := ["x"]
abbrev b__law_still_text : M Fl := (sSeq (sIf (tOf (eBin dEq (eBin dIdx (eVar 0) (eC (.int 2))) (eC (.int 1)))) (sRet (eBlt dStr (aCons (eBin dIdx (eVar 0) (eC (.int 0))) aNil))) sNext)
  (sRet (eBin dAdd (eBin dAdd (eBlt dStr (aCons (eBin dIdx (eVar 0) (eC (.int 0))) aNil)) (eC (.str "/"))) (eBlt dStr (aCons (eBin dIdx (eVar 0) (eC (.int 2))) aNil)))))
def F__law_still_text : List D → Rs D := runF 1 b__law_still_text

abbrev n__law_leaf : List Str := ["tape", "kind", "x", "text"]
abbrev b__law_leaf : M Fl := (sSeq (sAsg 1 (eCall 2 F__law_next (aCons (eVar 0) (aCons (eC (.int 4)) aNil))))
  (sSeq (sIf (tOf (eBin dEq (eVar 1) (eC (.int 0)))) (sSeq (sAsg 2 (eCall 1 F__law_still (aCons (eVar 0) aNil)))
  (sRet (eFrz (eLstF (aCons (eC (.str "number")) (aCons (eCall 1 F__law_still_text (aCons (eVal 2) aNil)) (aCons (eTup (aCons (eC (.str "number")) (aCons (eVal 2) aNil))) aNil))))))) sNext)
  (sSeq (sAsg 3 (eCall 1 F__law_name (aCons (eVar 0) aNil)))
  (sSeq (sIf (tOf (eBin dEq (eVar 1) (eC (.int 1)))) (sRet (eFrz (eLstF (aCons (eC (.str "name")) (aCons (eBin dAdd (eC (.str "/")) (eVar 3)) (aCons (eTup (aCons (eC (.str "name")) (aCons (eVal 3) aNil))) aNil)))))) sNext)
  (sSeq (sIf (tOf (eBin dEq (eVar 1) (eC (.int 2)))) (sAsg 3 (eBin dIdx (eCall 0 F__law_words aNil) (eBin dAdd (eCall 2 F__law_next (aCons (eVar 0) (aCons (eC (.int 60)) aNil))) (eBin dMulI (eC (.int 11)) (eCall 2 F__law_next (aCons (eVar 0) (aCons (eC (.int 2)) aNil))))))) sNext)
  (sRet (eFrz (eLstF (aCons (eC (.str "word")) (aCons (eVal 3) (aCons (eTup (aCons (eC (.str "word")) (aCons (eVal 3) aNil))) aNil)))))))))))
def F__law_leaf : List D → Rs D := runF 4 b__law_leaf

abbrev n__law_tree : List Str := ["tape", "many", "most", "found", "depth", "k", "pick"]
abbrev b__law_tree : M Fl := (sSeq (sAsgF 3 (eLstF aNil))
  (sSeq (sAsg 4 (eC (.int 0)))
  (sSeq (sFor (eRange (aCons (eVar 1) aNil)) (gN 5) (sSeq (sAsg 6 (eCall 2 F__law_next (aCons (eVar 0) (aCons (eC (.int 6)) aNil))))
  (sIf (tAndD (tOf (eBin dLt (eVar 6) (eC (.int 2)))) (tOf (eBin dLt (eVar 4) (eVar 2)))) (sSeq (sApp (eVar 3) (eFrz (eLstF (aCons (eC (.str "open")) (aCons (eC (.str "{")) (aCons (eTup aNil) aNil))))))
  (sAsg 4 (eBin dAdd (eVar 4) (eC (.int 1))))) (sIf (tAndD (tOf (eBin dLt (eVar 6) (eC (.int 4)))) (tOf (eBin dGt (eVar 4) (eC (.int 0))))) (sSeq (sApp (eVar 3) (eFrz (eLstF (aCons (eC (.str "close")) (aCons (eC (.str "}")) (aCons (eTup aNil) aNil))))))
  (sAsg 4 (eBin dSub (eVar 4) (eC (.int 1))))) (sApp (eVar 3) (eCall 1 F__law_leaf (aCons (eVar 0) aNil)))))))
  (sRet (eBin dAdd (eVar 3) (eFrz (eComp (eRange (aCons (eVar 4) aNil)) [5] (gN 5) tYesD (eFrz (eLstF (aCons (eC (.str "close")) (aCons (eC (.str "}")) (aCons (eTup aNil) aNil))))))))))))
def F__law_tree : List D → Rs D := runF 7 b__law_tree

abbrev n__law_chain : List Str := ["many", "inner", "ahead", "k"]
abbrev b__law_chain : M Fl := (sSeq (sAsgF 2 (eComp (eRange (aCons (eVar 0) aNil)) [3] (gN 3) tYesD (eFrz (eLstF (aCons (eC (.str "open")) (aCons (eC (.str "{")) (aCons (eTup aNil) aNil)))))))
  (sRet (eBin dAdd (eBin dAdd (eVar 2) (eVar 1)) (eFrz (eComp (eRange (aCons (eVar 0) aNil)) [3] (gN 3) tYesD (eFrz (eLstF (aCons (eC (.str "close")) (aCons (eC (.str "}")) (aCons (eTup aNil) aNil))))))))))
def F__law_chain : List D → Rs D := runF 4 b__law_chain

abbrev n__law_read : List Str := ["row", "rows", "path", "spots", "worth", "spans", "left", "k", "at"]
abbrev b__law_read : M Fl := (sSeq (sNest 1)
  (sSeq (sAsgF 2 (eLstF (aCons (eC (.int 0)) aNil)))
  (sSeq (sAsgF 3 (eLstF aNil))
  (sSeq (sAsgF 4 (eLstF aNil))
  (sSeq (sAsgF 5 (eLstF aNil))
  (sSeq (sAsgF 6 (eLstF aNil))
  (sSeq (sFor (eRange (aCons (eBlt dLen (aCons (eVar 0) aNil)) aNil)) (gN 7) (sIf (tOf (eBin dEq (eBin dIdx (eBin dIdx (eVar 0) (eVar 7)) (eC (.int 0))) (eC (.str "close")))) (sSeq (sAsg 8 (ePop 6))
  (sSeq (sDrop (ePop 2))
  (sSeq (sSub (eVar 4) (eVar 8) (eTup (aCons (eC (.str "proc")) (aCons (eBlt dTuple (aCons (ePop 1) aNil)) aNil))))
  (sSeq (sSub (eVar 5) (eVar 8) (eFrz (eLstF (aCons (eBin dIdx (eBin dIdx (eVar 5) (eVar 8)) (eC (.int 0))) (aCons (eBin dAdd (eVar 7) (eC (.int 1))) aNil)))))
  (sSeq (sAppR 1 (-1) (eBin dIdx (eVar 4) (eVar 8)))
  (sSub (eVar 2) (eUn dNeg (eC (.int 1))) (eBin dAdd (eBin dIdx (eVar 2) (eUn dNeg (eC (.int 1)))) (eC (.int 1))))))))) (sSeq (sApp (eVar 3) (eBlt dTuple (aCons (eVar 2) aNil)))
  (sSeq (sApp (eVar 5) (eFrz (eLstF (aCons (eVal 7) (aCons (eBin dAdd (eVar 7) (eC (.int 1))) aNil)))))
  (sSeq (sApp (eVar 4) (eBin dIdx (eBin dIdx (eVar 0) (eVar 7)) (eC (.int 2))))
  (sIf (tOf (eBin dEq (eBin dIdx (eBin dIdx (eVar 0) (eVar 7)) (eC (.int 0))) (eC (.str "open")))) (sSeq (sApp (eVar 6) (eBin dSub (eBlt dLen (aCons (eVar 4) aNil)) (eC (.int 1))))
  (sSeq (sAppN 1)
  (sApp (eVar 2) (eC (.int 0))))) (sSeq (sAppR 1 (-1) (eBin dIdx (eBin dIdx (eVar 0) (eVar 7)) (eC (.int 2))))
  (sSub (eVar 2) (eUn dNeg (eC (.int 1))) (eBin dAdd (eBin dIdx (eVar 2) (eUn dNeg (eC (.int 1)))) (eC (.int 1)))))))))))
  (sRet (eFrz (eLstF (aCons (eBlt dTuple (aCons (eRow 1 0) aNil)) (aCons (eVal 3) (aCons (eVal 4) (aCons (eVal 5) aNil))))))))))))))
def F__law_read : List D → Rs D := runF 9 b__law_read

abbrev n__law_text : List Str := ["tape", "row", "text", "due", "last", "token", "kind"]
abbrev b__law_text : M Fl := (sSeq (sAsg 2 (eBin dIdx (eFrz (eLstF (aCons (eC (.str "")) (aCons (eC (.str " ")) (aCons (eC (.str "")) (aCons (eC (.str "\n")) aNil)))))) (eCall 2 F__law_next (aCons (eVar 0) (aCons (eC (.int 4)) aNil)))))
  (sSeq (sAsgF 3 (eLstF aNil))
  (sSeq (sAsg 4 (eC (.str "open")))
  (sSeq (sFor (eIter (eVal 1)) (gN 5) (sSeq (sAsg 6 (eBin dIdx (eVar 5) (eC (.int 0))))
  (sSeq (sIf (tOrD (tOf (eBin dEq (eVar 4) (eC (.str "open")))) (tOrD (tOf (eBin dEq (eVar 4) (eC (.str "close")))) (tOrD (tOf (eBin dEq (eVar 6) (eC (.str "open")))) (tOf (eBin dEq (eVar 6) (eC (.str "close"))))))) (sAsg 2 (eBin dAdd (eVar 2) (eBin dIdx (eFrz (eLstF (aCons (eC (.str "")) (aCons (eC (.str " ")) (aCons (eC (.str "")) (aCons (eC (.str "\n")) (aCons (eC (.str " \n ")) aNil))))))) (eCall 2 F__law_next (aCons (eVar 0) (aCons (eC (.int 5)) aNil)))))) (sAsg 2 (eBin dAdd (eVar 2) (eBin dIdx (eFrz (eLstF (aCons (eC (.str " ")) (aCons (eC (.str "\n")) (aCons (eC (.str "  ")) (aCons (eC (.str " \n")) aNil)))))) (eCall 2 F__law_next (aCons (eVar 0) (aCons (eC (.int 4)) aNil)))))))
  (sSeq (sApp (eVar 3) (eTup (aCons (eVal 6) (aCons (eBin dIdx (eVar 5) (eC (.int 1))) (aCons (eBlt dLen (aCons (eVar 2) aNil)) aNil)))))
  (sSeq (sAsg 2 (eBin dAdd (eVar 2) (eBin dIdx (eVar 5) (eC (.int 1)))))
  (sAsg 4 (eVal 6)))))))
  (sRet (eFrz (eLstF (aCons (eBin dAdd (eVar 2) (eBin dIdx (eFrz (eLstF (aCons (eC (.str "")) (aCons (eC (.str " ")) (aCons (eC (.str "")) (aCons (eC (.str "\n")) aNil)))))) (eCall 2 F__law_next (aCons (eVar 0) (aCons (eC (.int 4)) aNil))))) (aCons (eVal 3) aNil)))))))))
def F__law_text : List D → Rs D := runF 7 b__law_text

abbrev n__law_int : List Str := ["x"]
abbrev b__law_int : M Fl := (sRet (eAndD (eBlt dIsi (aCons (eVar 0) (aCons (eC (.ty "int")) aNil))) (eNotD (eBlt dIsi (aCons (eVar 0) (aCons (eC (.ty "bool")) aNil))))))
def F__law_int : List D → Rs D := runF 1 b__law_int

abbrev n__law_stray : List Str := ["e"]
abbrev b__law_stray (y : Exn) : M Fl := (sSeq (sIf (tOrD (tNotD (tTruD (eX 0 (some (.bl (isSub xtab y.cls (CN.own "PrintError"))))))) (tNotD (tTruD (eX 0 (some (.bl (isSub xtab y.cls (CN.ty "ValueError")))))))) (sRet (eC (.bl true))) sNext)
  (sSeq (sIf (tTruD (eX 0 (some (.bl (isSubs xtab y.cls [(CN.own "BadText"), (CN.own "ByZero"), (CN.own "Moving"), (CN.own "Flat"), (CN.own "TooLong"), (CN.own "TooMany"), (CN.own "TooGreat")]))))) (sRet (eC (.bl true))) sNext)
  (sSeq (sIf (tTruD (eX 0 (some (.bl (isSubs xtab y.cls [(CN.own "NoPiece"), (CN.own "NoPatch"), (CN.own "NoEntry"), (CN.own "NotOpaque"), (CN.own "SameInk"), (CN.own "BadHeights"), (CN.own "BadTurn"), (CN.own "BadRange")]))))) (sRet (eC (.bl true))) sNext)
  (sSeq (sIf (tTruD (eX 0 (some (.bl (isSubs xtab y.cls [(CN.own "Turns"), (CN.own "Parallel"), (CN.own "NotWithin"), (CN.own "TooManyPages"), (CN.own "BadPart"), (CN.own "NoPage"), (CN.own "BadOrder"), (CN.own "NothingToUndo")]))))) (sRet (eC (.bl true))) sNext)
  (sRet (eX 0 (some (.bl (isSub xtab y.cls (CN.own "NothingToRedo"))))))))))
def F__law_stray : Exn → Rs D := fun y => if hasX xtab y.cls = true then runE 1 b__law_stray y else .no

abbrev n__law_depth : List Str := ["row", "depth", "most", "token"]
abbrev b__law_depth : M Fl := (sSeq (sAsg 1 (eC (.int 0)))
  (sSeq (sAsg 2 (eC (.int 0)))
  (sSeq (sFor (eIter (eVal 0)) (gN 3) (sSeq (sIf (tOf (eBin dEq (eBin dIdx (eVar 3) (eC (.int 0))) (eC (.str "open")))) (sAsg 1 (eBin dAdd (eVar 1) (eC (.int 1)))) sNext)
  (sSeq (sIf (tOf (eBin dEq (eBin dIdx (eVar 3) (eC (.int 0))) (eC (.str "close")))) (sAsg 1 (eBin dSub (eVar 1) (eC (.int 1)))) sNext)
  (sAsg 2 (eBlt dMax2 (aCons (eVar 2) (aCons (eVar 1) aNil)))))))
  (sRet (eVal 2)))))
def F__law_depth : List D → Rs D := runF 4 b__law_depth

abbrev n__law_exchange : List Str := ["made", "spot", "row", "span", "more", "due", "fine", "put", "told", "e"]
abbrev b__law_exchange : M Fl := (sSeq (sAsg 5 (eBin dAdd (eBin dAdd (eSlice (eVar 2) eNoPart (ePart (eBin dIdx (eVar 3) (eC (.int 0))))) (eVar 4)) (eSlice (eVar 2) (ePart (eBin dIdx (eVar 3) (eC (.int 1)))) eNoPart)))
  (sSeq (sAsg 6 (eBin dLe (eCall 1 F__law_depth (aCons (eVal 5) aNil)) (eC (.int 20))))
  (sSeq (sAsg 7 (eBin dIdx (eCall 1 F__law_read (aCons (eVal 4) aNil)) (eC (.int 0))))
  (sSeq (sTry xtab (sAsg 8 (eCall 3 F_exchanged (aCons (eVal 0) (aCons (eVal 1) (aCons (eVal 7) aNil)))))
 [(9, (CN.own "TooDeep"), fun x => (sSeq (sIf (tOrD (tTruD (eVar 6)) (tOrD (tTruD (eX 9 (some (.bl (isSub xtab x.cls (CN.own "NoPlace")))))) (tTruD (eX 9 (resE (F__law_stray x)))))) (sRet (eC (.bl false))) sNext)
  (sRet (eAndD (eCallP 1 F__law_int (aCons (eX 9 (x.fs.lookup ("limit" : Str))) aNil)) (eBin dEq (eX 9 (x.fs.lookup ("limit" : Str))) (eC (.int 20)))))))])
  (sRet (eAndD (eVar 6) (eBin dEq (eVar 8) (eBin dIdx (eCall 1 F__law_read (aCons (eVal 5) aNil)) (eC (.int 0))))))))))
def F__law_exchange : List D → Rs D := runF 10 b__law_exchange

abbrev n__law_nowhere : List Str := ["word", "made", "spot", "put", "e"]
abbrev b__law_nowhere : M Fl := (sSeq (sTry xtab (sIf (tOf (eBin dEq (eVar 0) (eC (.str "item_at")))) (sDrop (eCall 2 F_item_at (aCons (eVal 1) (aCons (eVal 2) aNil)))) (sDrop (eCall 3 F_exchanged (aCons (eVal 1) (aCons (eVal 2) (aCons (eVal 3) aNil))))))
 [(4, (CN.own "NoPlace"), fun x => (sSeq (sIf (tOrD (tTruD (eX 4 (some (.bl (isSub xtab x.cls (CN.own "TooDeep")))))) (tTruD (eX 4 (resE (F__law_stray x))))) (sRet (eC (.bl false))) sNext)
  (sRet (eAndD (eBlt dIsi (aCons (eX 4 (x.fs.lookup ("place" : Str))) (aCons (eC (.ty "tuple")) aNil))) (eBin dEq (eX 4 (x.fs.lookup ("place" : Str))) (eVar 2))))))])
  (sRet (eC (.bl false))))
def F__law_nowhere : List D → Rs D := runF 5 b__law_nowhere

abbrev n__law_no_spots : List Str := ["tape", "made", "spots", "worth", "found", "at", "spot"]
abbrev b__law_no_spots : M Fl := (sSeq (sAsgF 4 (eLstF (aCons (eTup aNil) (aCons (eTup (aCons (eBlt dLen (aCons (eVar 1) aNil)) aNil)) (aCons (eTup (aCons (eUn dNeg (eC (.int 1))) aNil)) aNil)))))
  (sSeq (sIf (tOf (eBin dEq (eBlt dLen (aCons (eVar 2) aNil)) (eC (.int 0)))) (sRet (eVal 4)) sNext)
  (sSeq (sAsg 5 (eBin dMod (eBlt dToInt (aCons (eCall 2 F__law_next (aCons (eVar 0) (aCons (eC (.int 60)) aNil))) aNil)) (eBlt dLen (aCons (eVar 2) aNil))))
  (sSeq (sAsg 6 (eBin dIdx (eVar 2) (eVar 5)))
  (sSeq (sIf (tOf (eBin dEq (eBin dIdx (eBin dIdx (eVar 3) (eVar 5)) (eC (.int 0))) (eC (.str "proc")))) (sApp (eVar 4) (eBin dAdd (eVar 6) (eTup (aCons (eBlt dLen (aCons (eBin dIdx (eBin dIdx (eVar 3) (eVar 5)) (eC (.int 1))) aNil)) aNil)))) (sApp (eVar 4) (eBin dAdd (eVar 6) (eTup (aCons (eC (.int 0)) aNil)))))
  (sSeq (sApp (eVar 4) (eBin dAdd (eVar 6) (eTup (aCons (eUn dNeg (eC (.int 1))) aNil))))
  (sSeq (sApp (eVar 4) (eBin dAdd (eSlice (eVar 6) eNoPart (ePart (eUn dNeg (eC (.int 1))))) (eTup (aCons (eBin dSub (eBin dPow (eC (.int 10)) (eC (.int 24))) (eC (.int 1))) aNil))))
  (sSeq (sApp (eVar 4) (eBin dAdd (eTup (aCons (eUn dNeg (eC (.int 1))) aNil)) (eSlice (eVar 6) (ePart (eC (.int 1))) eNoPart)))
  (sRet (eVal 4))))))))))
def F__law_no_spots : List D → Rs D := runF 7 b__law_no_spots

abbrev n__law_lists : List Str := ["text", "due", "made", "spots", "worth", "told", "token", "k"]
abbrev b__law_lists : M Fl := (sSeq (sAsgF 5 (eCallF 1 F_tokens (aCons (eVal 0) aNil)))
  (sSeq (sIf (tOrD (tNotD (tTruD (eBlt dIsi (aCons (eVar 5) (aCons (eC (.ty "list")) aNil))))) (tOf (eBin dNe (eVar 5) (eVar 1)))) (sRet (eC (.bl false))) sNext)
  (sSeq (sForO 5 (gN 6) (sIf (tNotD (tTruD (eCall 1 F__law_int (aCons (eBin dIdx (eVar 6) (eC (.int 2))) aNil)))) (sRet (eC (.bl false))) sNext))
  (sSeq (sApp (eVar 5) (eTup (aCons (eC (.str "word")) (aCons (eC (.str "a")) (aCons (eC (.int 0)) aNil)))))
  (sSeq (sIf (tOrD (tOf (eBin dNe (eCall 1 F_tokens (aCons (eVal 0) aNil)) (eVar 1))) (tOf (eBin dNe (eCall 1 F_read_items (aCons (eVal 0) aNil)) (eVar 2)))) (sRet (eC (.bl false))) sNext)
  (sSeq (sAsgF 5 (eCallF 1 F_places (aCons (eVal 2) aNil)))
  (sSeq (sIf (tOrD (tNotD (tTruD (eBlt dIsi (aCons (eVar 5) (aCons (eC (.ty "list")) aNil))))) (tOf (eBin dNe (eVar 5) (eVar 3)))) (sRet (eC (.bl false))) sNext)
  (sSeq (sApp (eVar 5) (eTup (aCons (eC (.int 0)) aNil)))
  (sSeq (sIf (tOf (eBin dNe (eCall 1 F_places (aCons (eVal 2) aNil)) (eVar 3))) (sRet (eC (.bl false))) sNext)
  (sSeq (sFor (eRange (aCons (eBlt dLen (aCons (eVar 3) aNil)) aNil)) (gN 7) (sIf (tOf (eBin dNe (eCall 2 F_item_at (aCons (eVal 2) (aCons (eBin dIdx (eVar 3) (eVar 7)) aNil))) (eBin dIdx (eVar 4) (eVar 7)))) (sRet (eC (.bl false))) sNext))
  (sRet (eC (.bl true)))))))))))))
def F__law_lists : List D → Rs D := runF 8 b__law_lists

abbrev n__law_deep : List Str := ["tape", "many", "row", "made", "spot", "span", "fit", "far"]
abbrev b__law_deep : M Fl := (sSeq (sAsg 1 (eBin dAdd (eC (.int 1)) (eCall 2 F__law_next (aCons (eVar 0) (aCons (eC (.int 19)) aNil)))))
  (sSeq (sAsg 2 (eCall 2 F__law_chain (aCons (eBlt dMin2 (aCons (eC (.int 20)) (aCons (eBin dAdd (eVar 1) (eCall 2 F__law_next (aCons (eVar 0) (aCons (eC (.int 3)) aNil)))) aNil))) (aCons (eFrz (eLstF (aCons (eCall 1 F__law_leaf (aCons (eVar 0) aNil)) aNil))) aNil))))
  (sSeq (sAsg 2 (eBin dAdd (eFrz (eLstF (aCons (eCall 1 F__law_leaf (aCons (eVar 0) aNil)) aNil))) (eVar 2)))
  (sSeq (sAsg 3 (eBin dIdx (eCall 1 F__law_read (aCons (eVal 2) aNil)) (eC (.int 0))))
  (sSeq (sAsg 4 (eBin dAdd (eTup (aCons (eC (.int 1)) aNil)) (eBin dMulB (eTup (aCons (eC (.int 0)) aNil)) (eVar 1))))
  (sSeq (sAsg 5 (eFrz (eLstF (aCons (eBin dAdd (eC (.int 1)) (eVar 1)) (aCons (eBin dSub (eBlt dLen (aCons (eVar 2) aNil)) (eVar 1)) aNil)))))
  (sSeq (sAsg 6 (eCall 2 F__law_chain (aCons (eBin dSub (eC (.int 20)) (eVar 1)) (aCons (eFrz (eLstF (aCons (eCall 1 F__law_leaf (aCons (eVar 0) aNil)) aNil))) aNil))))
  (sSeq (sAsg 7 (eBin dAdd (eFrz (eLstF (aCons (eCall 1 F__law_leaf (aCons (eVar 0) aNil)) aNil))) (eCall 2 F__law_chain (aCons (eBin dSub (eC (.int 21)) (eVar 1)) (aCons (eFrz (eLstF (aCons (eCall 1 F__law_leaf (aCons (eVar 0) aNil)) aNil))) aNil)))))
  (sSeq (sIf (tNotD (tTruD (eCall 5 F__law_exchange (aCons (eVal 3) (aCons (eVal 4) (aCons (eVal 2) (aCons (eVal 5) (aCons (eVal 6) aNil)))))))) (sRet (eC (.bl false))) sNext)
  (sSeq (sIf (tNotD (tTruD (eCall 5 F__law_exchange (aCons (eVal 3) (aCons (eVal 4) (aCons (eVal 2) (aCons (eVal 5) (aCons (eVal 7) aNil)))))))) (sRet (eC (.bl false))) sNext)
  (sRet (eCall 4 F__law_nowhere (aCons (eC (.str "exchanged")) (aCons (eVal 3) (aCons (eBin dAdd (eSlice (eVar 4) eNoPart (ePart (eUn dNeg (eC (.int 1))))) (eTup (aCons (eC (.int 1)) aNil))) (aCons (eBin dIdx (eCall 1 F__law_read (aCons (eVal 7) aNil)) (eC (.int 0))) aNil))))))))))))))))
def F__law_deep : List D → Rs D := runF 8 b__law_deep

abbrev n_law : List Str := ["script", "tape", "row", "k", "made", "spots", "worth", "spans", "text", "due", "more", "at", "spot"]
abbrev b_law : M Fl := (sSeq (sAsgF 1 (eLstF (aCons (eCall 1 F__law_row (aCons (eVal 0) aNil)) (aCons (eC (.int 0)) aNil))))
  (sSeq (sAsg 2 (eCall 3 F__law_tree (aCons (eVar 1) (aCons (eCall 2 F__law_next (aCons (eVar 1) (aCons (eC (.int 14)) aNil))) (aCons (eC (.int 4)) aNil)))))
  (sSeq (sIf (tOf (eBin dEq (eCall 2 F__law_next (aCons (eVar 1) (aCons (eC (.int 8)) aNil))) (eC (.int 5)))) (sAsg 2 (eBin dAdd (eVar 2) (eCall 2 F__law_chain (aCons (eC (.int 20)) (aCons (eFrz (eLstF (aCons (eCall 1 F__law_leaf (aCons (eVar 1) aNil)) aNil))) aNil))))) sNext)
  (sSeq (sIf (tOf (eBin dEq (eCall 2 F__law_next (aCons (eVar 1) (aCons (eC (.int 8)) aNil))) (eC (.int 6)))) (sAsg 2 (eBin dAdd (eVar 2) (eFrz (eComp (eRange (aCons (eBin dAdd (eC (.int 120)) (eCall 2 F__law_next (aCons (eVar 1) (aCons (eC (.int 60)) aNil)))) aNil)) [3] (gN 3) tYesD (eCall 1 F__law_leaf (aCons (eVar 1) aNil)))))) sNext)
  (sSeq (sUnp (gT 4 (gsCons (gN 4) (gsCons (gN 5) (gsCons (gN 6) (gsCons (gN 7) gsNil))))) (eCall 1 F__law_read (aCons (eVal 2) aNil)))
  (sSeq (sUnp (gT 2 (gsCons (gN 8) (gsCons (gN 9) gsNil))) (eCall 2 F__law_text (aCons (eVar 1) (aCons (eVal 2) aNil))))
  (sSeq (sIf (tOrD (tNotD (tTruD (eBlt dIsi (aCons (eC c_WORDS) (aCons (eC (.ty "tuple")) aNil))))) (tOf (eBin dNe (eBlt dListT (aCons (eC c_WORDS) aNil)) (eCall 0 F__law_words aNil)))) (sRet (eC (.bl false))) sNext)
  (sSeq (sIf (tNotD (tTruD (eCall 5 F__law_lists (aCons (eVal 8) (aCons (eVal 9) (aCons (eVal 4) (aCons (eVal 5) (aCons (eVal 6) aNil)))))))) (sRet (eC (.bl false))) sNext)
  (sSeq (sAsg 10 (eCall 3 F__law_tree (aCons (eVar 1) (aCons (eCall 2 F__law_next (aCons (eVar 1) (aCons (eC (.int 4)) aNil))) (aCons (eC (.int 3)) aNil)))))
  (sSeq (sFor (eRange (aCons (eC (.int 4)) aNil)) (gN 3) (sIf (tOf (eBin dGt (eBlt dLen (aCons (eVar 5) aNil)) (eC (.int 0)))) (sSeq (sAsg 11 (eBin dDiv (eBin dAdd (eBin dMulI (eCall 2 F__law_next (aCons (eVar 1) (aCons (eC (.int 60)) aNil))) (eC (.int 60))) (eCall 2 F__law_next (aCons (eVar 1) (aCons (eC (.int 60)) aNil)))) (eBin dAdd (eC (.int 1)) (eVar 3))))
  (sSeq (sAsg 11 (eBin dMod (eBlt dToInt (aCons (eVar 11) aNil)) (eBlt dLen (aCons (eVar 5) aNil))))
  (sIf (tNotD (tTruD (eCall 5 F__law_exchange (aCons (eVal 4) (aCons (eBin dIdx (eVar 5) (eVar 11)) (aCons (eVal 2) (aCons (eBin dIdx (eVar 7) (eVar 11)) (aCons (eVal 10) aNil)))))))) (sRet (eC (.bl false))) sNext))) sNext))
  (sSeq (sFor (eIter (eCall 4 F__law_no_spots (aCons (eVar 1) (aCons (eVal 4) (aCons (eVal 5) (aCons (eVal 6) aNil)))))) (gN 12) (sSeq (sIf (tNotD (tTruD (eCall 4 F__law_nowhere (aCons (eC (.str "item_at")) (aCons (eVal 4) (aCons (eVal 12) (aCons (eTup aNil) aNil))))))) (sRet (eC (.bl false))) sNext)
  (sIf (tNotD (tTruD (eCall 4 F__law_nowhere (aCons (eC (.str "exchanged")) (aCons (eVal 4) (aCons (eVal 12) (aCons (eBin dIdx (eCall 1 F__law_read (aCons (eVal 10) aNil)) (eC (.int 0))) aNil))))))) (sRet (eC (.bl false))) sNext)))
  (sRet (eAndD (eCall 1 F__law_deep (aCons (eVar 1) aNil)) (eCall 5 F__law_lists (aCons (eVal 8) (aCons (eVal 9) (aCons (eVal 4) (aCons (eVal 5) (aCons (eVal 6) aNil)))))))))))))))))))
def F_law : List D → Rs D := runF 13 b_law

end K03
end

section
set_option maxRecDepth 100000
set_option maxHeartbeats 4000000
namespace K03
open PySem L2 DL
/-! ### the text -/
def top (i : Nat) : Stmt := PySem.Challenge.pw_printstacks_k03_texts_read_to_items_with.main.body.getD i (.Pass ⟨0, 0, 0, 0⟩)
structure Tx (K : PySem.W.Frag) (mg : Str → Option Value) : Prop where
  b_ValueError : mg "ValueError" = none
  b_abs : mg "abs" = none
  b_bool : mg "bool" = none
  b_enumerate : mg "enumerate" = none
  b_int : mg "int" = none
  b_isinstance : mg "isinstance" = none
  b_len : mg "len" = none
  b_list : mg "list" = none
  b_max : mg "max" = none
  b_min : mg "min" = none
  b_range : mg "range" = none
  b_str : mg "str" = none
  b_tuple : mg "tuple" = none
  i_gcd : mg "gcd" = some (.builtin "math.gcd")
  g_DEEPEST : ∃ t, mg "DEEPEST" = some (.int 20 t)
  g_DIGITS : ∃ t, mg "DIGITS" = some (.str "0123456789" t)
  g_SEPARATORS : ∃ t, mg "SEPARATORS" = some (.str " \n{}" t)
  g_SMALL_LETTERS : ∃ t, mg "SMALL_LETTERS" = some (.str "abcdefghijklmnopqrstuvwxyz" t)
  g_WORDS : mg "WORDS" = some (.ref (He.ga K "WORDS"))
  c_WORDS : ∀ B, Sh K B c_WORDS (.ref (He.ga K "WORDS"))
  g_BadHeights : mg "BadHeights" = some (.ref (He.ga K "BadHeights"))
  g_BadOrder : mg "BadOrder" = some (.ref (He.ga K "BadOrder"))
  g_BadPart : mg "BadPart" = some (.ref (He.ga K "BadPart"))
  g_BadRange : mg "BadRange" = some (.ref (He.ga K "BadRange"))
  g_BadText : mg "BadText" = some (.ref (He.ga K "BadText"))
  g_BadTurn : mg "BadTurn" = some (.ref (He.ga K "BadTurn"))
  g_ByZero : mg "ByZero" = some (.ref (He.ga K "ByZero"))
  g_Flat : mg "Flat" = some (.ref (He.ga K "Flat"))
  g_Moving : mg "Moving" = some (.ref (He.ga K "Moving"))
  g_NoEntry : mg "NoEntry" = some (.ref (He.ga K "NoEntry"))
  g_NoPage : mg "NoPage" = some (.ref (He.ga K "NoPage"))
  g_NoPatch : mg "NoPatch" = some (.ref (He.ga K "NoPatch"))
  g_NoPiece : mg "NoPiece" = some (.ref (He.ga K "NoPiece"))
  g_NoPlace : mg "NoPlace" = some (.ref (He.ga K "NoPlace"))
  g_NotOpaque : mg "NotOpaque" = some (.ref (He.ga K "NotOpaque"))
  g_NotWithin : mg "NotWithin" = some (.ref (He.ga K "NotWithin"))
  g_NothingToRedo : mg "NothingToRedo" = some (.ref (He.ga K "NothingToRedo"))
  g_NothingToUndo : mg "NothingToUndo" = some (.ref (He.ga K "NothingToUndo"))
  g_Parallel : mg "Parallel" = some (.ref (He.ga K "Parallel"))
  g_PrintError : mg "PrintError" = some (.ref (He.ga K "PrintError"))
  g_SameInk : mg "SameInk" = some (.ref (He.ga K "SameInk"))
  g_TooDeep : mg "TooDeep" = some (.ref (He.ga K "TooDeep"))
  g_TooGreat : mg "TooGreat" = some (.ref (He.ga K "TooGreat"))
  g_TooLong : mg "TooLong" = some (.ref (He.ga K "TooLong"))
  g_TooMany : mg "TooMany" = some (.ref (He.ga K "TooMany"))
  g_TooManyPages : mg "TooManyPages" = some (.ref (He.ga K "TooManyPages"))
  g_Turns : mg "Turns" = some (.ref (He.ga K "Turns"))
  xt : XT K xtab cns ens
  fl : FldT K xtab flds
  n_BadText : InX K mg "BadText" ["place"]
  n_NoPlace : InX K mg "NoPlace" ["place"]
  n_TooDeep : InX K mg "TooDeep" ["limit"]
  y_PrintError : BaseI K mg "PrintError"
section
variable {P : Program} {w : World} {K : PySem.W.Frag} {mg : Str → Option Value} {base : Heap}
abbrev s_i_BadText : Stmt := inClass (top 14) 0
theorem sc_i_BadText : FnScope ["self", "place"] ["self", "place"] (defScope s_i_BadText) := ⟨rfl, rfl, rfl, by decide +kernel, rfl, by decide +kernel, by decide +kernel⟩
theorem I_BadText {fd : FuncData} (F : FunD K "__init__" "BadText.__init__" (defArgs s_i_BadText) (defBody s_i_BadText) (defScope s_i_BadText) [] [] (He.fAd K ("BadText", some "__init__")) fd) (T : Tx K mg) : XI P w K mg base "BadText" 1 ["place"] := by
  refine ⟨T.n_BadText.oc, T.n_BadText.gl, _, fd, ["self", "place"], fn_init1 (z := "the text cannot be read") F sc_i_BadText T.n_BadText.oc (T.n_BadText.no _ (List.mem_of_getElem? (i := 0) rfl)) (fun cdv A outer s H E => ?_), T.n_BadText.i, T.n_BadText.t, F.bindsN fun _ _ _ _ _ _ us hl => match us, hl with | [_, _], _ => rfl⟩
  exact pss_cons (ps_expr (pe_pinit T.y_PrintError rfl (pa_cons (pv 0) (pa_cons pe_str pa_nil)))) (pss_one (ps_ost (pv 0) (pv 1)))
abbrev s_i_NoPlace : Stmt := inClass (top 15) 0
theorem sc_i_NoPlace : FnScope ["self", "place"] ["self", "place"] (defScope s_i_NoPlace) := ⟨rfl, rfl, rfl, by decide +kernel, rfl, by decide +kernel, by decide +kernel⟩
theorem I_NoPlace {fd : FuncData} (F : FunD K "__init__" "NoPlace.__init__" (defArgs s_i_NoPlace) (defBody s_i_NoPlace) (defScope s_i_NoPlace) [] [] (He.fAd K ("NoPlace", some "__init__")) fd) (T : Tx K mg) : XI P w K mg base "NoPlace" 1 ["place"] := by
  refine ⟨T.n_NoPlace.oc, T.n_NoPlace.gl, _, fd, ["self", "place"], fn_init1 (z := "no item has this place") F sc_i_NoPlace T.n_NoPlace.oc (T.n_NoPlace.no _ (List.mem_of_getElem? (i := 0) rfl)) (fun cdv A outer s H E => ?_), T.n_NoPlace.i, T.n_NoPlace.t, F.bindsN fun _ _ _ _ _ _ us hl => match us, hl with | [_, _], _ => rfl⟩
  exact pss_cons (ps_expr (pe_pinit T.y_PrintError rfl (pa_cons (pv 0) (pa_cons pe_str pa_nil)))) (pss_one (ps_ost (pv 0) (pv 1)))
abbrev s_i_TooDeep : Stmt := inClass (top 20) 0
theorem sc_i_TooDeep : FnScope ["self", "limit"] ["self", "limit"] (defScope s_i_TooDeep) := ⟨rfl, rfl, rfl, by decide +kernel, rfl, by decide +kernel, by decide +kernel⟩
theorem I_TooDeep {fd : FuncData} (F : FunD K "__init__" "TooDeep.__init__" (defArgs s_i_TooDeep) (defBody s_i_TooDeep) (defScope s_i_TooDeep) [] [] (He.fAd K ("TooDeep", some "__init__")) fd) (T : Tx K mg) : XI P w K mg base "TooDeep" 1 ["limit"] := by
  refine ⟨T.n_TooDeep.oc, T.n_TooDeep.gl, _, fd, ["self", "limit"], fn_init1 (z := "too deep") F sc_i_TooDeep T.n_TooDeep.oc (T.n_TooDeep.no _ (List.mem_of_getElem? (i := 0) rfl)) (fun cdv A outer s H E => ?_), T.n_TooDeep.i, T.n_TooDeep.t, F.bindsN fun _ _ _ _ _ _ us hl => match us, hl with | [_, _], _ => rfl⟩
  exact pss_cons (ps_expr (pe_pinit T.y_PrintError rfl (pa_cons (pv 0) (pa_cons pe_str pa_nil)))) (pss_one (ps_ost (pv 0) (pv 1)))
abbrev s_is_name : Stmt := top 5
theorem sc_is_name : FnScope n_is_name ["text"] (defScope s_is_name) := ⟨rfl, rfl, rfl, by decide +kernel, rfl, by decide +kernel, by decide +kernel⟩
theorem D_is_name {f : Addr} {fd : FuncData} (F : FunD K "is_name" "is_name" (defArgs s_is_name) (defBody s_is_name) (defScope s_is_name) [] [] f fd) (hm : mg "is_name" = some (.ref f)) (T : Tx K mg) : Fn P w K mg base "is_name" 1 1 F_is_name := by
  refine ⟨f, fd, ["text"], fn_mkB (N := n_is_name) (n := 1) (k := 0) (g := b_is_name) F sc_is_name rfl (by decide) (fun cdv A outer s H E c W b => ?_), hm, F.kp, F.bindsN fun _ _ _ _ _ _ us hl => match us, hl with | [_], _ => rfl⟩
  exact (ds_cons (ds_if (PW.pt (dw_or (dt_not (dt_chain op_le ok_le op_le ok_le (de_c pe_int fun _ => .int _) (de_blt call_len ok_len rfl T.b_len (by decide +kernel) (da_cons (de_var (pv 0)) da_nil)) (de_c pe_int fun _ => .int _))) (dw_or1 (dt_cmp op_notInAll ok_inB (de_idx (de_var (pv 0)) (de_c pe_int fun _ => .int _)) (de_gStr rfl T.g_SMALL_LETTERS) rfl))))
 (ds_one (ds_ret (de_c pe_bl fun _ => .bl _)))
 ds_nil)
 (ds_cons (ds_for b.po b.calm (di_str (de_val (pv 0))) (dg_name (i := 1) sc_is_name.nd rfl (by first | exact Or.inl rfl | exact Or.inr rfl))
 (ds_one (ds_if (PW.pt (dw_and (dt_cmp op_notInAll ok_inB (de_var (pv 1)) (de_gStr rfl T.g_SMALL_LETTERS) rfl) (dw_and1 (dt_cmp op_notInAll ok_inB (de_var (pv 1)) (de_gStr rfl T.g_DIGITS) rfl))))
 (ds_one (ds_ret (de_c pe_bl fun _ => .bl _)))
 ds_nil)))
 (ds_one (ds_ret (de_c pe_bl fun _ => .bl _)))))

abbrev s_digits_value : Stmt := top 8
theorem sc_digits_value : FnScope n_digits_value ["text"] (defScope s_digits_value) := ⟨rfl, rfl, rfl, by decide +kernel, rfl, by decide +kernel, by decide +kernel⟩
theorem D_digits_value {f : Addr} {fd : FuncData} (F : FunD K "digits_value" "digits_value" (defArgs s_digits_value) (defBody s_digits_value) (defScope s_digits_value) [] [] f fd) (hm : mg "digits_value" = some (.ref f)) (T : Tx K mg) : Fn P w K mg base "digits_value" 1 1 F_digits_value := by
  refine ⟨f, fd, ["text"], fn_mkB (N := n_digits_value) (n := 1) (k := 0) (g := b_digits_value) F sc_digits_value rfl (by decide) (fun cdv A outer s H E c W b => ?_), hm, F.kp, F.bindsN fun _ _ _ _ _ _ us hl => match us, hl with | [_], _ => rfl⟩
  exact (ds_cons (ds_if (PW.pt (dw_or (dt_not (dt_chain op_le ok_le op_le ok_le (de_c pe_int fun _ => .int _) (de_blt call_len ok_len rfl T.b_len (by decide +kernel) (da_cons (de_var (pv 0)) da_nil)) (de_c pe_int fun _ => .int _))) (dw_or1 (PW.pt (dw_and (dt_cmp (op_eqAll b.room.units) ok_eq (de_idx (de_var (pv 0)) (de_c pe_int fun _ => .int _)) (de_c pe_str fun _ => .str _) (nomark _)) (dw_and1 (dt_cmp (op_neAll b.room.units) ok_ne (de_var (pv 0)) (de_c pe_str fun _ => .str _) (nomark _))))))))
 (ds_one (ds_ret (de_c pe_non fun _ => .non)))
 ds_nil)
 (ds_cons (ds_for b.po b.calm (di_str (de_val (pv 0))) (dg_name (i := 1) sc_digits_value.nd rfl (by first | exact Or.inl rfl | exact Or.inr rfl))
 (ds_one (ds_if (dt_cmp op_notInAll ok_inB (de_var (pv 1)) (de_gStr rfl T.g_DIGITS) rfl)
 (ds_one (ds_ret (de_c pe_non fun _ => .non)))
 ds_nil)))
 (ds_one (ds_ret (de_bltTy (call_int1.or call_int_str) ok_intT rfl T.b_int (by decide +kernel) (da_cons (de_var (pv 0)) da_nil))))))

abbrev s_token_number : Stmt := top 9
theorem sc_token_number : FnScope n_token_number ["text"] (defScope s_token_number) := ⟨rfl, rfl, rfl, by decide +kernel, rfl, by decide +kernel, by decide +kernel⟩
theorem D_token_number {f : Addr} {fd : FuncData} (F : FunD K "token_number" "token_number" (defArgs s_token_number) (defBody s_token_number) (defScope s_token_number) [] [] f fd) (hm : mg "token_number" = some (.ref f)) (T : Tx K mg) (H_digits_value : Fn P w K mg base "digits_value" 1 1 F_digits_value) : Fn P w K mg base "token_number" 2 1 F_token_number := by
  refine ⟨f, fd, ["text"], fn_mkB (N := n_token_number) (n := 1) (k := 1) (g := b_token_number) F sc_token_number rfl (by decide) (fun cdv A outer s H E c W b => ?_), hm, F.kp, F.bindsN fun _ _ _ _ _ _ us hl => match us, hl with | [_], _ => rfl⟩
  exact (ds_cons (ds_unp (de_part (de_var (pv 0)) (de_c pe_str fun _ => .str _)) (dg_tup b.calm (dgs_cons (dg_name (i := 1) sc_token_number.nd rfl (by first | exact Or.inl rfl | exact Or.inr rfl)) (dgs_cons (dg_name (i := 2) sc_token_number.nd rfl (by first | exact Or.inl rfl | exact Or.inr rfl)) (dgs_cons (dg_name (i := 3) sc_token_number.nd rfl (by first | exact Or.inl rfl | exact Or.inr rfl)) dgs_nil)))))
 (ds_cons (ds_asg (i := 4) sc_token_number.nd rfl (by first | exact Or.inl rfl | exact Or.inr rfl) (de_cmp (op_eqAll b.room.units) ok_eq (de_slice (de_var (pv 1)) do_none (do_some (de_c pe_int fun _ => .int _))) (de_c pe_str fun _ => .str _) (nomark _)))
 (ds_cons (ds_asg (i := 5) sc_token_number.nd rfl (by first | exact Or.inl rfl | exact Or.inr rfl) (de_fn b.toBx H_digits_value (by decide) rfl (da_cons (de_if (dt_tru (de_var (pv 4))) (de_slice (de_var (pv 1)) (do_some (de_c pe_int fun _ => .int _)) do_none) (de_val (pv 1))) da_nil)))
 (ds_cons (ds_if (PW.pt (dw_or (dt_cmp op_isAll ok_is (de_var (pv 5)) (de_c pe_non fun _ => .non) (nomark _)) (dw_or1 (PW.pt (dw_and (dt_tru (de_var (pv 4))) (dw_and1 (dt_cmp (op_eqAll b.room.units) ok_eq (de_var (pv 5)) (de_c pe_int fun _ => .int _) (nomark _))))))))
 (ds_one (ds_ret (de_c pe_non fun _ => .non)))
 ds_nil)
 (ds_cons (ds_if (dt_tru (de_var (pv 4)))
 (ds_one (ds_asg (i := 5) sc_token_number.nd rfl (by first | exact Or.inl rfl | exact Or.inr rfl) (de_neg (de_var (pv 5)))))
 ds_nil)
 (ds_cons (ds_if (dt_cmp (op_eqAll b.room.units) ok_eq (de_var (pv 2)) (de_c pe_str fun _ => .str _) (nomark _))
 (ds_one (ds_ret (de_tup (da_cons (de_val (pv 5)) (da_cons (de_c pe_int fun _ => .int _) (da_cons (de_c pe_int fun _ => .int _) da_nil))))))
 ds_nil)
 (ds_cons (ds_asg (i := 6) sc_token_number.nd rfl (by first | exact Or.inl rfl | exact Or.inr rfl) (de_fn b.toBx H_digits_value (by decide) rfl (da_cons (de_val (pv 3)) da_nil)))
 (ds_cons (ds_if (PW.pt (dw_or (dt_cmp op_isAll ok_is (de_var (pv 6)) (de_c pe_non fun _ => .non) (nomark _)) (dw_or (dt_cmp op_lt ok_lt (de_var (pv 6)) (de_c pe_int fun _ => .int _) (nomark _)) (dw_or1 (dt_cmp (op_neAll b.room.units) ok_ne (de_bltFn cr_gcd ok_gcd2 rfl T.i_gcd (da_cons (de_var (pv 5)) (da_cons (de_var (pv 6)) da_nil))) (de_c pe_int fun _ => .int _) (nomark _))))))
 (ds_one (ds_ret (de_c pe_non fun _ => .non)))
 ds_nil)
 (ds_one (ds_ret (de_tup (da_cons (de_val (pv 5)) (da_cons (de_c pe_int fun _ => .int _) (da_cons (de_val (pv 6)) da_nil))))))))))))))

abbrev s_token_kind : Stmt := top 10
theorem sc_token_kind : FnScope n_token_kind ["text"] (defScope s_token_kind) := ⟨rfl, rfl, rfl, by decide +kernel, rfl, by decide +kernel, by decide +kernel⟩
theorem D_token_kind {f : Addr} {fd : FuncData} (F : FunD K "token_kind" "token_kind" (defArgs s_token_kind) (defBody s_token_kind) (defScope s_token_kind) [] [] f fd) (hm : mg "token_kind" = some (.ref f)) (T : Tx K mg) (H_is_name : Fn P w K mg base "is_name" 1 1 F_is_name) (H_token_number : Fn P w K mg base "token_number" 2 1 F_token_number) : Fn P w K mg base "token_kind" 3 1 F_token_kind := by
  refine ⟨f, fd, ["text"], fn_mkB (N := n_token_kind) (n := 1) (k := 2) (g := b_token_kind) F sc_token_kind rfl (by decide) (fun cdv A outer s H E c W b => ?_), hm, F.kp, F.bindsN fun _ _ _ _ _ _ us hl => match us, hl with | [_], _ => rfl⟩
  exact (ds_cons (ds_if (dt_cmp (op_eqAll b.room.units) ok_eq (de_var (pv 0)) (de_c pe_str fun _ => .str _) (nomark _))
 (ds_one (ds_ret (de_c pe_str fun _ => .str _)))
 ds_nil)
 (ds_cons (ds_if (dt_cmp (op_eqAll b.room.units) ok_eq (de_var (pv 0)) (de_c pe_str fun _ => .str _) (nomark _))
 (ds_one (ds_ret (de_c pe_str fun _ => .str _)))
 ds_nil)
 (ds_cons (ds_if (PW.pt (dw_or (dt_cmp (op_eqAll b.room.units) ok_eq (de_var (pv 0)) (de_c pe_str fun _ => .str _) (nomark _)) (dw_or (dt_cmp (op_eqAll b.room.units) ok_eq (de_var (pv 0)) (de_c pe_str fun _ => .str _) (nomark _)) (dw_or1 (dt_tru (de_fn b.toBx H_is_name (by decide) rfl (da_cons (de_val (pv 0)) da_nil)))))))
 (ds_one (ds_ret (de_c pe_str fun _ => .str _)))
 ds_nil)
 (ds_cons (ds_if (PW.pt (dw_and (dt_cmp (op_eqAll b.room.units) ok_eq (de_slice (de_var (pv 0)) do_none (do_some (de_c pe_int fun _ => .int _))) (de_c pe_str fun _ => .str _) (nomark _)) (dw_and1 (dt_tru (de_fn b.toBx H_is_name (by decide) rfl (da_cons (de_slice (de_var (pv 0)) (do_some (de_c pe_int fun _ => .int _)) do_none) da_nil))))))
 (ds_one (ds_ret (de_c pe_str fun _ => .str _)))
 ds_nil)
 (ds_cons (ds_if (dt_cmp op_notAll ok_isNot (de_fn b.toBx H_token_number (by decide) rfl (da_cons (de_val (pv 0)) da_nil)) (de_c pe_non fun _ => .non) (nomark _))
 (ds_one (ds_ret (de_c pe_str fun _ => .str _)))
 ds_nil)
 (ds_one (ds_ret (de_c pe_str fun _ => .str _))))))))

abbrev s_tokens : Stmt := top 11
theorem sc_tokens : FnScope n_tokens ["text"] (defScope s_tokens) := ⟨rfl, rfl, rfl, by decide +kernel, rfl, by decide +kernel, by decide +kernel⟩
theorem D_tokens {f : Addr} {fd : FuncData} (F : FunD K "tokens" "tokens" (defArgs s_tokens) (defBody s_tokens) (defScope s_tokens) [] [] f fd) (hm : mg "tokens" = some (.ref f)) (T : Tx K mg) (H_token_kind : Fn P w K mg base "token_kind" 3 1 F_token_kind) : Fn P w K mg base "tokens" 4 1 F_tokens := by
  refine ⟨f, fd, ["text"], fn_mkB (N := n_tokens) (n := 1) (k := 3) (g := b_tokens) F sc_tokens rfl (by decide) (fun cdv A outer s H E c W b => ?_), hm, F.kp, F.bindsN fun _ _ _ _ _ _ us hl => match us, hl with | [_], _ => rfl⟩
  exact (ds_cons (ds_asgF (i := 1) sc_tokens.nd rfl (by first | exact Or.inl rfl | exact Or.inr rfl) (de_lstF da_nil))
 (ds_cons (ds_asg (i := 2) sc_tokens.nd rfl (by first | exact Or.inl rfl | exact Or.inr rfl) (de_c pe_int fun _ => .int _))
 (ds_cons (ds_for b.po b.calm (di_enumX rfl T.b_enumerate (da_cons (de_bin op_addAll ok_add (de_var (pv 0)) (de_c pe_str fun _ => .str _)) da_nil)) (dg_tup b.calm (dgs_cons (dg_name (i := 3) sc_tokens.nd rfl (by first | exact Or.inl rfl | exact Or.inr rfl)) (dgs_cons (dg_name (i := 4) sc_tokens.nd rfl (by first | exact Or.inl rfl | exact Or.inr rfl)) dgs_nil)))
 (ds_one (ds_if (dt_cmp op_inAll ok_inB (de_var (pv 4)) (de_gStr rfl T.g_SEPARATORS) rfl)
 (ds_cons (ds_if (dt_cmp op_lt ok_lt (de_var (pv 2)) (de_var (pv 3)) (nomark _))
 (ds_one (ds_app (de_var (pv 1)) (de_tup (da_cons (de_fn b.toBx H_token_kind (by decide) rfl (da_cons (de_slice (de_var (pv 0)) (do_some (de_var (pv 2))) (do_some (de_var (pv 3)))) da_nil)) (da_cons (de_slice (de_var (pv 0)) (do_some (de_var (pv 2))) (do_some (de_var (pv 3)))) (da_cons (de_val (pv 2)) da_nil))))))
 ds_nil)
 (ds_cons (ds_if (PW.pt (dw_or (dt_cmp (op_eqAll b.room.units) ok_eq (de_var (pv 4)) (de_c pe_str fun _ => .str _) (nomark _)) (dw_or1 (dt_cmp (op_eqAll b.room.units) ok_eq (de_var (pv 4)) (de_c pe_str fun _ => .str _) (nomark _)))))
 (ds_one (ds_app (de_var (pv 1)) (de_tup (da_cons (de_fn b.toBx H_token_kind (by decide) rfl (da_cons (de_val (pv 4)) da_nil)) (da_cons (de_val (pv 4)) (da_cons (de_val (pv 3)) da_nil))))))
 ds_nil)
 (ds_one (ds_asg (i := 2) sc_tokens.nd rfl (by first | exact Or.inl rfl | exact Or.inr rfl) (de_bin op_addAll ok_add (de_var (pv 3)) (de_c pe_int fun _ => .int _))))))
 ds_nil)))
 (ds_one (ds_ret (de_val (pv 1)))))))

abbrev s_single_item : Stmt := top 42
theorem sc_single_item : FnScope n_single_item ["kind", "token"] (defScope s_single_item) := ⟨rfl, rfl, rfl, by decide +kernel, rfl, by decide +kernel, by decide +kernel⟩
theorem D_single_item {f : Addr} {fd : FuncData} (F : FunD K "single_item" "single_item" (defArgs s_single_item) (defBody s_single_item) (defScope s_single_item) [] [] f fd) (hm : mg "single_item" = some (.ref f)) (T : Tx K mg) (H_token_number : Fn P w K mg base "token_number" 2 1 F_token_number) : Fn P w K mg base "single_item" 3 2 F_single_item := by
  refine ⟨f, fd, ["kind", "token"], fn_mkB (N := n_single_item) (n := 2) (k := 2) (g := b_single_item) F sc_single_item rfl (by decide) (fun cdv A outer s H E c W b => ?_), hm, F.kp, F.bindsN fun _ _ _ _ _ _ us hl => match us, hl with | [_, _], _ => rfl⟩
  exact (ds_cons (ds_if (dt_cmp (op_eqAll b.room.units) ok_eq (de_var (pv 0)) (de_c pe_str fun _ => .str _) (nomark _))
 (ds_one (ds_ret (de_tup (da_cons (de_c pe_str fun _ => .str _) (da_cons (de_fn b.toBx H_token_number (by decide) rfl (da_cons (de_val (pv 1)) da_nil)) da_nil)))))
 ds_nil)
 (ds_cons (ds_if (dt_cmp (op_eqAll b.room.units) ok_eq (de_var (pv 0)) (de_c pe_str fun _ => .str _) (nomark _))
 (ds_one (ds_ret (de_tup (da_cons (de_c pe_str fun _ => .str _) (da_cons (de_slice (de_var (pv 1)) (do_some (de_c pe_int fun _ => .int _)) do_none) da_nil)))))
 ds_nil)
 (ds_one (ds_ret (de_tup (da_cons (de_c pe_str fun _ => .str _) (da_cons (de_val (pv 1)) da_nil)))))))

abbrev s_read_items : Stmt := top 43
theorem sc_read_items : FnScope n_read_items ["text"] (defScope s_read_items) := ⟨rfl, rfl, rfl, by decide +kernel, rfl, by decide +kernel, by decide +kernel⟩
theorem D_read_items {f : Addr} {fd : FuncData} (F : FunD K "read_items" "read_items" (defArgs s_read_items) (defBody s_read_items) (defScope s_read_items) [] [] f fd) (hm : mg "read_items" = some (.ref f)) (T : Tx K mg) (H_tokens : Fn P w K mg base "tokens" 4 1 F_tokens) (H_single_item : Fn P w K mg base "single_item" 3 2 F_single_item) (H_XI_BadText : XI P w K mg base "BadText" 1 ["place"]) : Fn P w K mg base "read_items" 5 1 F_read_items := by
  refine ⟨f, fd, ["text"], fn_mkB (N := n_read_items) (n := 1) (k := 4) (g := b_read_items) F sc_read_items rfl (by decide) (fun cdv A outer s H E c W b => ?_), hm, F.kp, F.bindsN fun _ _ _ _ _ _ us hl => match us, hl with | [_], _ => rfl⟩
  exact (ds_cons (ds_nest (i := 1) sc_read_items.nd rfl (by first | exact Or.inl rfl | exact Or.inr rfl))
 (ds_cons (ds_for b.po b.calm (di_seq (de_fn b.toBx H_tokens (by decide) rfl (da_cons (de_val (pv 0)) da_nil))) (dg_tup b.calm (dgs_cons (dg_name (i := 2) sc_read_items.nd rfl (by first | exact Or.inl rfl | exact Or.inr rfl)) (dgs_cons (dg_name (i := 3) sc_read_items.nd rfl (by first | exact Or.inl rfl | exact Or.inr rfl)) (dgs_cons (dg_name (i := 4) sc_read_items.nd rfl (by first | exact Or.inl rfl | exact Or.inr rfl)) dgs_nil))))
 (ds_cons (ds_if (PW.pt (dw_or (dt_cmp (op_eqAll b.room.units) ok_eq (de_var (pv 2)) (de_c pe_str fun _ => .str _) (nomark _)) (dw_or (PW.pt (dw_and (dt_cmp (op_eqAll b.room.units) ok_eq (de_var (pv 2)) (de_c pe_str fun _ => .str _) (nomark _)) (dw_and1 (dt_cmp (op_eqAll b.room.units) ok_eq (de_blt call_len ok_len rfl T.b_len (by decide +kernel) (da_cons (de_var (pv 1)) da_nil)) (de_c pe_int fun _ => .int _) (nomark _))))) (dw_or1 (PW.pt (dw_and (dt_cmp (op_eqAll b.room.units) ok_eq (de_var (pv 2)) (de_c pe_str fun _ => .str _) (nomark _)) (dw_and1 (dt_cmp op_gt ok_gt (de_blt call_len ok_len rfl T.b_len (by decide +kernel) (da_cons (de_var (pv 1)) da_nil)) (de_gInt rfl T.g_DEEPEST) (nomark _)))))))))
 (ds_one (ds_raiseN b.toBx H_XI_BadText (by decide) (by simp) rfl (da_cons (de_val (pv 4)) da_nil)))
 ds_nil)
 (ds_one (ds_if (dt_cmp (op_eqAll b.room.units) ok_eq (de_var (pv 2)) (de_c pe_str fun _ => .str _) (nomark _))
 (ds_one (ds_appN (pv 1)))
 (ds_one (ds_if (dt_cmp (op_eqAll b.room.units) ok_eq (de_var (pv 2)) (de_c pe_str fun _ => .str _) (nomark _))
 (ds_cons (ds_asg (i := 5) sc_read_items.nd rfl (by first | exact Or.inl rfl | exact Or.inr rfl) (de_pop (pv 1)))
 (ds_one (ds_appR (pv 1) pe_neg1 (de_tup (da_cons (de_c pe_str fun _ => .str _) (da_cons (de_bltTy call_tuple_of ok_tuple rfl T.b_tuple (by decide +kernel) (da_cons (de_var (pv 5)) da_nil)) da_nil))))))
 (ds_one (ds_appR (pv 1) pe_neg1 (de_fn b.toBx H_single_item (by decide) rfl (da_cons (de_val (pv 2)) (da_cons (de_val (pv 3)) da_nil)))))))))))
 (ds_cons (ds_if (dt_cmp op_gt ok_gt (de_blt call_len ok_len rfl T.b_len (by decide +kernel) (da_cons (de_var (pv 1)) da_nil)) (de_c pe_int fun _ => .int _) (nomark _))
 (ds_one (ds_raiseN b.toBx H_XI_BadText (by decide) (by simp) rfl (da_cons (de_blt call_len ok_len rfl T.b_len (by decide +kernel) (da_cons (de_var (pv 0)) da_nil)) da_nil)))
 ds_nil)
 (ds_one (ds_ret (de_bltTy call_tuple_of ok_tuple rfl T.b_tuple (by decide +kernel) (da_cons (de_row (pv 1) pe_int) da_nil)))))))

abbrev s_proc_depth : Stmt := top 45
theorem sc_proc_depth : FnScope n_proc_depth ["items"] (defScope s_proc_depth) := ⟨rfl, rfl, rfl, by decide +kernel, rfl, by decide +kernel, by decide +kernel⟩
theorem D_proc_depth {f : Addr} {fd : FuncData} (F : FunD K "proc_depth" "proc_depth" (defArgs s_proc_depth) (defBody s_proc_depth) (defScope s_proc_depth) [] [] f fd) (hm : mg "proc_depth" = some (.ref f)) (T : Tx K mg) : Fn P w K mg base "proc_depth" 41 1 F_proc_depth := by
  have go : ∀ m : Nat, Fn P w K mg base "proc_depth" (m + 1) 1 (G_proc_depth m) := fun m => by
    induction m with
    | zero => exact ⟨f, fd, ["items"], fn_mkB (N := n_proc_depth) (n := 1) (k := 0) (g := sNo) F sc_proc_depth rfl (by decide) (fun cdv A outer s H E c W b => dss_no), hm, F.kp, F.bindsN fun _ _ _ _ _ _ us hl => match us, hl with | [_], _ => rfl⟩
    | succ m IH =>
      have z : m + 1 + 1 = m + 1 + 1 := by omega
      rw [z]
      refine ⟨f, fd, ["items"], fn_mkB (N := n_proc_depth) (n := 1) (k := m + 1) (g := b_proc_depth (G_proc_depth m)) F sc_proc_depth rfl (by decide) (fun cdv A outer s H E c W b => ?_), hm, F.kp, F.bindsN fun _ _ _ _ _ _ us hl => match us, hl with | [_], _ => rfl⟩
      exact (ds_cons (ds_asg (i := 1) sc_proc_depth.nd rfl (by first | exact Or.inl rfl | exact Or.inr rfl) (de_c pe_int fun _ => .int _))
 (ds_cons (ds_for b.po b.calm (di_seq (de_val (pv 0))) (dg_tup b.calm (dgs_cons (dg_name (i := 2) sc_proc_depth.nd rfl (by first | exact Or.inl rfl | exact Or.inr rfl)) (dgs_cons (dg_name (i := 3) sc_proc_depth.nd rfl (by first | exact Or.inl rfl | exact Or.inr rfl)) dgs_nil)))
 (ds_one (ds_if (dt_cmp (op_eqAll b.room.units) ok_eq (de_var (pv 2)) (de_c pe_str fun _ => .str _) (nomark _))
 (ds_one (ds_asg (i := 1) sc_proc_depth.nd rfl (by first | exact Or.inl rfl | exact Or.inr rfl) (de_blt (call_max2 b.calm) ok_max2 rfl T.b_max (by decide +kernel) (da_cons (de_var (pv 1)) (da_cons (de_bin op_addAll ok_add (de_c pe_int fun _ => .int _) (de_fn b.toBx IH (Nat.le_refl _) rfl (da_cons (de_val (pv 3)) da_nil))) da_nil)))))
 ds_nil)))
 (ds_one (ds_ret (de_val (pv 1))))))
  exact go 40

abbrev s_places_behind : Stmt := top 46
theorem sc_places_behind : FnScope n_places_behind ["around", "items"] (defScope s_places_behind) := ⟨rfl, rfl, rfl, by decide +kernel, rfl, by decide +kernel, by decide +kernel⟩
theorem D_places_behind {f : Addr} {fd : FuncData} (F : FunD K "places_behind" "places_behind" (defArgs s_places_behind) (defBody s_places_behind) (defScope s_places_behind) [] [] f fd) (hm : mg "places_behind" = some (.ref f)) (T : Tx K mg) : Fn P w K mg base "places_behind" 41 2 F_places_behind := by
  have go : ∀ m : Nat, Fn P w K mg base "places_behind" (m + 1) 2 (G_places_behind m) := fun m => by
    induction m with
    | zero => exact ⟨f, fd, ["around", "items"], fn_mkB (N := n_places_behind) (n := 2) (k := 0) (g := sNo) F sc_places_behind rfl (by decide) (fun cdv A outer s H E c W b => dss_no), hm, F.kp, F.bindsN fun _ _ _ _ _ _ us hl => match us, hl with | [_, _], _ => rfl⟩
    | succ m IH =>
      have z : m + 1 + 1 = m + 1 + 1 := by omega
      rw [z]
      refine ⟨f, fd, ["around", "items"], fn_mkB (N := n_places_behind) (n := 2) (k := m + 1) (g := b_places_behind (G_places_behind m)) F sc_places_behind rfl (by decide) (fun cdv A outer s H E c W b => ?_), hm, F.kp, F.bindsN fun _ _ _ _ _ _ us hl => match us, hl with | [_, _], _ => rfl⟩
      exact (ds_cons (ds_asgF (i := 2) sc_places_behind.nd rfl (by first | exact Or.inl rfl | exact Or.inr rfl) (de_lstF da_nil))
 (ds_cons (ds_for b.po b.calm (di_range1 rfl T.b_range (da_cons (de_blt call_len ok_len rfl T.b_len (by decide +kernel) (da_cons (de_var (pv 1)) da_nil)) da_nil)) (dg_name (i := 3) sc_places_behind.nd rfl (by first | exact Or.inl rfl | exact Or.inr rfl))
 (ds_cons (ds_asg (i := 4) sc_places_behind.nd rfl (by first | exact Or.inl rfl | exact Or.inr rfl) (de_bin op_addAll ok_add (de_var (pv 0)) (de_tup (da_cons (de_val (pv 3)) da_nil))))
 (ds_cons (ds_app (de_var (pv 2)) (de_val (pv 4)))
 (ds_cons (ds_unp (de_idx (de_var (pv 1)) (de_var (pv 3))) (dg_tup b.calm (dgs_cons (dg_name (i := 5) sc_places_behind.nd rfl (by first | exact Or.inl rfl | exact Or.inr rfl)) (dgs_cons (dg_name (i := 6) sc_places_behind.nd rfl (by first | exact Or.inl rfl | exact Or.inr rfl)) dgs_nil))))
 (ds_one (ds_if (dt_cmp (op_eqAll b.room.units) ok_eq (de_var (pv 5)) (de_c pe_str fun _ => .str _) (nomark _))
 (ds_one (ds_ext (de_var (pv 2)) (de_fn b.toBx IH (Nat.le_refl _) rfl (da_cons (de_val (pv 4)) (da_cons (de_val (pv 6)) da_nil)))))
 ds_nil))))))
 (ds_one (ds_ret (de_val (pv 2))))))
  exact go 40

abbrev s_places : Stmt := top 47
theorem sc_places : FnScope n_places ["items"] (defScope s_places) := ⟨rfl, rfl, rfl, by decide +kernel, rfl, by decide +kernel, by decide +kernel⟩
theorem D_places {f : Addr} {fd : FuncData} (F : FunD K "places" "places" (defArgs s_places) (defBody s_places) (defScope s_places) [] [] f fd) (hm : mg "places" = some (.ref f)) (T : Tx K mg) (H_places_behind : Fn P w K mg base "places_behind" 41 2 F_places_behind) : Fn P w K mg base "places" 42 1 F_places := by
  refine ⟨f, fd, ["items"], fn_mkB (N := n_places) (n := 1) (k := 41) (g := b_places) F sc_places rfl (by decide) (fun cdv A outer s H E c W b => ?_), hm, F.kp, F.bindsN fun _ _ _ _ _ _ us hl => match us, hl with | [_], _ => rfl⟩
  exact (ds_one (ds_ret (de_fn b.toBx H_places_behind (by decide) rfl (da_cons (de_tup da_nil) (da_cons (de_val (pv 0)) da_nil)))))

abbrev s_rows_around : Stmt := top 48
theorem sc_rows_around : FnScope n_rows_around ["items", "place"] (defScope s_rows_around) := ⟨rfl, rfl, rfl, by decide +kernel, rfl, by decide +kernel, by decide +kernel⟩
theorem D_rows_around {f : Addr} {fd : FuncData} (F : FunD K "rows_around" "rows_around" (defArgs s_rows_around) (defBody s_rows_around) (defScope s_rows_around) [] [] f fd) (hm : mg "rows_around" = some (.ref f)) (T : Tx K mg) (H_XI_NoPlace : XI P w K mg base "NoPlace" 1 ["place"]) : Fn P w K mg base "rows_around" 3 2 F_rows_around := by
  refine ⟨f, fd, ["items", "place"], fn_mkB (N := n_rows_around) (n := 2) (k := 2) (g := b_rows_around) F sc_rows_around rfl (by decide) (fun cdv A outer s H E c W b => ?_), hm, F.kp, F.bindsN fun _ _ _ _ _ _ us hl => match us, hl with | [_, _], _ => rfl⟩
  exact (ds_cons (ds_asgF (i := 2) sc_rows_around.nd rfl (by first | exact Or.inl rfl | exact Or.inr rfl) (de_lstF da_nil))
 (ds_cons (ds_asg (i := 3) sc_rows_around.nd rfl (by first | exact Or.inl rfl | exact Or.inr rfl) (de_val (pv 0)))
 (ds_cons (ds_for b.po b.calm (di_seq (de_val (pv 1))) (dg_name (i := 4) sc_rows_around.nd rfl (by first | exact Or.inl rfl | exact Or.inr rfl))
 (ds_cons (ds_if (dt_not (dt_chain op_le ok_le op_lt ok_lt (de_c pe_int fun _ => .int _) (de_var (pv 4)) (de_blt call_len ok_len rfl T.b_len (by decide +kernel) (da_cons (de_var (pv 3)) da_nil))))
 (ds_one (ds_raiseN b.toBx H_XI_NoPlace (by decide) (by simp) rfl (da_cons (de_val (pv 1)) da_nil)))
 ds_nil)
 (ds_cons (ds_app (de_var (pv 2)) (de_val (pv 3)))
 (ds_cons (ds_unp (de_idx (de_var (pv 3)) (de_var (pv 4))) (dg_tup b.calm (dgs_cons (dg_name (i := 5) sc_rows_around.nd rfl (by first | exact Or.inl rfl | exact Or.inr rfl)) (dgs_cons (dg_name (i := 6) sc_rows_around.nd rfl (by first | exact Or.inl rfl | exact Or.inr rfl)) dgs_nil))))
 (ds_one (ds_asg (i := 3) sc_rows_around.nd rfl (by first | exact Or.inl rfl | exact Or.inr rfl) (de_if (dt_cmp (op_eqAll b.room.units) ok_eq (de_var (pv 5)) (de_c pe_str fun _ => .str _) (nomark _)) (de_val (pv 6)) (de_tup da_nil))))))))
 (ds_cons (ds_if (dt_cmp (op_eqAll b.room.units) ok_eq (de_blt call_len ok_len rfl T.b_len (by decide +kernel) (da_cons (de_var (pv 2)) da_nil)) (de_c pe_int fun _ => .int _) (nomark _))
 (ds_one (ds_raiseN b.toBx H_XI_NoPlace (by decide) (by simp) rfl (da_cons (de_val (pv 1)) da_nil)))
 ds_nil)
 (ds_one (ds_ret (de_val (pv 2))))))))

abbrev s_item_at : Stmt := top 49
theorem sc_item_at : FnScope n_item_at ["items", "place"] (defScope s_item_at) := ⟨rfl, rfl, rfl, by decide +kernel, rfl, by decide +kernel, by decide +kernel⟩
theorem D_item_at {f : Addr} {fd : FuncData} (F : FunD K "item_at" "item_at" (defArgs s_item_at) (defBody s_item_at) (defScope s_item_at) [] [] f fd) (hm : mg "item_at" = some (.ref f)) (T : Tx K mg) (H_rows_around : Fn P w K mg base "rows_around" 3 2 F_rows_around) : Fn P w K mg base "item_at" 4 2 F_item_at := by
  refine ⟨f, fd, ["items", "place"], fn_mkB (N := n_item_at) (n := 2) (k := 3) (g := b_item_at) F sc_item_at rfl (by decide) (fun cdv A outer s H E c W b => ?_), hm, F.kp, F.bindsN fun _ _ _ _ _ _ us hl => match us, hl with | [_, _], _ => rfl⟩
  exact (ds_cons (ds_asg (i := 2) sc_item_at.nd rfl (by first | exact Or.inl rfl | exact Or.inr rfl) (de_fn b.toBx H_rows_around (by decide) rfl (da_cons (de_val (pv 0)) (da_cons (de_val (pv 1)) da_nil))))
 (ds_one (ds_ret (de_idx (de_idx (de_var (pv 2)) (de_neg (de_c pe_int fun _ => .int _))) (de_idx (de_var (pv 1)) (de_neg (de_c pe_int fun _ => .int _)))))))

abbrev s_spliced : Stmt := top 50
theorem sc_spliced : FnScope n_spliced ["row", "index", "inner"] (defScope s_spliced) := ⟨rfl, rfl, rfl, by decide +kernel, rfl, by decide +kernel, by decide +kernel⟩
theorem D_spliced {f : Addr} {fd : FuncData} (F : FunD K "spliced" "spliced" (defArgs s_spliced) (defBody s_spliced) (defScope s_spliced) [] [] f fd) (hm : mg "spliced" = some (.ref f)) (T : Tx K mg) : Fn P w K mg base "spliced" 1 3 F_spliced := by
  refine ⟨f, fd, ["row", "index", "inner"], fn_mkB (N := n_spliced) (n := 3) (k := 0) (g := b_spliced) F sc_spliced rfl (by decide) (fun cdv A outer s H E c W b => ?_), hm, F.kp, F.bindsN fun _ _ _ _ _ _ us hl => match us, hl with | [_, _, _], _ => rfl⟩
  exact (ds_one (ds_ret (de_bin op_addAll ok_add (de_bin op_addAll ok_add (de_slice (de_var (pv 0)) do_none (do_some (de_var (pv 1)))) (de_var (pv 2))) (de_slice (de_var (pv 0)) (do_some (de_bin op_addAll ok_add (de_var (pv 1)) (de_c pe_int fun _ => .int _))) do_none))))

abbrev s_exchanged : Stmt := top 51
theorem sc_exchanged : FnScope n_exchanged ["items", "place", "row"] (defScope s_exchanged) := ⟨rfl, rfl, rfl, by decide +kernel, rfl, by decide +kernel, by decide +kernel⟩
theorem D_exchanged {f : Addr} {fd : FuncData} (F : FunD K "exchanged" "exchanged" (defArgs s_exchanged) (defBody s_exchanged) (defScope s_exchanged) [] [] f fd) (hm : mg "exchanged" = some (.ref f)) (T : Tx K mg) (H_rows_around : Fn P w K mg base "rows_around" 3 2 F_rows_around) (H_spliced : Fn P w K mg base "spliced" 1 3 F_spliced) (H_proc_depth : Fn P w K mg base "proc_depth" 41 1 F_proc_depth) (H_XI_TooDeep : XI P w K mg base "TooDeep" 1 ["limit"]) : Fn P w K mg base "exchanged" 42 3 F_exchanged := by
  refine ⟨f, fd, ["items", "place", "row"], fn_mkB (N := n_exchanged) (n := 3) (k := 41) (g := b_exchanged) F sc_exchanged rfl (by decide) (fun cdv A outer s H E c W b => ?_), hm, F.kp, F.bindsN fun _ _ _ _ _ _ us hl => match us, hl with | [_, _, _], _ => rfl⟩
  exact (ds_cons (ds_asg (i := 3) sc_exchanged.nd rfl (by first | exact Or.inl rfl | exact Or.inr rfl) (de_fn b.toBx H_rows_around (by decide) rfl (da_cons (de_val (pv 0)) (da_cons (de_val (pv 1)) da_nil))))
 (ds_cons (ds_asg (i := 4) sc_exchanged.nd rfl (by first | exact Or.inl rfl | exact Or.inr rfl) (de_val (pv 2)))
 (ds_cons (ds_for b.po b.calm (di_range3 rfl T.b_range (da_cons (de_bin op_sub ok_sub (de_blt call_len ok_len rfl T.b_len (by decide +kernel) (da_cons (de_var (pv 1)) da_nil)) (de_c pe_int fun _ => .int _)) (da_cons (de_c pe_int fun _ => .int _) (da_cons (de_neg (de_c pe_int fun _ => .int _)) da_nil)))) (dg_name (i := 5) sc_exchanged.nd rfl (by first | exact Or.inl rfl | exact Or.inr rfl))
 (ds_one (ds_asg (i := 4) sc_exchanged.nd rfl (by first | exact Or.inl rfl | exact Or.inr rfl) (de_tup (da_cons (de_tup (da_cons (de_c pe_str fun _ => .str _) (da_cons (de_fn b.toBx H_spliced (by decide) rfl (da_cons (de_idx (de_var (pv 3)) (de_var (pv 5))) (da_cons (de_idx (de_var (pv 1)) (de_var (pv 5))) (da_cons (de_val (pv 4)) da_nil)))) da_nil))) da_nil)))))
 (ds_cons (ds_asg (i := 6) sc_exchanged.nd rfl (by first | exact Or.inl rfl | exact Or.inr rfl) (de_fn b.toBx H_spliced (by decide) rfl (da_cons (de_idx (de_var (pv 3)) (de_c pe_int fun _ => .int _)) (da_cons (de_idx (de_var (pv 1)) (de_c pe_int fun _ => .int _)) (da_cons (de_val (pv 4)) da_nil)))))
 (ds_cons (ds_if (dt_cmp op_gt ok_gt (de_fn b.toBx H_proc_depth (by decide) rfl (da_cons (de_val (pv 6)) da_nil)) (de_gInt rfl T.g_DEEPEST) (nomark _))
 (ds_one (ds_raiseN b.toBx H_XI_TooDeep (by decide) (by simp) rfl (da_cons (de_gInt rfl T.g_DEEPEST) da_nil)))
 ds_nil)
 (ds_one (ds_ret (de_val (pv 6)))))))))

abbrev s__law_gcd : Stmt := top 53
theorem sc__law_gcd : FnScope n__law_gcd ["a", "b"] (defScope s__law_gcd) := ⟨rfl, rfl, rfl, by decide +kernel, rfl, by decide +kernel, by decide +kernel⟩
theorem D__law_gcd {f : Addr} {fd : FuncData} (F : FunD K "_law_gcd" "_law_gcd" (defArgs s__law_gcd) (defBody s__law_gcd) (defScope s__law_gcd) [] [] f fd) (hm : mg "_law_gcd" = some (.ref f)) (T : Tx K mg) : Fn P w K mg base "_law_gcd" 1 2 F__law_gcd := by
  refine ⟨f, fd, ["a", "b"], fn_mkB (N := n__law_gcd) (n := 2) (k := 0) (g := b__law_gcd) F sc__law_gcd rfl (by decide) (fun cdv A outer s H E c W b => ?_), hm, F.kp, F.bindsN fun _ _ _ _ _ _ us hl => match us, hl with | [_, _], _ => rfl⟩
  exact (ds_cons (ds_asg (i := 0) sc__law_gcd.nd rfl (by first | exact Or.inl rfl | exact Or.inr rfl) (de_blt call_abs ok_abs rfl T.b_abs (by decide +kernel) (da_cons (de_var (pv 0)) da_nil)))
 (ds_cons (ds_asg (i := 1) sc__law_gcd.nd rfl (by first | exact Or.inl rfl | exact Or.inr rfl) (de_blt call_abs ok_abs rfl T.b_abs (by decide +kernel) (da_cons (de_var (pv 1)) da_nil)))
 (ds_cons (ds_for b.po b.calm (di_range1 rfl T.b_range (da_cons (de_c pe_int fun _ => .int _) da_nil)) (dg_name (i := 2) sc__law_gcd.nd rfl (by first | exact Or.inl rfl | exact Or.inr rfl))
 (ds_cons (ds_if (dt_cmp (op_eqAll b.room.units) ok_eq (de_var (pv 1)) (de_c pe_int fun _ => .int _) (nomark _))
 (ds_one ds_break)
 ds_nil)
 (ds_one (ds_par (i := 0) (j := 1) b.calm sc__law_gcd.nd rfl rfl (by decide) rfl rfl (da_cons (de_val (pv 1)) (da_cons (de_bin op_modN ok_mod (de_bltTy call_int1 ok_toInt rfl T.b_int (by decide +kernel) (da_cons (de_var (pv 0)) da_nil)) (de_var (pv 1))) da_nil)) (by rfl)))))
 (ds_one (ds_ret (de_val (pv 0)))))))

abbrev s__law_row : Stmt := top 54
theorem sc__law_row : FnScope n__law_row ["script"] (defScope s__law_row) := ⟨rfl, rfl, rfl, by decide +kernel, rfl, by decide +kernel, by decide +kernel⟩
theorem D__law_row {f : Addr} {fd : FuncData} (F : FunD K "_law_row" "_law_row" (defArgs s__law_row) (defBody s__law_row) (defScope s__law_row) [] [] f fd) (hm : mg "_law_row" = some (.ref f)) (T : Tx K mg) : Fn P w K mg base "_law_row" 1 1 F__law_row := by
  refine ⟨f, fd, ["script"], fn_mkB (N := n__law_row) (n := 1) (k := 0) (g := b__law_row) F sc__law_row rfl (by decide) (fun cdv A outer s H E c W b => ?_), hm, F.kp, F.bindsN fun _ _ _ _ _ _ us hl => match us, hl with | [_], _ => rfl⟩
  exact (ds_cons (ds_asgF (i := 1) sc__law_row.nd rfl (by first | exact Or.inl rfl | exact Or.inr rfl) (de_lstF da_nil))
 (ds_cons (ds_for b.po b.calm (di_seq (de_slice (de_var (pv 0)) do_none (do_some (de_c pe_int fun _ => .int _)))) (dg_name (i := 2) sc__law_row.nd rfl (by first | exact Or.inl rfl | exact Or.inr rfl))
 (ds_cons (ds_asg (i := 3) sc__law_row.nd rfl (by first | exact Or.inl rfl | exact Or.inr rfl) (de_blt call_abs ok_abs rfl T.b_abs (by decide +kernel) (da_cons (de_bltTy call_int1 ok_toInt rfl T.b_int (by decide +kernel) (da_cons (de_var (pv 2)) da_nil)) da_nil)))
 (ds_one (ds_for b.po b.calm (di_range1 rfl T.b_range (da_cons (de_c pe_int fun _ => .int _) da_nil)) (dg_name (i := 4) sc__law_row.nd rfl (by first | exact Or.inl rfl | exact Or.inr rfl))
 (ds_cons (ds_app (de_var (pv 1)) (de_bin op_modN ok_mod (de_bltTy call_int1 ok_toInt rfl T.b_int (by decide +kernel) (da_cons (de_var (pv 3)) da_nil)) (de_c pe_int fun _ => .int _)))
 (ds_cons (ds_asg (i := 3) sc__law_row.nd rfl (by first | exact Or.inl rfl | exact Or.inr rfl) (de_bin op_fdivA ok_div (de_var (pv 3)) (de_c pe_int fun _ => .int _)))
 (ds_one (ds_if (dt_cmp (op_eqAll b.room.units) ok_eq (de_var (pv 3)) (de_c pe_int fun _ => .int _) (nomark _))
 (ds_one ds_break)
 ds_nil))))))))
 (ds_one (ds_ret (de_val (pv 1))))))

abbrev s__law_next : Stmt := top 55
theorem sc__law_next : FnScope n__law_next ["tape", "many"] (defScope s__law_next) := ⟨rfl, rfl, rfl, by decide +kernel, rfl, by decide +kernel, by decide +kernel⟩
theorem D__law_next {f : Addr} {fd : FuncData} (F : FunD K "_law_next" "_law_next" (defArgs s__law_next) (defBody s__law_next) (defScope s__law_next) [] [] f fd) (hm : mg "_law_next" = some (.ref f)) (T : Tx K mg) : Fn P w K mg base "_law_next" 1 2 F__law_next := by
  refine ⟨f, fd, ["tape", "many"], fn_mkB (N := n__law_next) (n := 2) (k := 0) (g := b__law_next) F sc__law_next rfl (by decide) (fun cdv A outer s H E c W b => ?_), hm, F.kp, F.bindsN fun _ _ _ _ _ _ us hl => match us, hl with | [_, _], _ => rfl⟩
  exact (ds_cons (ds_asg (i := 2) sc__law_next.nd rfl (by first | exact Or.inl rfl | exact Or.inr rfl) (de_idx (de_var (pv 0)) (de_c pe_int fun _ => .int _)))
 (ds_cons (ds_sub (de_var (pv 0)) (de_c pe_int fun _ => .int _) (de_bin op_addAll ok_add (de_var (pv 2)) (de_c pe_int fun _ => .int _)))
 (ds_cons (ds_asg (i := 3) sc__law_next.nd rfl (by first | exact Or.inl rfl | exact Or.inr rfl) (de_idx (de_var (pv 0)) (de_c pe_int fun _ => .int _)))
 (ds_cons (ds_if (dt_cmp (op_eqAll b.room.units) ok_eq (de_blt call_len ok_len rfl T.b_len (by decide +kernel) (da_cons (de_var (pv 3)) da_nil)) (de_c pe_int fun _ => .int _) (nomark _))
 (ds_one (ds_ret (de_bin op_modN ok_mod (de_bltTy call_int1 ok_toInt rfl T.b_int (by decide +kernel) (da_cons (de_bin op_addAll ok_add (de_bin op_mulW ok_mulI (de_var (pv 2)) (de_c pe_int fun _ => .int _)) (de_bin op_fdivA ok_div (de_var (pv 2)) (de_c pe_int fun _ => .int _))) da_nil)) (de_var (pv 1)))))
 ds_nil)
 (ds_cons (ds_asg (i := 4) sc__law_next.nd rfl (by first | exact Or.inl rfl | exact Or.inr rfl) (de_bin op_mulW ok_mulI (de_bin op_fdivA ok_div (de_var (pv 2)) (de_blt call_len ok_len rfl T.b_len (by decide +kernel) (da_cons (de_var (pv 3)) da_nil))) (de_c pe_int fun _ => .int _)))
 (ds_one (ds_ret (de_bin op_modN ok_mod (de_bltTy call_int1 ok_toInt rfl T.b_int (by decide +kernel) (da_cons (de_bin op_addAll ok_add (de_idx (de_var (pv 3)) (de_bin op_modN ok_mod (de_bltTy call_int1 ok_toInt rfl T.b_int (by decide +kernel) (da_cons (de_var (pv 2)) da_nil)) (de_blt call_len ok_len rfl T.b_len (by decide +kernel) (da_cons (de_var (pv 3)) da_nil)))) (de_var (pv 4))) da_nil)) (de_var (pv 1))))))))))

abbrev s__law_words : Stmt := top 56
theorem sc__law_words : FnScope n__law_words [] (defScope s__law_words) := ⟨rfl, rfl, rfl, by decide +kernel, rfl, by decide +kernel, by decide +kernel⟩
theorem D__law_words {f : Addr} {fd : FuncData} (F : FunD K "_law_words" "_law_words" (defArgs s__law_words) (defBody s__law_words) (defScope s__law_words) [] [] f fd) (hm : mg "_law_words" = some (.ref f)) (T : Tx K mg) : Fn P w K mg base "_law_words" 1 0 F__law_words := by
  refine ⟨f, fd, [], fn_mkB (N := n__law_words) (n := 0) (k := 0) (g := b__law_words) F sc__law_words rfl (by decide) (fun cdv A outer s H E c W b => ?_), hm, F.kp, F.bindsN fun _ _ _ _ _ _ us hl => match us, hl with | [], _ => rfl⟩
  exact (ds_cons (ds_asg (i := 0) sc__law_words.nd rfl (by first | exact Or.inl rfl | exact Or.inr rfl) (de_c pe_str fun _ => .str _))
 (ds_cons (ds_asg (i := 0) sc__law_words.nd rfl (by first | exact Or.inl rfl | exact Or.inr rfl) (de_bin op_addAll ok_add (de_var (pv 0)) (de_c pe_str fun _ => .str _)))
 (ds_cons (ds_asg (i := 0) sc__law_words.nd rfl (by first | exact Or.inl rfl | exact Or.inr rfl) (de_bin op_addAll ok_add (de_var (pv 0)) (de_c pe_str fun _ => .str _)))
 (ds_cons (ds_asg (i := 0) sc__law_words.nd rfl (by first | exact Or.inl rfl | exact Or.inr rfl) (de_bin op_addAll ok_add (de_var (pv 0)) (de_c pe_str fun _ => .str _)))
 (ds_cons (ds_asg (i := 0) sc__law_words.nd rfl (by first | exact Or.inl rfl | exact Or.inr rfl) (de_bin op_addAll ok_add (de_var (pv 0)) (de_c pe_str fun _ => .str _)))
 (ds_one (ds_ret (de_split (de_var (pv 0)) (de_c pe_str fun _ => .str _)))))))))

abbrev s__law_name : Stmt := top 57
theorem sc__law_name : FnScope n__law_name ["tape"] (defScope s__law_name) := ⟨rfl, rfl, rfl, by decide +kernel, rfl, by decide +kernel, by decide +kernel⟩
theorem D__law_name {f : Addr} {fd : FuncData} (F : FunD K "_law_name" "_law_name" (defArgs s__law_name) (defBody s__law_name) (defScope s__law_name) [] [] f fd) (hm : mg "_law_name" = some (.ref f)) (T : Tx K mg) (H__law_next : Fn P w K mg base "_law_next" 1 2 F__law_next) : Fn P w K mg base "_law_name" 2 1 F__law_name := by
  refine ⟨f, fd, ["tape"], fn_mkB (N := n__law_name) (n := 1) (k := 1) (g := b__law_name) F sc__law_name rfl (by decide) (fun cdv A outer s H E c W b => ?_), hm, F.kp, F.bindsN fun _ _ _ _ _ _ us hl => match us, hl with | [_], _ => rfl⟩
  exact (ds_cons (ds_asg (i := 1) sc__law_name.nd rfl (by first | exact Or.inl rfl | exact Or.inr rfl) (de_c pe_str fun _ => .str _))
 (ds_cons (ds_asg (i := 2) sc__law_name.nd rfl (by first | exact Or.inl rfl | exact Or.inr rfl) (de_idx (de_var (pv 1)) (de_fn b.toBx H__law_next (by decide) rfl (da_cons (de_var (pv 0)) (da_cons (de_c pe_int fun _ => .int _) da_nil)))))
 (ds_cons (ds_for b.po b.calm (di_range1 rfl T.b_range (da_cons (de_fn b.toBx H__law_next (by decide) rfl (da_cons (de_var (pv 0)) (da_cons (de_c pe_int fun _ => .int _) da_nil))) da_nil)) (dg_name (i := 3) sc__law_name.nd rfl (by first | exact Or.inl rfl | exact Or.inr rfl))
 (ds_one (ds_asg (i := 2) sc__law_name.nd rfl (by first | exact Or.inl rfl | exact Or.inr rfl) (de_bin op_addAll ok_add (de_var (pv 2)) (de_idx (de_var (pv 1)) (de_fn b.toBx H__law_next (by decide) rfl (da_cons (de_var (pv 0)) (da_cons (de_c pe_int fun _ => .int _) da_nil))))))))
 (ds_one (ds_ret (de_val (pv 2)))))))

abbrev s__law_still : Stmt := top 58
theorem sc__law_still : FnScope n__law_still ["tape"] (defScope s__law_still) := ⟨rfl, rfl, rfl, by decide +kernel, rfl, by decide +kernel, by decide +kernel⟩
theorem D__law_still {f : Addr} {fd : FuncData} (F : FunD K "_law_still" "_law_still" (defArgs s__law_still) (defBody s__law_still) (defScope s__law_still) [] [] f fd) (hm : mg "_law_still" = some (.ref f)) (T : Tx K mg) (H__law_gcd : Fn P w K mg base "_law_gcd" 1 2 F__law_gcd) (H__law_next : Fn P w K mg base "_law_next" 1 2 F__law_next) : Fn P w K mg base "_law_still" 2 1 F__law_still := by
  refine ⟨f, fd, ["tape"], fn_mkB (N := n__law_still) (n := 1) (k := 1) (g := b__law_still) F sc__law_still rfl (by decide) (fun cdv A outer s H E c W b => ?_), hm, F.kp, F.bindsN fun _ _ _ _ _ _ us hl => match us, hl with | [_], _ => rfl⟩
  exact (ds_cons (ds_asg (i := 1) sc__law_still.nd rfl (by first | exact Or.inl rfl | exact Or.inr rfl) (de_c pe_int fun _ => .int _))
 (ds_cons (ds_asg (i := 2) sc__law_still.nd rfl (by first | exact Or.inl rfl | exact Or.inr rfl) (de_c pe_int fun _ => .int _))
 (ds_cons (ds_for b.po b.calm (di_range1 rfl T.b_range (da_cons (de_idx (de_frz (de_lstF (da_cons (de_c pe_int fun _ => .int _) (da_cons (de_c pe_int fun _ => .int _) (da_cons (de_c pe_int fun _ => .int _) (da_cons (de_c pe_int fun _ => .int _) (da_cons (de_c pe_int fun _ => .int _) da_nil))))))) (de_fn b.toBx H__law_next (by decide) rfl (da_cons (de_var (pv 0)) (da_cons (de_c pe_int fun _ => .int _) da_nil)))) da_nil)) (dg_name (i := 3) sc__law_still.nd rfl (by first | exact Or.inl rfl | exact Or.inr rfl))
 (ds_one (ds_asg (i := 1) sc__law_still.nd rfl (by first | exact Or.inl rfl | exact Or.inr rfl) (de_bin op_addAll ok_add (de_bin op_mulW ok_mulI (de_var (pv 1)) (de_c pe_int fun _ => .int _)) (de_fn b.toBx H__law_next (by decide) rfl (da_cons (de_var (pv 0)) (da_cons (de_c pe_int fun _ => .int _) da_nil)))))))
 (ds_cons (ds_for b.po b.calm (di_range1 rfl T.b_range (da_cons (de_idx (de_frz (de_lstF (da_cons (de_c pe_int fun _ => .int _) (da_cons (de_c pe_int fun _ => .int _) (da_cons (de_c pe_int fun _ => .int _) (da_cons (de_c pe_int fun _ => .int _) (da_cons (de_c pe_int fun _ => .int _) da_nil))))))) (de_fn b.toBx H__law_next (by decide) rfl (da_cons (de_var (pv 0)) (da_cons (de_c pe_int fun _ => .int _) da_nil)))) da_nil)) (dg_name (i := 3) sc__law_still.nd rfl (by first | exact Or.inl rfl | exact Or.inr rfl))
 (ds_one (ds_asg (i := 2) sc__law_still.nd rfl (by first | exact Or.inl rfl | exact Or.inr rfl) (de_bin op_addAll ok_add (de_bin op_mulW ok_mulI (de_var (pv 2)) (de_c pe_int fun _ => .int _)) (de_fn b.toBx H__law_next (by decide) rfl (da_cons (de_var (pv 0)) (da_cons (de_c pe_int fun _ => .int _) da_nil)))))))
 (ds_cons (ds_asg (i := 1) sc__law_still.nd rfl (by first | exact Or.inl rfl | exact Or.inr rfl) (de_bin op_modN ok_mod (de_bltTy call_int1 ok_toInt rfl T.b_int (by decide +kernel) (da_cons (de_var (pv 1)) da_nil)) (de_bin op_pow ok_pow (de_c pe_int fun _ => .int _) (de_c pe_int fun _ => .int _))))
 (ds_cons (ds_asg (i := 2) sc__law_still.nd rfl (by first | exact Or.inl rfl | exact Or.inr rfl) (de_bin op_addAll ok_add (de_c pe_int fun _ => .int _) (de_bin op_modN ok_mod (de_bltTy call_int1 ok_toInt rfl T.b_int (by decide +kernel) (da_cons (de_var (pv 2)) da_nil)) (de_bin op_pow ok_pow (de_c pe_int fun _ => .int _) (de_c pe_int fun _ => .int _)))))
 (ds_cons (ds_if (dt_cmp (op_eqAll b.room.units) ok_eq (de_fn b.toBx H__law_next (by decide) rfl (da_cons (de_var (pv 0)) (da_cons (de_c pe_int fun _ => .int _) da_nil))) (de_c pe_int fun _ => .int _) (nomark _))
 (ds_one (ds_asg (i := 1) sc__law_still.nd rfl (by first | exact Or.inl rfl | exact Or.inr rfl) (de_neg (de_var (pv 1)))))
 ds_nil)
 (ds_cons (ds_asg (i := 4) sc__law_still.nd rfl (by first | exact Or.inl rfl | exact Or.inr rfl) (de_fn b.toBx H__law_gcd (by decide) rfl (da_cons (de_val (pv 1)) (da_cons (de_val (pv 2)) da_nil))))
 (ds_one (ds_ret (de_tup (da_cons (de_bin op_fdivA ok_div (de_var (pv 1)) (de_var (pv 4))) (da_cons (de_c pe_int fun _ => .int _) (da_cons (de_bin op_fdivA ok_div (de_var (pv 2)) (de_var (pv 4))) da_nil))))))))))))))

abbrev s__law_still_text : Stmt := top 59
theorem sc__law_still_text : FnScope n__law_still_text ["x"] (defScope s__law_still_text) := ⟨rfl, rfl, rfl, by decide +kernel, rfl, by decide +kernel, by decide +kernel⟩
theorem D__law_still_text {f : Addr} {fd : FuncData} (F : FunD K "_law_still_text" "_law_still_text" (defArgs s__law_still_text) (defBody s__law_still_text) (defScope s__law_still_text) [] [] f fd) (hm : mg "_law_still_text" = some (.ref f)) (T : Tx K mg) : Fn P w K mg base "_law_still_text" 1 1 F__law_still_text := by
  refine ⟨f, fd, ["x"], fn_mkB (N := n__law_still_text) (n := 1) (k := 0) (g := b__law_still_text) F sc__law_still_text rfl (by decide) (fun cdv A outer s H E c W b => ?_), hm, F.kp, F.bindsN fun _ _ _ _ _ _ us hl => match us, hl with | [_], _ => rfl⟩
  exact (ds_cons (ds_if (dt_cmp (op_eqAll b.room.units) ok_eq (de_idx (de_var (pv 0)) (de_c pe_int fun _ => .int _)) (de_c pe_int fun _ => .int _) (nomark _))
 (ds_one (ds_ret (de_bltTy call_str_int ok_str rfl T.b_str (by decide +kernel) (da_cons (de_idx (de_var (pv 0)) (de_c pe_int fun _ => .int _)) da_nil))))
 ds_nil)
 (ds_one (ds_ret (de_bin op_addAll ok_add (de_bin op_addAll ok_add (de_bltTy call_str_int ok_str rfl T.b_str (by decide +kernel) (da_cons (de_idx (de_var (pv 0)) (de_c pe_int fun _ => .int _)) da_nil)) (de_c pe_str fun _ => .str _)) (de_bltTy call_str_int ok_str rfl T.b_str (by decide +kernel) (da_cons (de_idx (de_var (pv 0)) (de_c pe_int fun _ => .int _)) da_nil))))))

abbrev s__law_leaf : Stmt := top 60
theorem sc__law_leaf : FnScope n__law_leaf ["tape"] (defScope s__law_leaf) := ⟨rfl, rfl, rfl, by decide +kernel, rfl, by decide +kernel, by decide +kernel⟩
theorem D__law_leaf {f : Addr} {fd : FuncData} (F : FunD K "_law_leaf" "_law_leaf" (defArgs s__law_leaf) (defBody s__law_leaf) (defScope s__law_leaf) [] [] f fd) (hm : mg "_law_leaf" = some (.ref f)) (T : Tx K mg) (H__law_next : Fn P w K mg base "_law_next" 1 2 F__law_next) (H__law_name : Fn P w K mg base "_law_name" 2 1 F__law_name) (H__law_still : Fn P w K mg base "_law_still" 2 1 F__law_still) (H__law_still_text : Fn P w K mg base "_law_still_text" 1 1 F__law_still_text) (H__law_words : Fn P w K mg base "_law_words" 1 0 F__law_words) : Fn P w K mg base "_law_leaf" 3 1 F__law_leaf := by
  refine ⟨f, fd, ["tape"], fn_mkB (N := n__law_leaf) (n := 1) (k := 2) (g := b__law_leaf) F sc__law_leaf rfl (by decide) (fun cdv A outer s H E c W b => ?_), hm, F.kp, F.bindsN fun _ _ _ _ _ _ us hl => match us, hl with | [_], _ => rfl⟩
  exact (ds_cons (ds_asg (i := 1) sc__law_leaf.nd rfl (by first | exact Or.inl rfl | exact Or.inr rfl) (de_fn b.toBx H__law_next (by decide) rfl (da_cons (de_var (pv 0)) (da_cons (de_c pe_int fun _ => .int _) da_nil))))
 (ds_cons (ds_if (dt_cmp (op_eqAll b.room.units) ok_eq (de_var (pv 1)) (de_c pe_int fun _ => .int _) (nomark _))
 (ds_cons (ds_asg (i := 2) sc__law_leaf.nd rfl (by first | exact Or.inl rfl | exact Or.inr rfl) (de_fn b.toBx H__law_still (by decide) rfl (da_cons (de_var (pv 0)) da_nil)))
 (ds_one (ds_ret (de_frz (de_lstF (da_cons (de_c pe_str fun _ => .str _) (da_cons (de_fn b.toBx H__law_still_text (by decide) rfl (da_cons (de_val (pv 2)) da_nil)) (da_cons (de_tup (da_cons (de_c pe_str fun _ => .str _) (da_cons (de_val (pv 2)) da_nil))) da_nil))))))))
 ds_nil)
 (ds_cons (ds_asg (i := 3) sc__law_leaf.nd rfl (by first | exact Or.inl rfl | exact Or.inr rfl) (de_fn b.toBx H__law_name (by decide) rfl (da_cons (de_var (pv 0)) da_nil)))
 (ds_cons (ds_if (dt_cmp (op_eqAll b.room.units) ok_eq (de_var (pv 1)) (de_c pe_int fun _ => .int _) (nomark _))
 (ds_one (ds_ret (de_frz (de_lstF (da_cons (de_c pe_str fun _ => .str _) (da_cons (de_bin op_addAll ok_add (de_c pe_str fun _ => .str _) (de_var (pv 3))) (da_cons (de_tup (da_cons (de_c pe_str fun _ => .str _) (da_cons (de_val (pv 3)) da_nil))) da_nil)))))))
 ds_nil)
 (ds_cons (ds_if (dt_cmp (op_eqAll b.room.units) ok_eq (de_var (pv 1)) (de_c pe_int fun _ => .int _) (nomark _))
 (ds_one (ds_asg (i := 3) sc__law_leaf.nd rfl (by first | exact Or.inl rfl | exact Or.inr rfl) (de_idx (de_fn0 b.toBx H__law_words (by decide) rfl) (de_bin op_addAll ok_add (de_fn b.toBx H__law_next (by decide) rfl (da_cons (de_var (pv 0)) (da_cons (de_c pe_int fun _ => .int _) da_nil))) (de_bin op_mulW ok_mulI (de_c pe_int fun _ => .int _) (de_fn b.toBx H__law_next (by decide) rfl (da_cons (de_var (pv 0)) (da_cons (de_c pe_int fun _ => .int _) da_nil))))))))
 ds_nil)
 (ds_one (ds_ret (de_frz (de_lstF (da_cons (de_c pe_str fun _ => .str _) (da_cons (de_val (pv 3)) (da_cons (de_tup (da_cons (de_c pe_str fun _ => .str _) (da_cons (de_val (pv 3)) da_nil))) da_nil))))))))))))

abbrev s__law_tree : Stmt := top 61
theorem sc__law_tree : FnScope n__law_tree ["tape", "many", "most"] (defScope s__law_tree) := ⟨rfl, rfl, rfl, by decide +kernel, rfl, by decide +kernel, by decide +kernel⟩
theorem D__law_tree {f : Addr} {fd : FuncData} (F : FunD K "_law_tree" "_law_tree" (defArgs s__law_tree) (defBody s__law_tree) (defScope s__law_tree) [] [] f fd) (hm : mg "_law_tree" = some (.ref f)) (T : Tx K mg) (H__law_next : Fn P w K mg base "_law_next" 1 2 F__law_next) (H__law_leaf : Fn P w K mg base "_law_leaf" 3 1 F__law_leaf) : Fn P w K mg base "_law_tree" 4 3 F__law_tree := by
  refine ⟨f, fd, ["tape", "many", "most"], fn_mkB (N := n__law_tree) (n := 3) (k := 3) (g := b__law_tree) F sc__law_tree rfl (by decide) (fun cdv A outer s H E c W b => ?_), hm, F.kp, F.bindsN fun _ _ _ _ _ _ us hl => match us, hl with | [_, _, _], _ => rfl⟩
  exact (ds_cons (ds_asgF (i := 3) sc__law_tree.nd rfl (by first | exact Or.inl rfl | exact Or.inr rfl) (de_lstF da_nil))
 (ds_cons (ds_asg (i := 4) sc__law_tree.nd rfl (by first | exact Or.inl rfl | exact Or.inr rfl) (de_c pe_int fun _ => .int _))
 (ds_cons (ds_for b.po b.calm (di_range1 rfl T.b_range (da_cons (de_var (pv 1)) da_nil)) (dg_name (i := 5) sc__law_tree.nd rfl (by first | exact Or.inl rfl | exact Or.inr rfl))
 (ds_cons (ds_asg (i := 6) sc__law_tree.nd rfl (by first | exact Or.inl rfl | exact Or.inr rfl) (de_fn b.toBx H__law_next (by decide) rfl (da_cons (de_var (pv 0)) (da_cons (de_c pe_int fun _ => .int _) da_nil))))
 (ds_one (ds_if (PW.pt (dw_and (dt_cmp op_lt ok_lt (de_var (pv 6)) (de_c pe_int fun _ => .int _) (nomark _)) (dw_and1 (dt_cmp op_lt ok_lt (de_var (pv 4)) (de_var (pv 2)) (nomark _)))))
 (ds_cons (ds_app (de_var (pv 3)) (de_frz (de_lstF (da_cons (de_c pe_str fun _ => .str _) (da_cons (de_c pe_str fun _ => .str _) (da_cons (de_tup da_nil) da_nil))))))
 (ds_one (ds_asg (i := 4) sc__law_tree.nd rfl (by first | exact Or.inl rfl | exact Or.inr rfl) (de_bin op_addAll ok_add (de_var (pv 4)) (de_c pe_int fun _ => .int _)))))
 (ds_one (ds_if (PW.pt (dw_and (dt_cmp op_lt ok_lt (de_var (pv 6)) (de_c pe_int fun _ => .int _) (nomark _)) (dw_and1 (dt_cmp op_gt ok_gt (de_var (pv 4)) (de_c pe_int fun _ => .int _) (nomark _)))))
 (ds_cons (ds_app (de_var (pv 3)) (de_frz (de_lstF (da_cons (de_c pe_str fun _ => .str _) (da_cons (de_c pe_str fun _ => .str _) (da_cons (de_tup da_nil) da_nil))))))
 (ds_one (ds_asg (i := 4) sc__law_tree.nd rfl (by first | exact Or.inl rfl | exact Or.inr rfl) (de_bin op_sub ok_sub (de_var (pv 4)) (de_c pe_int fun _ => .int _)))))
 (ds_one (ds_app (de_var (pv 3)) (de_fn b.toBx H__law_leaf (by decide) rfl (da_cons (de_var (pv 0)) da_nil))))))))))
 (ds_one (ds_ret (de_bin op_addAll ok_add (de_var (pv 3)) (de_frz (de_lc (own := [("k", 5)]) b.calm sc__law_tree.nd (di_range1 rfl T.b_range (da_cons (de_var (pv 4)) da_nil)) (blkOk_by (own := [("k", 5)]) (N := n__law_tree) (sc := defScope s__law_tree) (by decide +kernel)) (by decide) (fun _ _ _ _ _ => (dg_name (i := 5) sc__law_tree.nd rfl (by first | exact Or.inl rfl | exact Or.inr rfl))) (fun _ _ _ _ _ => dts_nil) (fun _ _ _ _ _ => (de_frz (de_lstF (da_cons (de_c pe_str fun _ => .str _) (da_cons (de_c pe_str fun _ => .str _) (da_cons (de_tup da_nil) da_nil))))))))))))))

abbrev s__law_chain : Stmt := top 62
theorem sc__law_chain : FnScope n__law_chain ["many", "inner"] (defScope s__law_chain) := ⟨rfl, rfl, rfl, by decide +kernel, rfl, by decide +kernel, by decide +kernel⟩
theorem D__law_chain {f : Addr} {fd : FuncData} (F : FunD K "_law_chain" "_law_chain" (defArgs s__law_chain) (defBody s__law_chain) (defScope s__law_chain) [] [] f fd) (hm : mg "_law_chain" = some (.ref f)) (T : Tx K mg) : Fn P w K mg base "_law_chain" 1 2 F__law_chain := by
  refine ⟨f, fd, ["many", "inner"], fn_mkB (N := n__law_chain) (n := 2) (k := 0) (g := b__law_chain) F sc__law_chain rfl (by decide) (fun cdv A outer s H E c W b => ?_), hm, F.kp, F.bindsN fun _ _ _ _ _ _ us hl => match us, hl with | [_, _], _ => rfl⟩
  exact (ds_cons (ds_setLc (i := 2) (own := [("k", 3)]) b.calm sc__law_chain.nd rfl rfl (sw_true rfl rfl rfl (by decide +kernel)) (di_range1 rfl T.b_range (da_cons (de_var (pv 0)) da_nil)) (blkOk_by (own := [("k", 3)]) (N := n__law_chain) (sc := defScope s__law_chain) (by decide +kernel)) (by decide) (fun _ _ _ _ _ => (dg_name (i := 3) sc__law_chain.nd rfl (by first | exact Or.inl rfl | exact Or.inr rfl))) (fun _ _ _ _ _ => dts_nil) (fun _ _ _ _ _ => (de_frz (de_lstF (da_cons (de_c pe_str fun _ => .str _) (da_cons (de_c pe_str fun _ => .str _) (da_cons (de_tup da_nil) da_nil)))))))
 (ds_one (ds_ret (de_bin op_addAll ok_add (de_bin op_addAll ok_add (de_var (pv 2)) (de_var (pv 1))) (de_frz (de_lc (own := [("k", 3)]) b.calm sc__law_chain.nd (di_range1 rfl T.b_range (da_cons (de_var (pv 0)) da_nil)) (blkOk_by (own := [("k", 3)]) (N := n__law_chain) (sc := defScope s__law_chain) (by decide +kernel)) (by decide) (fun _ _ _ _ _ => (dg_name (i := 3) sc__law_chain.nd rfl (by first | exact Or.inl rfl | exact Or.inr rfl))) (fun _ _ _ _ _ => dts_nil) (fun _ _ _ _ _ => (de_frz (de_lstF (da_cons (de_c pe_str fun _ => .str _) (da_cons (de_c pe_str fun _ => .str _) (da_cons (de_tup da_nil) da_nil))))))))))))

abbrev s__law_read : Stmt := top 63
theorem sc__law_read : FnScope n__law_read ["row"] (defScope s__law_read) := ⟨rfl, rfl, rfl, by decide +kernel, rfl, by decide +kernel, by decide +kernel⟩
theorem D__law_read {f : Addr} {fd : FuncData} (F : FunD K "_law_read" "_law_read" (defArgs s__law_read) (defBody s__law_read) (defScope s__law_read) [] [] f fd) (hm : mg "_law_read" = some (.ref f)) (T : Tx K mg) : Fn P w K mg base "_law_read" 1 1 F__law_read := by
  refine ⟨f, fd, ["row"], fn_mkB (N := n__law_read) (n := 1) (k := 0) (g := b__law_read) F sc__law_read rfl (by decide) (fun cdv A outer s H E c W b => ?_), hm, F.kp, F.bindsN fun _ _ _ _ _ _ us hl => match us, hl with | [_], _ => rfl⟩
  exact (ds_cons (ds_nest (i := 1) sc__law_read.nd rfl (by first | exact Or.inl rfl | exact Or.inr rfl))
 (ds_cons (ds_asgF (i := 2) sc__law_read.nd rfl (by first | exact Or.inl rfl | exact Or.inr rfl) (de_lstF (da_cons (de_c pe_int fun _ => .int _) da_nil)))
 (ds_cons (ds_asgF (i := 3) sc__law_read.nd rfl (by first | exact Or.inl rfl | exact Or.inr rfl) (de_lstF da_nil))
 (ds_cons (ds_asgF (i := 4) sc__law_read.nd rfl (by first | exact Or.inl rfl | exact Or.inr rfl) (de_lstF da_nil))
 (ds_cons (ds_asgF (i := 5) sc__law_read.nd rfl (by first | exact Or.inl rfl | exact Or.inr rfl) (de_lstF da_nil))
 (ds_cons (ds_asgF (i := 6) sc__law_read.nd rfl (by first | exact Or.inl rfl | exact Or.inr rfl) (de_lstF da_nil))
 (ds_cons (ds_for b.po b.calm (di_range1 rfl T.b_range (da_cons (de_blt call_len ok_len rfl T.b_len (by decide +kernel) (da_cons (de_var (pv 0)) da_nil)) da_nil)) (dg_name (i := 7) sc__law_read.nd rfl (by first | exact Or.inl rfl | exact Or.inr rfl))
 (ds_one (ds_if (dt_cmp (op_eqAll b.room.units) ok_eq (de_idx (de_idx (de_var (pv 0)) (de_var (pv 7))) (de_c pe_int fun _ => .int _)) (de_c pe_str fun _ => .str _) (nomark _))
 (ds_cons (ds_asg (i := 8) sc__law_read.nd rfl (by first | exact Or.inl rfl | exact Or.inr rfl) (de_pop (pv 6)))
 (ds_cons (ds_expr (de_pop (pv 2)))
 (ds_cons (ds_sub (de_var (pv 4)) (de_var (pv 8)) (de_tup (da_cons (de_c pe_str fun _ => .str _) (da_cons (de_bltTy call_tuple_of ok_tuple rfl T.b_tuple (by decide +kernel) (da_cons (de_pop (pv 1)) da_nil)) da_nil))))
 (ds_cons (ds_sub (de_var (pv 5)) (de_var (pv 8)) (de_frz (de_lstF (da_cons (de_idx (de_idx (de_var (pv 5)) (de_var (pv 8))) (de_c pe_int fun _ => .int _)) (da_cons (de_bin op_addAll ok_add (de_var (pv 7)) (de_c pe_int fun _ => .int _)) da_nil)))))
 (ds_cons (ds_appR (pv 1) pe_neg1 (de_idx (de_var (pv 4)) (de_var (pv 8))))
 (ds_one (ds_sub (de_var (pv 2)) (de_neg (de_c pe_int fun _ => .int _)) (de_bin op_addAll ok_add (de_idx (de_var (pv 2)) (de_neg (de_c pe_int fun _ => .int _))) (de_c pe_int fun _ => .int _)))))))))
 (ds_cons (ds_app (de_var (pv 3)) (de_bltTy call_tuple_of ok_tuple rfl T.b_tuple (by decide +kernel) (da_cons (de_var (pv 2)) da_nil)))
 (ds_cons (ds_app (de_var (pv 5)) (de_frz (de_lstF (da_cons (de_val (pv 7)) (da_cons (de_bin op_addAll ok_add (de_var (pv 7)) (de_c pe_int fun _ => .int _)) da_nil)))))
 (ds_cons (ds_app (de_var (pv 4)) (de_idx (de_idx (de_var (pv 0)) (de_var (pv 7))) (de_c pe_int fun _ => .int _)))
 (ds_one (ds_if (dt_cmp (op_eqAll b.room.units) ok_eq (de_idx (de_idx (de_var (pv 0)) (de_var (pv 7))) (de_c pe_int fun _ => .int _)) (de_c pe_str fun _ => .str _) (nomark _))
 (ds_cons (ds_app (de_var (pv 6)) (de_bin op_sub ok_sub (de_blt call_len ok_len rfl T.b_len (by decide +kernel) (da_cons (de_var (pv 4)) da_nil)) (de_c pe_int fun _ => .int _)))
 (ds_cons (ds_appN (pv 1))
 (ds_one (ds_app (de_var (pv 2)) (de_c pe_int fun _ => .int _)))))
 (ds_cons (ds_appR (pv 1) pe_neg1 (de_idx (de_idx (de_var (pv 0)) (de_var (pv 7))) (de_c pe_int fun _ => .int _)))
 (ds_one (ds_sub (de_var (pv 2)) (de_neg (de_c pe_int fun _ => .int _)) (de_bin op_addAll ok_add (de_idx (de_var (pv 2)) (de_neg (de_c pe_int fun _ => .int _))) (de_c pe_int fun _ => .int _)))))))))))))
 (ds_one (ds_ret (de_frz (de_lstF (da_cons (de_bltTy call_tuple_of ok_tuple rfl T.b_tuple (by decide +kernel) (da_cons (de_row (pv 1) pe_int) da_nil)) (da_cons (de_val (pv 3)) (da_cons (de_val (pv 4)) (da_cons (de_val (pv 5)) da_nil)))))))))))))))

abbrev s__law_text : Stmt := top 64
theorem sc__law_text : FnScope n__law_text ["tape", "row"] (defScope s__law_text) := ⟨rfl, rfl, rfl, by decide +kernel, rfl, by decide +kernel, by decide +kernel⟩
theorem D__law_text {f : Addr} {fd : FuncData} (F : FunD K "_law_text" "_law_text" (defArgs s__law_text) (defBody s__law_text) (defScope s__law_text) [] [] f fd) (hm : mg "_law_text" = some (.ref f)) (T : Tx K mg) (H__law_next : Fn P w K mg base "_law_next" 1 2 F__law_next) : Fn P w K mg base "_law_text" 2 2 F__law_text := by
  refine ⟨f, fd, ["tape", "row"], fn_mkB (N := n__law_text) (n := 2) (k := 1) (g := b__law_text) F sc__law_text rfl (by decide) (fun cdv A outer s H E c W b => ?_), hm, F.kp, F.bindsN fun _ _ _ _ _ _ us hl => match us, hl with | [_, _], _ => rfl⟩
  exact (ds_cons (ds_asg (i := 2) sc__law_text.nd rfl (by first | exact Or.inl rfl | exact Or.inr rfl) (de_idx (de_frz (de_lstF (da_cons (de_c pe_str fun _ => .str _) (da_cons (de_c pe_str fun _ => .str _) (da_cons (de_c pe_str fun _ => .str _) (da_cons (de_c pe_str fun _ => .str _) da_nil)))))) (de_fn b.toBx H__law_next (by decide) rfl (da_cons (de_var (pv 0)) (da_cons (de_c pe_int fun _ => .int _) da_nil)))))
 (ds_cons (ds_asgF (i := 3) sc__law_text.nd rfl (by first | exact Or.inl rfl | exact Or.inr rfl) (de_lstF da_nil))
 (ds_cons (ds_asg (i := 4) sc__law_text.nd rfl (by first | exact Or.inl rfl | exact Or.inr rfl) (de_c pe_str fun _ => .str _))
 (ds_cons (ds_for b.po b.calm (di_seq (de_val (pv 1))) (dg_name (i := 5) sc__law_text.nd rfl (by first | exact Or.inl rfl | exact Or.inr rfl))
 (ds_cons (ds_asg (i := 6) sc__law_text.nd rfl (by first | exact Or.inl rfl | exact Or.inr rfl) (de_idx (de_var (pv 5)) (de_c pe_int fun _ => .int _)))
 (ds_cons (ds_if (PW.pt (dw_or (dt_cmp (op_eqAll b.room.units) ok_eq (de_var (pv 4)) (de_c pe_str fun _ => .str _) (nomark _)) (dw_or (dt_cmp (op_eqAll b.room.units) ok_eq (de_var (pv 4)) (de_c pe_str fun _ => .str _) (nomark _)) (dw_or (dt_cmp (op_eqAll b.room.units) ok_eq (de_var (pv 6)) (de_c pe_str fun _ => .str _) (nomark _)) (dw_or1 (dt_cmp (op_eqAll b.room.units) ok_eq (de_var (pv 6)) (de_c pe_str fun _ => .str _) (nomark _)))))))
 (ds_one (ds_asg (i := 2) sc__law_text.nd rfl (by first | exact Or.inl rfl | exact Or.inr rfl) (de_bin op_addAll ok_add (de_var (pv 2)) (de_idx (de_frz (de_lstF (da_cons (de_c pe_str fun _ => .str _) (da_cons (de_c pe_str fun _ => .str _) (da_cons (de_c pe_str fun _ => .str _) (da_cons (de_c pe_str fun _ => .str _) (da_cons (de_c pe_str fun _ => .str _) da_nil))))))) (de_fn b.toBx H__law_next (by decide) rfl (da_cons (de_var (pv 0)) (da_cons (de_c pe_int fun _ => .int _) da_nil)))))))
 (ds_one (ds_asg (i := 2) sc__law_text.nd rfl (by first | exact Or.inl rfl | exact Or.inr rfl) (de_bin op_addAll ok_add (de_var (pv 2)) (de_idx (de_frz (de_lstF (da_cons (de_c pe_str fun _ => .str _) (da_cons (de_c pe_str fun _ => .str _) (da_cons (de_c pe_str fun _ => .str _) (da_cons (de_c pe_str fun _ => .str _) da_nil)))))) (de_fn b.toBx H__law_next (by decide) rfl (da_cons (de_var (pv 0)) (da_cons (de_c pe_int fun _ => .int _) da_nil))))))))
 (ds_cons (ds_app (de_var (pv 3)) (de_tup (da_cons (de_val (pv 6)) (da_cons (de_idx (de_var (pv 5)) (de_c pe_int fun _ => .int _)) (da_cons (de_blt call_len ok_len rfl T.b_len (by decide +kernel) (da_cons (de_var (pv 2)) da_nil)) da_nil)))))
 (ds_cons (ds_asg (i := 2) sc__law_text.nd rfl (by first | exact Or.inl rfl | exact Or.inr rfl) (de_bin op_addAll ok_add (de_var (pv 2)) (de_idx (de_var (pv 5)) (de_c pe_int fun _ => .int _))))
 (ds_one (ds_asg (i := 4) sc__law_text.nd rfl (by first | exact Or.inl rfl | exact Or.inr rfl) (de_val (pv 6)))))))))
 (ds_one (ds_ret (de_frz (de_lstF (da_cons (de_bin op_addAll ok_add (de_var (pv 2)) (de_idx (de_frz (de_lstF (da_cons (de_c pe_str fun _ => .str _) (da_cons (de_c pe_str fun _ => .str _) (da_cons (de_c pe_str fun _ => .str _) (da_cons (de_c pe_str fun _ => .str _) da_nil)))))) (de_fn b.toBx H__law_next (by decide) rfl (da_cons (de_var (pv 0)) (da_cons (de_c pe_int fun _ => .int _) da_nil))))) (da_cons (de_val (pv 3)) da_nil))))))))))

abbrev s__law_int : Stmt := top 65
theorem sc__law_int : FnScope n__law_int ["x"] (defScope s__law_int) := ⟨rfl, rfl, rfl, by decide +kernel, rfl, by decide +kernel, by decide +kernel⟩
theorem D__law_int {f : Addr} {fd : FuncData} (F : FunD K "_law_int" "_law_int" (defArgs s__law_int) (defBody s__law_int) (defScope s__law_int) [] [] f fd) (hm : mg "_law_int" = some (.ref f)) (T : Tx K mg) : Fn P w K mg base "_law_int" 1 1 F__law_int := by
  refine ⟨f, fd, ["x"], fn_mkB (N := n__law_int) (n := 1) (k := 0) (g := b__law_int) F sc__law_int rfl (by decide) (fun cdv A outer s H E c W b => ?_), hm, F.kp, F.bindsN fun _ _ _ _ _ _ us hl => match us, hl with | [_], _ => rfl⟩
  exact (ds_one (ds_ret (de_and (de_blt call_isi ok_isi rfl T.b_isinstance (by decide +kernel) (da_cons (de_var (pv 0)) (da_cons (de_c (pe_bltn (v := .ty "int") rfl T.b_int (by decide +kernel) rfl) fun _ => .ty _) da_nil))) (de_one (de_not (de_blt call_isi ok_isi rfl T.b_isinstance (by decide +kernel) (da_cons (de_var (pv 0)) (da_cons (de_c (pe_bltn (v := .ty "bool") rfl T.b_bool (by decide +kernel) rfl) fun _ => .ty _) da_nil))))))))

theorem P__law_int {f : Addr} {fd : FuncData} (F : FunD K "_law_int" "_law_int" (defArgs s__law_int) (defBody s__law_int) (defScope s__law_int) [] [] f fd) (hm : mg "_law_int" = some (.ref f)) (T : Tx K mg) : FnP P w K mg base "_law_int" 1 1 F__law_int := by
  refine ⟨f, fd, ["x"], fn_P (N := n__law_int) (n := 1) (k := 0) (g := b__law_int) F sc__law_int rfl (by decide) (fun cdv A outer s H E q c rm => ?_), rfl, hm, F.kp, F.bindsN fun _ _ _ _ _ _ us hl => match us, hl with | [_], _ => rfl⟩
  exact (ds_one (ds_ret (de_and (de_blt call_isi ok_isi rfl T.b_isinstance (by decide +kernel) (da_cons (de_var (pv 0)) (da_cons (de_c (pe_bltn (v := .ty "int") rfl T.b_int (by decide +kernel) rfl) fun _ => .ty _) da_nil))) (de_one (de_not (de_blt call_isi ok_isi rfl T.b_isinstance (by decide +kernel) (da_cons (de_var (pv 0)) (da_cons (de_c (pe_bltn (v := .ty "bool") rfl T.b_bool (by decide +kernel) rfl) fun _ => .ty _) da_nil))))))))

abbrev s__law_stray : Stmt := top 66
theorem sc__law_stray : FnScope n__law_stray ["e"] (defScope s__law_stray) := ⟨rfl, rfl, rfl, by decide +kernel, rfl, by decide +kernel, by decide +kernel⟩
theorem D__law_stray {f : Addr} {fd : FuncData} (F : FunD K "_law_stray" "_law_stray" (defArgs s__law_stray) (defBody s__law_stray) (defScope s__law_stray) [] [] f fd) (hm : mg "_law_stray" = some (.ref f)) (T : Tx K mg) : FnE P w K mg base "_law_stray" 1 F__law_stray := by
  refine ⟨f, fd, ["e"], fn_E (N := n__law_stray) (k := 0) (g := b__law_stray) (ok := fun y => hasX xtab y.cls) F sc__law_stray (by decide) (fun cdv A outer s H E q c y hx hX rm => ?_), rfl, hm, F.kp, F.bindsN fun _ _ _ _ _ _ us hl => match us, hl with | [_], _ => rfl⟩
  exact (ds_cons (ds_if (PW.pt (dw_or (dt_not (dt_tru (de_is1 T.xt hX hx (pv 0) (cn_own T.g_PrintError) (List.mem_of_getElem? (i := 24) rfl) rfl T.b_isinstance))) (dw_or1 (dt_not (dt_tru (de_is1 T.xt hX hx (pv 0) (cn_ty T.b_ValueError) (List.mem_of_getElem? (i := 25) rfl) rfl T.b_isinstance))))))
 (ds_one (ds_ret (de_c pe_bl fun _ => .bl _)))
 ds_nil)
 (ds_cons (ds_if (dt_tru (de_isN T.xt hX hx (pv 0) (.cons (cn_own T.g_BadText) (List.mem_of_getElem? (i := 0) rfl) (.cons (cn_own T.g_ByZero) (List.mem_of_getElem? (i := 1) rfl) (.cons (cn_own T.g_Moving) (List.mem_of_getElem? (i := 2) rfl) (.cons (cn_own T.g_Flat) (List.mem_of_getElem? (i := 3) rfl) (.cons (cn_own T.g_TooLong) (List.mem_of_getElem? (i := 4) rfl) (.cons (cn_own T.g_TooMany) (List.mem_of_getElem? (i := 5) rfl) (.cons (cn_own T.g_TooGreat) (List.mem_of_getElem? (i := 6) rfl) .nil))))))) (by decide) rfl T.b_isinstance))
 (ds_one (ds_ret (de_c pe_bl fun _ => .bl _)))
 ds_nil)
 (ds_cons (ds_if (dt_tru (de_isN T.xt hX hx (pv 0) (.cons (cn_own T.g_NoPiece) (List.mem_of_getElem? (i := 7) rfl) (.cons (cn_own T.g_NoPatch) (List.mem_of_getElem? (i := 8) rfl) (.cons (cn_own T.g_NoEntry) (List.mem_of_getElem? (i := 9) rfl) (.cons (cn_own T.g_NotOpaque) (List.mem_of_getElem? (i := 10) rfl) (.cons (cn_own T.g_SameInk) (List.mem_of_getElem? (i := 11) rfl) (.cons (cn_own T.g_BadHeights) (List.mem_of_getElem? (i := 12) rfl) (.cons (cn_own T.g_BadTurn) (List.mem_of_getElem? (i := 13) rfl) (.cons (cn_own T.g_BadRange) (List.mem_of_getElem? (i := 14) rfl) .nil)))))))) (by decide) rfl T.b_isinstance))
 (ds_one (ds_ret (de_c pe_bl fun _ => .bl _)))
 ds_nil)
 (ds_cons (ds_if (dt_tru (de_isN T.xt hX hx (pv 0) (.cons (cn_own T.g_Turns) (List.mem_of_getElem? (i := 15) rfl) (.cons (cn_own T.g_Parallel) (List.mem_of_getElem? (i := 16) rfl) (.cons (cn_own T.g_NotWithin) (List.mem_of_getElem? (i := 17) rfl) (.cons (cn_own T.g_TooManyPages) (List.mem_of_getElem? (i := 18) rfl) (.cons (cn_own T.g_BadPart) (List.mem_of_getElem? (i := 19) rfl) (.cons (cn_own T.g_NoPage) (List.mem_of_getElem? (i := 20) rfl) (.cons (cn_own T.g_BadOrder) (List.mem_of_getElem? (i := 21) rfl) (.cons (cn_own T.g_NothingToUndo) (List.mem_of_getElem? (i := 22) rfl) .nil)))))))) (by decide) rfl T.b_isinstance))
 (ds_one (ds_ret (de_c pe_bl fun _ => .bl _)))
 ds_nil)
 (ds_one (ds_ret (de_is1 T.xt hX hx (pv 0) (cn_own T.g_NothingToRedo) (List.mem_of_getElem? (i := 23) rfl) rfl T.b_isinstance)))))))

abbrev s__law_depth : Stmt := top 67
theorem sc__law_depth : FnScope n__law_depth ["row"] (defScope s__law_depth) := ⟨rfl, rfl, rfl, by decide +kernel, rfl, by decide +kernel, by decide +kernel⟩
theorem D__law_depth {f : Addr} {fd : FuncData} (F : FunD K "_law_depth" "_law_depth" (defArgs s__law_depth) (defBody s__law_depth) (defScope s__law_depth) [] [] f fd) (hm : mg "_law_depth" = some (.ref f)) (T : Tx K mg) : Fn P w K mg base "_law_depth" 1 1 F__law_depth := by
  refine ⟨f, fd, ["row"], fn_mkB (N := n__law_depth) (n := 1) (k := 0) (g := b__law_depth) F sc__law_depth rfl (by decide) (fun cdv A outer s H E c W b => ?_), hm, F.kp, F.bindsN fun _ _ _ _ _ _ us hl => match us, hl with | [_], _ => rfl⟩
  exact (ds_cons (ds_asg (i := 1) sc__law_depth.nd rfl (by first | exact Or.inl rfl | exact Or.inr rfl) (de_c pe_int fun _ => .int _))
 (ds_cons (ds_asg (i := 2) sc__law_depth.nd rfl (by first | exact Or.inl rfl | exact Or.inr rfl) (de_c pe_int fun _ => .int _))
 (ds_cons (ds_for b.po b.calm (di_seq (de_val (pv 0))) (dg_name (i := 3) sc__law_depth.nd rfl (by first | exact Or.inl rfl | exact Or.inr rfl))
 (ds_cons (ds_if (dt_cmp (op_eqAll b.room.units) ok_eq (de_idx (de_var (pv 3)) (de_c pe_int fun _ => .int _)) (de_c pe_str fun _ => .str _) (nomark _))
 (ds_one (ds_asg (i := 1) sc__law_depth.nd rfl (by first | exact Or.inl rfl | exact Or.inr rfl) (de_bin op_addAll ok_add (de_var (pv 1)) (de_c pe_int fun _ => .int _))))
 ds_nil)
 (ds_cons (ds_if (dt_cmp (op_eqAll b.room.units) ok_eq (de_idx (de_var (pv 3)) (de_c pe_int fun _ => .int _)) (de_c pe_str fun _ => .str _) (nomark _))
 (ds_one (ds_asg (i := 1) sc__law_depth.nd rfl (by first | exact Or.inl rfl | exact Or.inr rfl) (de_bin op_sub ok_sub (de_var (pv 1)) (de_c pe_int fun _ => .int _))))
 ds_nil)
 (ds_one (ds_asg (i := 2) sc__law_depth.nd rfl (by first | exact Or.inl rfl | exact Or.inr rfl) (de_blt (call_max2 b.calm) ok_max2 rfl T.b_max (by decide +kernel) (da_cons (de_var (pv 2)) (da_cons (de_var (pv 1)) da_nil))))))))
 (ds_one (ds_ret (de_val (pv 2)))))))

abbrev s__law_exchange : Stmt := top 68
theorem sc__law_exchange : FnScope n__law_exchange ["made", "spot", "row", "span", "more"] (defScope s__law_exchange) := ⟨rfl, rfl, rfl, by decide +kernel, rfl, by decide +kernel, by decide +kernel⟩
theorem D__law_exchange {f : Addr} {fd : FuncData} (F : FunD K "_law_exchange" "_law_exchange" (defArgs s__law_exchange) (defBody s__law_exchange) (defScope s__law_exchange) [] [] f fd) (hm : mg "_law_exchange" = some (.ref f)) (T : Tx K mg) (H__law_depth : Fn P w K mg base "_law_depth" 1 1 F__law_depth) (H__law_read : Fn P w K mg base "_law_read" 1 1 F__law_read) (H_exchanged : Fn P w K mg base "exchanged" 42 3 F_exchanged) (H__law_stray : FnE P w K mg base "_law_stray" 1 F__law_stray) (H__law_int : Fn P w K mg base "_law_int" 1 1 F__law_int) (HP__law_int : FnP P w K mg base "_law_int" 1 1 F__law_int) : Fn P w K mg base "_law_exchange" 43 5 F__law_exchange := by
  refine ⟨f, fd, ["made", "spot", "row", "span", "more"], fn_mkB (N := n__law_exchange) (n := 5) (k := 42) (g := b__law_exchange) F sc__law_exchange rfl (by decide) (fun cdv A outer s H E c W b => ?_), hm, F.kp, F.bindsN fun _ _ _ _ _ _ us hl => match us, hl with | [_, _, _, _, _], _ => rfl⟩
  exact (ds_cons (ds_asg (i := 5) sc__law_exchange.nd rfl (by first | exact Or.inl rfl | exact Or.inr rfl) (de_bin op_addAll ok_add (de_bin op_addAll ok_add (de_slice (de_var (pv 2)) do_none (do_some (de_idx (de_var (pv 3)) (de_c pe_int fun _ => .int _)))) (de_var (pv 4))) (de_slice (de_var (pv 2)) (do_some (de_idx (de_var (pv 3)) (de_c pe_int fun _ => .int _))) do_none)))
 (ds_cons (ds_asg (i := 6) sc__law_exchange.nd rfl (by first | exact Or.inl rfl | exact Or.inr rfl) (de_cmp op_le ok_le (de_fn b.toBx H__law_depth (by decide) rfl (da_cons (de_val (pv 5)) da_nil)) (de_c pe_int fun _ => .int _) (nomark _)))
 (ds_cons (ds_asg (i := 7) sc__law_exchange.nd rfl (by first | exact Or.inl rfl | exact Or.inr rfl) (de_idx (de_fn b.toBx H__law_read (by decide) rfl (da_cons (de_val (pv 4)) da_nil)) (de_c pe_int fun _ => .int _)))
 (ds_cons (ds_try (t := xtab) b sc__law_exchange.nd (.cons (i := 9) (C := (CN.own "TooDeep")) (cn_own T.g_TooDeep) (fun x hx => T.xt.exm x hx _ (List.mem_of_getElem? (i := 0) rfl)) rfl rfl (fun c a pn x hx hX rm => (ds_cons (ds_if (PW.pt (dw_or (dt_tru (de_var (pv 6))) (dw_or (dt_tru (de_is1 T.xt hX hx (pv 9) (cn_own T.g_NoPlace) (List.mem_of_getElem? (i := 27) rfl) rfl T.b_isinstance)) (dw_or1 (dt_tru (de_hot H__law_stray hX (rm.mono (by decide)) rfl (pv 9)))))))
 (ds_one (ds_ret (de_c pe_bl fun _ => .bl _)))
 ds_nil)
 (ds_one (ds_ret (de_and (de_fnP HP__law_int hX rm (by decide) rfl (da_cons (de_fld T.xt T.fl hX hx (List.mem_of_getElem? (i := 0) rfl) (pv 9)) da_nil)) (de_one (de_cmp (op_eqAll (huH rm)) ok_eq (de_fld T.xt T.fl hX hx (List.mem_of_getElem? (i := 0) rfl) (pv 9)) (de_c pe_int fun _ => .int _) (nomark _))))))))
 .nil)
 (fun W1 pn xe b => (ds_one (ds_asg (i := 8) sc__law_exchange.nd rfl (by first | exact Or.inl rfl | exact Or.inr rfl) (de_fn b.toBx H_exchanged (by decide) rfl (da_cons (de_val (pv 0)) (da_cons (de_val (pv 1)) (da_cons (de_val (pv 7)) da_nil))))))))
 (ds_one (ds_ret (de_and (de_var (pv 6)) (de_one (de_cmp (op_eqAll b.room.units) ok_eq (de_var (pv 8)) (de_idx (de_fn b.toBx H__law_read (by decide) rfl (da_cons (de_val (pv 5)) da_nil)) (de_c pe_int fun _ => .int _)) (nomark _))))))))))

abbrev s__law_nowhere : Stmt := top 69
theorem sc__law_nowhere : FnScope n__law_nowhere ["word", "made", "spot", "put"] (defScope s__law_nowhere) := ⟨rfl, rfl, rfl, by decide +kernel, rfl, by decide +kernel, by decide +kernel⟩
theorem D__law_nowhere {f : Addr} {fd : FuncData} (F : FunD K "_law_nowhere" "_law_nowhere" (defArgs s__law_nowhere) (defBody s__law_nowhere) (defScope s__law_nowhere) [] [] f fd) (hm : mg "_law_nowhere" = some (.ref f)) (T : Tx K mg) (H_item_at : Fn P w K mg base "item_at" 4 2 F_item_at) (H_exchanged : Fn P w K mg base "exchanged" 42 3 F_exchanged) (H__law_stray : FnE P w K mg base "_law_stray" 1 F__law_stray) : Fn P w K mg base "_law_nowhere" 43 4 F__law_nowhere := by
  refine ⟨f, fd, ["word", "made", "spot", "put"], fn_mkB (N := n__law_nowhere) (n := 4) (k := 42) (g := b__law_nowhere) F sc__law_nowhere rfl (by decide) (fun cdv A outer s H E c W b => ?_), hm, F.kp, F.bindsN fun _ _ _ _ _ _ us hl => match us, hl with | [_, _, _, _], _ => rfl⟩
  exact (ds_cons (ds_try (t := xtab) b sc__law_nowhere.nd (.cons (i := 4) (C := (CN.own "NoPlace")) (cn_own T.g_NoPlace) (fun x hx => T.xt.exm x hx _ (List.mem_of_getElem? (i := 1) rfl)) rfl rfl (fun c a pn x hx hX rm => (ds_cons (ds_if (PW.pt (dw_or (dt_tru (de_is1 T.xt hX hx (pv 4) (cn_own T.g_TooDeep) (List.mem_of_getElem? (i := 26) rfl) rfl T.b_isinstance)) (dw_or1 (dt_tru (de_hot H__law_stray hX (rm.mono (by decide)) rfl (pv 4))))))
 (ds_one (ds_ret (de_c pe_bl fun _ => .bl _)))
 ds_nil)
 (ds_one (ds_ret (de_and (de_blt call_isi ok_isi rfl T.b_isinstance (by decide +kernel) (da_cons (de_fld T.xt T.fl hX hx (List.mem_of_getElem? (i := 1) rfl) (pv 4)) (da_cons (de_c (pe_bltn (v := .ty "tuple") rfl T.b_tuple (by decide +kernel) rfl) fun _ => .ty _) da_nil))) (de_one (de_cmp (op_eqAll (huH rm)) ok_eq (de_fld T.xt T.fl hX hx (List.mem_of_getElem? (i := 1) rfl) (pv 4)) (de_var (pv 2)) (nomark _))))))))
 .nil)
 (fun W1 pn xe b => (ds_one (ds_if (dt_cmp (op_eqAll b.room.units) ok_eq (de_var (pv 0)) (de_c pe_str fun _ => .str _) (nomark _))
 (ds_one (ds_expr (de_fn b.toBx H_item_at (by decide) rfl (da_cons (de_val (pv 1)) (da_cons (de_val (pv 2)) da_nil)))))
 (ds_one (ds_expr (de_fn b.toBx H_exchanged (by decide) rfl (da_cons (de_val (pv 1)) (da_cons (de_val (pv 2)) (da_cons (de_val (pv 3)) da_nil))))))))))
 (ds_one (ds_ret (de_c pe_bl fun _ => .bl _))))

abbrev s__law_no_spots : Stmt := top 70
theorem sc__law_no_spots : FnScope n__law_no_spots ["tape", "made", "spots", "worth"] (defScope s__law_no_spots) := ⟨rfl, rfl, rfl, by decide +kernel, rfl, by decide +kernel, by decide +kernel⟩
theorem D__law_no_spots {f : Addr} {fd : FuncData} (F : FunD K "_law_no_spots" "_law_no_spots" (defArgs s__law_no_spots) (defBody s__law_no_spots) (defScope s__law_no_spots) [] [] f fd) (hm : mg "_law_no_spots" = some (.ref f)) (T : Tx K mg) (H__law_next : Fn P w K mg base "_law_next" 1 2 F__law_next) : Fn P w K mg base "_law_no_spots" 2 4 F__law_no_spots := by
  refine ⟨f, fd, ["tape", "made", "spots", "worth"], fn_mkB (N := n__law_no_spots) (n := 4) (k := 1) (g := b__law_no_spots) F sc__law_no_spots rfl (by decide) (fun cdv A outer s H E c W b => ?_), hm, F.kp, F.bindsN fun _ _ _ _ _ _ us hl => match us, hl with | [_, _, _, _], _ => rfl⟩
  exact (ds_cons (ds_asgF (i := 4) sc__law_no_spots.nd rfl (by first | exact Or.inl rfl | exact Or.inr rfl) (de_lstF (da_cons (de_tup da_nil) (da_cons (de_tup (da_cons (de_blt call_len ok_len rfl T.b_len (by decide +kernel) (da_cons (de_var (pv 1)) da_nil)) da_nil)) (da_cons (de_tup (da_cons (de_neg (de_c pe_int fun _ => .int _)) da_nil)) da_nil)))))
 (ds_cons (ds_if (dt_cmp (op_eqAll b.room.units) ok_eq (de_blt call_len ok_len rfl T.b_len (by decide +kernel) (da_cons (de_var (pv 2)) da_nil)) (de_c pe_int fun _ => .int _) (nomark _))
 (ds_one (ds_ret (de_val (pv 4))))
 ds_nil)
 (ds_cons (ds_asg (i := 5) sc__law_no_spots.nd rfl (by first | exact Or.inl rfl | exact Or.inr rfl) (de_bin op_modN ok_mod (de_bltTy call_int1 ok_toInt rfl T.b_int (by decide +kernel) (da_cons (de_fn b.toBx H__law_next (by decide) rfl (da_cons (de_var (pv 0)) (da_cons (de_c pe_int fun _ => .int _) da_nil))) da_nil)) (de_blt call_len ok_len rfl T.b_len (by decide +kernel) (da_cons (de_var (pv 2)) da_nil))))
 (ds_cons (ds_asg (i := 6) sc__law_no_spots.nd rfl (by first | exact Or.inl rfl | exact Or.inr rfl) (de_idx (de_var (pv 2)) (de_var (pv 5))))
 (ds_cons (ds_if (dt_cmp (op_eqAll b.room.units) ok_eq (de_idx (de_idx (de_var (pv 3)) (de_var (pv 5))) (de_c pe_int fun _ => .int _)) (de_c pe_str fun _ => .str _) (nomark _))
 (ds_one (ds_app (de_var (pv 4)) (de_bin op_addAll ok_add (de_var (pv 6)) (de_tup (da_cons (de_blt call_len ok_len rfl T.b_len (by decide +kernel) (da_cons (de_idx (de_idx (de_var (pv 3)) (de_var (pv 5))) (de_c pe_int fun _ => .int _)) da_nil)) da_nil)))))
 (ds_one (ds_app (de_var (pv 4)) (de_bin op_addAll ok_add (de_var (pv 6)) (de_tup (da_cons (de_c pe_int fun _ => .int _) da_nil))))))
 (ds_cons (ds_app (de_var (pv 4)) (de_bin op_addAll ok_add (de_var (pv 6)) (de_tup (da_cons (de_neg (de_c pe_int fun _ => .int _)) da_nil))))
 (ds_cons (ds_app (de_var (pv 4)) (de_bin op_addAll ok_add (de_slice (de_var (pv 6)) do_none (do_some (de_neg (de_c pe_int fun _ => .int _)))) (de_tup (da_cons (de_bin op_sub ok_sub (de_bin op_pow ok_pow (de_c pe_int fun _ => .int _) (de_c pe_int fun _ => .int _)) (de_c pe_int fun _ => .int _)) da_nil))))
 (ds_cons (ds_app (de_var (pv 4)) (de_bin op_addAll ok_add (de_tup (da_cons (de_neg (de_c pe_int fun _ => .int _)) da_nil)) (de_slice (de_var (pv 6)) (do_some (de_c pe_int fun _ => .int _)) do_none)))
 (ds_one (ds_ret (de_val (pv 4))))))))))))

abbrev s__law_lists : Stmt := top 71
theorem sc__law_lists : FnScope n__law_lists ["text", "due", "made", "spots", "worth"] (defScope s__law_lists) := ⟨rfl, rfl, rfl, by decide +kernel, rfl, by decide +kernel, by decide +kernel⟩
theorem D__law_lists {f : Addr} {fd : FuncData} (F : FunD K "_law_lists" "_law_lists" (defArgs s__law_lists) (defBody s__law_lists) (defScope s__law_lists) [] [] f fd) (hm : mg "_law_lists" = some (.ref f)) (T : Tx K mg) (H_tokens : Fn P w K mg base "tokens" 4 1 F_tokens) (H_places : Fn P w K mg base "places" 42 1 F_places) (H__law_int : Fn P w K mg base "_law_int" 1 1 F__law_int) (H_read_items : Fn P w K mg base "read_items" 5 1 F_read_items) (H_item_at : Fn P w K mg base "item_at" 4 2 F_item_at) : Fn P w K mg base "_law_lists" 43 5 F__law_lists := by
  refine ⟨f, fd, ["text", "due", "made", "spots", "worth"], fn_mkB (N := n__law_lists) (n := 5) (k := 42) (g := b__law_lists) F sc__law_lists rfl (by decide) (fun cdv A outer s H E c W b => ?_), hm, F.kp, F.bindsN fun _ _ _ _ _ _ us hl => match us, hl with | [_, _, _, _, _], _ => rfl⟩
  exact (ds_cons (ds_asgF (i := 5) sc__law_lists.nd rfl (by first | exact Or.inl rfl | exact Or.inr rfl) (de_fnF b.toBx H_tokens (by decide) rfl (da_cons (de_val (pv 0)) da_nil)))
 (ds_cons (ds_if (PW.pt (dw_or (dt_not (dt_tru (de_blt call_isi ok_isi rfl T.b_isinstance (by decide +kernel) (da_cons (de_var (pv 5)) (da_cons (de_c (pe_bltn (v := .ty "list") rfl T.b_list (by decide +kernel) rfl) fun _ => .ty _) da_nil))))) (dw_or1 (dt_cmp (op_neAll b.room.units) ok_ne (de_var (pv 5)) (de_var (pv 1)) (nomark _)))))
 (ds_one (ds_ret (de_c pe_bl fun _ => .bl _)))
 ds_nil)
 (ds_cons (ds_forO b.po b.calm (pv 5) (fun _ => (dg_name (i := 6) sc__law_lists.nd rfl (by first | exact Or.inl rfl | exact Or.inr rfl)))
 (fun _ => (ds_one (ds_if (dt_not (dt_tru (de_fn b.toBx H__law_int (by decide) rfl (da_cons (de_idx (de_var (pv 6)) (de_c pe_int fun _ => .int _)) da_nil))))
 (ds_one (ds_ret (de_c pe_bl fun _ => .bl _)))
 ds_nil))))
 (ds_cons (ds_app (de_var (pv 5)) (de_tup (da_cons (de_c pe_str fun _ => .str _) (da_cons (de_c pe_str fun _ => .str _) (da_cons (de_c pe_int fun _ => .int _) da_nil)))))
 (ds_cons (ds_if (PW.pt (dw_or (dt_cmp (op_neAll b.room.units) ok_ne (de_fn b.toBx H_tokens (by decide) rfl (da_cons (de_val (pv 0)) da_nil)) (de_var (pv 1)) (nomark _)) (dw_or1 (dt_cmp (op_neAll b.room.units) ok_ne (de_fn b.toBx H_read_items (by decide) rfl (da_cons (de_val (pv 0)) da_nil)) (de_var (pv 2)) (nomark _)))))
 (ds_one (ds_ret (de_c pe_bl fun _ => .bl _)))
 ds_nil)
 (ds_cons (ds_asgF (i := 5) sc__law_lists.nd rfl (by first | exact Or.inl rfl | exact Or.inr rfl) (de_fnF b.toBx H_places (by decide) rfl (da_cons (de_val (pv 2)) da_nil)))
 (ds_cons (ds_if (PW.pt (dw_or (dt_not (dt_tru (de_blt call_isi ok_isi rfl T.b_isinstance (by decide +kernel) (da_cons (de_var (pv 5)) (da_cons (de_c (pe_bltn (v := .ty "list") rfl T.b_list (by decide +kernel) rfl) fun _ => .ty _) da_nil))))) (dw_or1 (dt_cmp (op_neAll b.room.units) ok_ne (de_var (pv 5)) (de_var (pv 3)) (nomark _)))))
 (ds_one (ds_ret (de_c pe_bl fun _ => .bl _)))
 ds_nil)
 (ds_cons (ds_app (de_var (pv 5)) (de_tup (da_cons (de_c pe_int fun _ => .int _) da_nil)))
 (ds_cons (ds_if (dt_cmp (op_neAll b.room.units) ok_ne (de_fn b.toBx H_places (by decide) rfl (da_cons (de_val (pv 2)) da_nil)) (de_var (pv 3)) (nomark _))
 (ds_one (ds_ret (de_c pe_bl fun _ => .bl _)))
 ds_nil)
 (ds_cons (ds_for b.po b.calm (di_range1 rfl T.b_range (da_cons (de_blt call_len ok_len rfl T.b_len (by decide +kernel) (da_cons (de_var (pv 3)) da_nil)) da_nil)) (dg_name (i := 7) sc__law_lists.nd rfl (by first | exact Or.inl rfl | exact Or.inr rfl))
 (ds_one (ds_if (dt_cmp (op_neAll b.room.units) ok_ne (de_fn b.toBx H_item_at (by decide) rfl (da_cons (de_val (pv 2)) (da_cons (de_idx (de_var (pv 3)) (de_var (pv 7))) da_nil))) (de_idx (de_var (pv 4)) (de_var (pv 7))) (nomark _))
 (ds_one (ds_ret (de_c pe_bl fun _ => .bl _)))
 ds_nil)))
 (ds_one (ds_ret (de_c pe_bl fun _ => .bl _)))))))))))))

abbrev s__law_deep : Stmt := top 72
theorem sc__law_deep : FnScope n__law_deep ["tape"] (defScope s__law_deep) := ⟨rfl, rfl, rfl, by decide +kernel, rfl, by decide +kernel, by decide +kernel⟩
theorem D__law_deep {f : Addr} {fd : FuncData} (F : FunD K "_law_deep" "_law_deep" (defArgs s__law_deep) (defBody s__law_deep) (defScope s__law_deep) [] [] f fd) (hm : mg "_law_deep" = some (.ref f)) (T : Tx K mg) (H__law_chain : Fn P w K mg base "_law_chain" 1 2 F__law_chain) (H__law_nowhere : Fn P w K mg base "_law_nowhere" 43 4 F__law_nowhere) (H__law_next : Fn P w K mg base "_law_next" 1 2 F__law_next) (H__law_read : Fn P w K mg base "_law_read" 1 1 F__law_read) (H__law_exchange : Fn P w K mg base "_law_exchange" 43 5 F__law_exchange) (H__law_leaf : Fn P w K mg base "_law_leaf" 3 1 F__law_leaf) : Fn P w K mg base "_law_deep" 44 1 F__law_deep := by
  refine ⟨f, fd, ["tape"], fn_mkB (N := n__law_deep) (n := 1) (k := 43) (g := b__law_deep) F sc__law_deep rfl (by decide) (fun cdv A outer s H E c W b => ?_), hm, F.kp, F.bindsN fun _ _ _ _ _ _ us hl => match us, hl with | [_], _ => rfl⟩
  exact (ds_cons (ds_asg (i := 1) sc__law_deep.nd rfl (by first | exact Or.inl rfl | exact Or.inr rfl) (de_bin op_addAll ok_add (de_c pe_int fun _ => .int _) (de_fn b.toBx H__law_next (by decide) rfl (da_cons (de_var (pv 0)) (da_cons (de_c pe_int fun _ => .int _) da_nil)))))
 (ds_cons (ds_asg (i := 2) sc__law_deep.nd rfl (by first | exact Or.inl rfl | exact Or.inr rfl) (de_fn b.toBx H__law_chain (by decide) rfl (da_cons (de_blt (call_min2 b.calm) ok_min2 rfl T.b_min (by decide +kernel) (da_cons (de_c pe_int fun _ => .int _) (da_cons (de_bin op_addAll ok_add (de_var (pv 1)) (de_fn b.toBx H__law_next (by decide) rfl (da_cons (de_var (pv 0)) (da_cons (de_c pe_int fun _ => .int _) da_nil)))) da_nil))) (da_cons (de_frz (de_lstF (da_cons (de_fn b.toBx H__law_leaf (by decide) rfl (da_cons (de_var (pv 0)) da_nil)) da_nil))) da_nil))))
 (ds_cons (ds_asg (i := 2) sc__law_deep.nd rfl (by first | exact Or.inl rfl | exact Or.inr rfl) (de_bin op_addAll ok_add (de_frz (de_lstF (da_cons (de_fn b.toBx H__law_leaf (by decide) rfl (da_cons (de_var (pv 0)) da_nil)) da_nil))) (de_var (pv 2))))
 (ds_cons (ds_asg (i := 3) sc__law_deep.nd rfl (by first | exact Or.inl rfl | exact Or.inr rfl) (de_idx (de_fn b.toBx H__law_read (by decide) rfl (da_cons (de_val (pv 2)) da_nil)) (de_c pe_int fun _ => .int _)))
 (ds_cons (ds_asg (i := 4) sc__law_deep.nd rfl (by first | exact Or.inl rfl | exact Or.inr rfl) (de_bin op_addAll ok_add (de_tup (da_cons (de_c pe_int fun _ => .int _) da_nil)) (de_bin op_mulB ok_mulB (de_tup (da_cons (de_c pe_int fun _ => .int _) da_nil)) (de_var (pv 1)))))
 (ds_cons (ds_asg (i := 5) sc__law_deep.nd rfl (by first | exact Or.inl rfl | exact Or.inr rfl) (de_frz (de_lstF (da_cons (de_bin op_addAll ok_add (de_c pe_int fun _ => .int _) (de_var (pv 1))) (da_cons (de_bin op_sub ok_sub (de_blt call_len ok_len rfl T.b_len (by decide +kernel) (da_cons (de_var (pv 2)) da_nil)) (de_var (pv 1))) da_nil)))))
 (ds_cons (ds_asg (i := 6) sc__law_deep.nd rfl (by first | exact Or.inl rfl | exact Or.inr rfl) (de_fn b.toBx H__law_chain (by decide) rfl (da_cons (de_bin op_sub ok_sub (de_c pe_int fun _ => .int _) (de_var (pv 1))) (da_cons (de_frz (de_lstF (da_cons (de_fn b.toBx H__law_leaf (by decide) rfl (da_cons (de_var (pv 0)) da_nil)) da_nil))) da_nil))))
 (ds_cons (ds_asg (i := 7) sc__law_deep.nd rfl (by first | exact Or.inl rfl | exact Or.inr rfl) (de_bin op_addAll ok_add (de_frz (de_lstF (da_cons (de_fn b.toBx H__law_leaf (by decide) rfl (da_cons (de_var (pv 0)) da_nil)) da_nil))) (de_fn b.toBx H__law_chain (by decide) rfl (da_cons (de_bin op_sub ok_sub (de_c pe_int fun _ => .int _) (de_var (pv 1))) (da_cons (de_frz (de_lstF (da_cons (de_fn b.toBx H__law_leaf (by decide) rfl (da_cons (de_var (pv 0)) da_nil)) da_nil))) da_nil)))))
 (ds_cons (ds_if (dt_not (dt_tru (de_fn b.toBx H__law_exchange (by decide) rfl (da_cons (de_val (pv 3)) (da_cons (de_val (pv 4)) (da_cons (de_val (pv 2)) (da_cons (de_val (pv 5)) (da_cons (de_val (pv 6)) da_nil))))))))
 (ds_one (ds_ret (de_c pe_bl fun _ => .bl _)))
 ds_nil)
 (ds_cons (ds_if (dt_not (dt_tru (de_fn b.toBx H__law_exchange (by decide) rfl (da_cons (de_val (pv 3)) (da_cons (de_val (pv 4)) (da_cons (de_val (pv 2)) (da_cons (de_val (pv 5)) (da_cons (de_val (pv 7)) da_nil))))))))
 (ds_one (ds_ret (de_c pe_bl fun _ => .bl _)))
 ds_nil)
 (ds_one (ds_ret (de_fn b.toBx H__law_nowhere (by decide) rfl (da_cons (de_c pe_str fun _ => .str _) (da_cons (de_val (pv 3)) (da_cons (de_bin op_addAll ok_add (de_slice (de_var (pv 4)) do_none (do_some (de_neg (de_c pe_int fun _ => .int _)))) (de_tup (da_cons (de_c pe_int fun _ => .int _) da_nil))) (da_cons (de_idx (de_fn b.toBx H__law_read (by decide) rfl (da_cons (de_val (pv 7)) da_nil)) (de_c pe_int fun _ => .int _)) da_nil)))))))))))))))))

abbrev s_law : Stmt := top 73
theorem sc_law : FnScope n_law ["script"] (defScope s_law) := ⟨rfl, rfl, rfl, by decide +kernel, rfl, by decide +kernel, by decide +kernel⟩
theorem D_law {f : Addr} {fd : FuncData} (F : FunD K "law" "law" (defArgs s_law) (defBody s_law) (defScope s_law) [] [] f fd) (T : Tx K mg) (H__law_tree : Fn P w K mg base "_law_tree" 4 3 F__law_tree) (H__law_read : Fn P w K mg base "_law_read" 1 1 F__law_read) (H__law_text : Fn P w K mg base "_law_text" 2 2 F__law_text) (H__law_no_spots : Fn P w K mg base "_law_no_spots" 2 4 F__law_no_spots) (H__law_row : Fn P w K mg base "_law_row" 1 1 F__law_row) (H__law_next : Fn P w K mg base "_law_next" 1 2 F__law_next) (H__law_lists : Fn P w K mg base "_law_lists" 43 5 F__law_lists) (H__law_deep : Fn P w K mg base "_law_deep" 44 1 F__law_deep) (H__law_chain : Fn P w K mg base "_law_chain" 1 2 F__law_chain) (H__law_words : Fn P w K mg base "_law_words" 1 0 F__law_words) (H__law_nowhere : Fn P w K mg base "_law_nowhere" 43 4 F__law_nowhere) (H__law_leaf : Fn P w K mg base "_law_leaf" 3 1 F__law_leaf) (H__law_exchange : Fn P w K mg base "_law_exchange" 43 5 F__law_exchange) : FnOk P w K mg base (L2.CX P w) 45 f fd ["script"] (spF K 1 F_law) := by
  refine fn_mkB (N := n_law) (n := 1) (k := 44) (g := b_law) F sc_law rfl (by decide) (fun cdv A outer s H E c W b => ?_)
  exact (ds_cons (ds_asgF (i := 1) sc_law.nd rfl (by first | exact Or.inl rfl | exact Or.inr rfl) (de_lstF (da_cons (de_fn b.toBx H__law_row (by decide) rfl (da_cons (de_val (pv 0)) da_nil)) (da_cons (de_c pe_int fun _ => .int _) da_nil))))
 (ds_cons (ds_asg (i := 2) sc_law.nd rfl (by first | exact Or.inl rfl | exact Or.inr rfl) (de_fn b.toBx H__law_tree (by decide) rfl (da_cons (de_var (pv 1)) (da_cons (de_fn b.toBx H__law_next (by decide) rfl (da_cons (de_var (pv 1)) (da_cons (de_c pe_int fun _ => .int _) da_nil))) (da_cons (de_c pe_int fun _ => .int _) da_nil)))))
 (ds_cons (ds_if (dt_cmp (op_eqAll b.room.units) ok_eq (de_fn b.toBx H__law_next (by decide) rfl (da_cons (de_var (pv 1)) (da_cons (de_c pe_int fun _ => .int _) da_nil))) (de_c pe_int fun _ => .int _) (nomark _))
 (ds_one (ds_asg (i := 2) sc_law.nd rfl (by first | exact Or.inl rfl | exact Or.inr rfl) (de_bin op_addAll ok_add (de_var (pv 2)) (de_fn b.toBx H__law_chain (by decide) rfl (da_cons (de_c pe_int fun _ => .int _) (da_cons (de_frz (de_lstF (da_cons (de_fn b.toBx H__law_leaf (by decide) rfl (da_cons (de_var (pv 1)) da_nil)) da_nil))) da_nil))))))
 ds_nil)
 (ds_cons (ds_if (dt_cmp (op_eqAll b.room.units) ok_eq (de_fn b.toBx H__law_next (by decide) rfl (da_cons (de_var (pv 1)) (da_cons (de_c pe_int fun _ => .int _) da_nil))) (de_c pe_int fun _ => .int _) (nomark _))
 (ds_one (ds_asg (i := 2) sc_law.nd rfl (by first | exact Or.inl rfl | exact Or.inr rfl) (de_bin op_addAll ok_add (de_var (pv 2)) (de_frz (de_lc (own := [("k", 3)]) b.calm sc_law.nd (di_range1 rfl T.b_range (da_cons (de_bin op_addAll ok_add (de_c pe_int fun _ => .int _) (de_fn b.toBx H__law_next (by decide) rfl (da_cons (de_var (pv 1)) (da_cons (de_c pe_int fun _ => .int _) da_nil)))) da_nil)) (blkOk_by (own := [("k", 3)]) (N := n_law) (sc := defScope s_law) (by decide +kernel)) (by decide) (fun _ _ _ _ _ => (dg_name (i := 3) sc_law.nd rfl (by first | exact Or.inl rfl | exact Or.inr rfl))) (fun _ _ _ _ _ => dts_nil) (fun _ _ _ _ _ => (de_fn (Bx.blk b.toBx) H__law_leaf (by decide) rfl (da_cons (de_var (pv 1)) da_nil))))))))
 ds_nil)
 (ds_cons (ds_unp (de_fn b.toBx H__law_read (by decide) rfl (da_cons (de_val (pv 2)) da_nil)) (dg_tup b.calm (dgs_cons (dg_name (i := 4) sc_law.nd rfl (by first | exact Or.inl rfl | exact Or.inr rfl)) (dgs_cons (dg_name (i := 5) sc_law.nd rfl (by first | exact Or.inl rfl | exact Or.inr rfl)) (dgs_cons (dg_name (i := 6) sc_law.nd rfl (by first | exact Or.inl rfl | exact Or.inr rfl)) (dgs_cons (dg_name (i := 7) sc_law.nd rfl (by first | exact Or.inl rfl | exact Or.inr rfl)) dgs_nil))))))
 (ds_cons (ds_unp (de_fn b.toBx H__law_text (by decide) rfl (da_cons (de_var (pv 1)) (da_cons (de_val (pv 2)) da_nil))) (dg_tup b.calm (dgs_cons (dg_name (i := 8) sc_law.nd rfl (by first | exact Or.inl rfl | exact Or.inr rfl)) (dgs_cons (dg_name (i := 9) sc_law.nd rfl (by first | exact Or.inl rfl | exact Or.inr rfl)) dgs_nil))))
 (ds_cons (ds_if (PW.pt (dw_or (dt_not (dt_tru (de_blt call_isi ok_isi rfl T.b_isinstance (by decide +kernel) (da_cons (de_c (pe_glob (v := .ref _) rfl T.g_WORDS rfl) T.c_WORDS) (da_cons (de_c (pe_bltn (v := .ty "tuple") rfl T.b_tuple (by decide +kernel) rfl) fun _ => .ty _) da_nil))))) (dw_or1 (dt_cmp (op_neAll b.room.units) ok_ne (de_bltTy call_listT ok_listT rfl T.b_list (by decide +kernel) (da_cons (de_c (pe_glob (v := .ref _) rfl T.g_WORDS rfl) T.c_WORDS) da_nil)) (de_fn0 b.toBx H__law_words (by decide) rfl) (nomark _)))))
 (ds_one (ds_ret (de_c pe_bl fun _ => .bl _)))
 ds_nil)
 (ds_cons (ds_if (dt_not (dt_tru (de_fn b.toBx H__law_lists (by decide) rfl (da_cons (de_val (pv 8)) (da_cons (de_val (pv 9)) (da_cons (de_val (pv 4)) (da_cons (de_val (pv 5)) (da_cons (de_val (pv 6)) da_nil))))))))
 (ds_one (ds_ret (de_c pe_bl fun _ => .bl _)))
 ds_nil)
 (ds_cons (ds_asg (i := 10) sc_law.nd rfl (by first | exact Or.inl rfl | exact Or.inr rfl) (de_fn b.toBx H__law_tree (by decide) rfl (da_cons (de_var (pv 1)) (da_cons (de_fn b.toBx H__law_next (by decide) rfl (da_cons (de_var (pv 1)) (da_cons (de_c pe_int fun _ => .int _) da_nil))) (da_cons (de_c pe_int fun _ => .int _) da_nil)))))
 (ds_cons (ds_for b.po b.calm (di_range1 rfl T.b_range (da_cons (de_c pe_int fun _ => .int _) da_nil)) (dg_name (i := 3) sc_law.nd rfl (by first | exact Or.inl rfl | exact Or.inr rfl))
 (ds_one (ds_if (dt_cmp op_gt ok_gt (de_blt call_len ok_len rfl T.b_len (by decide +kernel) (da_cons (de_var (pv 5)) da_nil)) (de_c pe_int fun _ => .int _) (nomark _))
 (ds_cons (ds_asg (i := 11) sc_law.nd rfl (by first | exact Or.inl rfl | exact Or.inr rfl) (de_bin op_fdivA ok_div (de_bin op_addAll ok_add (de_bin op_mulW ok_mulI (de_fn b.toBx H__law_next (by decide) rfl (da_cons (de_var (pv 1)) (da_cons (de_c pe_int fun _ => .int _) da_nil))) (de_c pe_int fun _ => .int _)) (de_fn b.toBx H__law_next (by decide) rfl (da_cons (de_var (pv 1)) (da_cons (de_c pe_int fun _ => .int _) da_nil)))) (de_bin op_addAll ok_add (de_c pe_int fun _ => .int _) (de_var (pv 3)))))
 (ds_cons (ds_asg (i := 11) sc_law.nd rfl (by first | exact Or.inl rfl | exact Or.inr rfl) (de_bin op_modN ok_mod (de_bltTy call_int1 ok_toInt rfl T.b_int (by decide +kernel) (da_cons (de_var (pv 11)) da_nil)) (de_blt call_len ok_len rfl T.b_len (by decide +kernel) (da_cons (de_var (pv 5)) da_nil))))
 (ds_one (ds_if (dt_not (dt_tru (de_fn b.toBx H__law_exchange (by decide) rfl (da_cons (de_val (pv 4)) (da_cons (de_idx (de_var (pv 5)) (de_var (pv 11))) (da_cons (de_val (pv 2)) (da_cons (de_idx (de_var (pv 7)) (de_var (pv 11))) (da_cons (de_val (pv 10)) da_nil))))))))
 (ds_one (ds_ret (de_c pe_bl fun _ => .bl _)))
 ds_nil))))
 ds_nil)))
 (ds_cons (ds_for b.po b.calm (di_seq (de_fn b.toBx H__law_no_spots (by decide) rfl (da_cons (de_var (pv 1)) (da_cons (de_val (pv 4)) (da_cons (de_val (pv 5)) (da_cons (de_val (pv 6)) da_nil)))))) (dg_name (i := 12) sc_law.nd rfl (by first | exact Or.inl rfl | exact Or.inr rfl))
 (ds_cons (ds_if (dt_not (dt_tru (de_fn b.toBx H__law_nowhere (by decide) rfl (da_cons (de_c pe_str fun _ => .str _) (da_cons (de_val (pv 4)) (da_cons (de_val (pv 12)) (da_cons (de_tup da_nil) da_nil)))))))
 (ds_one (ds_ret (de_c pe_bl fun _ => .bl _)))
 ds_nil)
 (ds_one (ds_if (dt_not (dt_tru (de_fn b.toBx H__law_nowhere (by decide) rfl (da_cons (de_c pe_str fun _ => .str _) (da_cons (de_val (pv 4)) (da_cons (de_val (pv 12)) (da_cons (de_idx (de_fn b.toBx H__law_read (by decide) rfl (da_cons (de_val (pv 10)) da_nil)) (de_c pe_int fun _ => .int _)) da_nil)))))))
 (ds_one (ds_ret (de_c pe_bl fun _ => .bl _)))
 ds_nil))))
 (ds_one (ds_ret (de_and (de_fn b.toBx H__law_deep (by decide) rfl (da_cons (de_var (pv 1)) da_nil)) (de_one (de_fn b.toBx H__law_lists (by decide) rfl (da_cons (de_val (pv 8)) (da_cons (de_val (pv 9)) (da_cons (de_val (pv 4)) (da_cons (de_val (pv 5)) (da_cons (de_val (pv 6)) da_nil)))))))))))))))))))))

end
end K03
end

section
set_option maxRecDepth 100000
set_option maxHeartbeats 0
namespace K03
open PySem L2 DL
def d_is_name : He.DefD := ⟨("is_name", none), "is_name", "is_name", defArgs s_is_name, defBody s_is_name, defScope s_is_name, [], []⟩
def d_digits_value : He.DefD := ⟨("digits_value", none), "digits_value", "digits_value", defArgs s_digits_value, defBody s_digits_value, defScope s_digits_value, [], []⟩
def d_token_number : He.DefD := ⟨("token_number", none), "token_number", "token_number", defArgs s_token_number, defBody s_token_number, defScope s_token_number, [], []⟩
def d_token_kind : He.DefD := ⟨("token_kind", none), "token_kind", "token_kind", defArgs s_token_kind, defBody s_token_kind, defScope s_token_kind, [], []⟩
def d_tokens : He.DefD := ⟨("tokens", none), "tokens", "tokens", defArgs s_tokens, defBody s_tokens, defScope s_tokens, [], []⟩
def d_single_item : He.DefD := ⟨("single_item", none), "single_item", "single_item", defArgs s_single_item, defBody s_single_item, defScope s_single_item, [], []⟩
def d_read_items : He.DefD := ⟨("read_items", none), "read_items", "read_items", defArgs s_read_items, defBody s_read_items, defScope s_read_items, [], []⟩
def d_proc_depth : He.DefD := ⟨("proc_depth", none), "proc_depth", "proc_depth", defArgs s_proc_depth, defBody s_proc_depth, defScope s_proc_depth, [], []⟩
def d_places_behind : He.DefD := ⟨("places_behind", none), "places_behind", "places_behind", defArgs s_places_behind, defBody s_places_behind, defScope s_places_behind, [], []⟩
def d_places : He.DefD := ⟨("places", none), "places", "places", defArgs s_places, defBody s_places, defScope s_places, [], []⟩
def d_rows_around : He.DefD := ⟨("rows_around", none), "rows_around", "rows_around", defArgs s_rows_around, defBody s_rows_around, defScope s_rows_around, [], []⟩
def d_item_at : He.DefD := ⟨("item_at", none), "item_at", "item_at", defArgs s_item_at, defBody s_item_at, defScope s_item_at, [], []⟩
def d_spliced : He.DefD := ⟨("spliced", none), "spliced", "spliced", defArgs s_spliced, defBody s_spliced, defScope s_spliced, [], []⟩
def d_exchanged : He.DefD := ⟨("exchanged", none), "exchanged", "exchanged", defArgs s_exchanged, defBody s_exchanged, defScope s_exchanged, [], []⟩
def d__law_gcd : He.DefD := ⟨("_law_gcd", none), "_law_gcd", "_law_gcd", defArgs s__law_gcd, defBody s__law_gcd, defScope s__law_gcd, [], []⟩
def d__law_row : He.DefD := ⟨("_law_row", none), "_law_row", "_law_row", defArgs s__law_row, defBody s__law_row, defScope s__law_row, [], []⟩
def d__law_next : He.DefD := ⟨("_law_next", none), "_law_next", "_law_next", defArgs s__law_next, defBody s__law_next, defScope s__law_next, [], []⟩
def d__law_words : He.DefD := ⟨("_law_words", none), "_law_words", "_law_words", defArgs s__law_words, defBody s__law_words, defScope s__law_words, [], []⟩
def d__law_name : He.DefD := ⟨("_law_name", none), "_law_name", "_law_name", defArgs s__law_name, defBody s__law_name, defScope s__law_name, [], []⟩
def d__law_still : He.DefD := ⟨("_law_still", none), "_law_still", "_law_still", defArgs s__law_still, defBody s__law_still, defScope s__law_still, [], []⟩
def d__law_still_text : He.DefD := ⟨("_law_still_text", none), "_law_still_text", "_law_still_text", defArgs s__law_still_text, defBody s__law_still_text, defScope s__law_still_text, [], []⟩
def d__law_leaf : He.DefD := ⟨("_law_leaf", none), "_law_leaf", "_law_leaf", defArgs s__law_leaf, defBody s__law_leaf, defScope s__law_leaf, [], []⟩
def d__law_tree : He.DefD := ⟨("_law_tree", none), "_law_tree", "_law_tree", defArgs s__law_tree, defBody s__law_tree, defScope s__law_tree, [], []⟩
def d__law_chain : He.DefD := ⟨("_law_chain", none), "_law_chain", "_law_chain", defArgs s__law_chain, defBody s__law_chain, defScope s__law_chain, [], []⟩
def d__law_read : He.DefD := ⟨("_law_read", none), "_law_read", "_law_read", defArgs s__law_read, defBody s__law_read, defScope s__law_read, [], []⟩
def d__law_text : He.DefD := ⟨("_law_text", none), "_law_text", "_law_text", defArgs s__law_text, defBody s__law_text, defScope s__law_text, [], []⟩
def d__law_int : He.DefD := ⟨("_law_int", none), "_law_int", "_law_int", defArgs s__law_int, defBody s__law_int, defScope s__law_int, [], []⟩
def d__law_stray : He.DefD := ⟨("_law_stray", none), "_law_stray", "_law_stray", defArgs s__law_stray, defBody s__law_stray, defScope s__law_stray, [], []⟩
def d__law_depth : He.DefD := ⟨("_law_depth", none), "_law_depth", "_law_depth", defArgs s__law_depth, defBody s__law_depth, defScope s__law_depth, [], []⟩
def d__law_exchange : He.DefD := ⟨("_law_exchange", none), "_law_exchange", "_law_exchange", defArgs s__law_exchange, defBody s__law_exchange, defScope s__law_exchange, [], []⟩
def d__law_nowhere : He.DefD := ⟨("_law_nowhere", none), "_law_nowhere", "_law_nowhere", defArgs s__law_nowhere, defBody s__law_nowhere, defScope s__law_nowhere, [], []⟩
def d__law_no_spots : He.DefD := ⟨("_law_no_spots", none), "_law_no_spots", "_law_no_spots", defArgs s__law_no_spots, defBody s__law_no_spots, defScope s__law_no_spots, [], []⟩
def d__law_lists : He.DefD := ⟨("_law_lists", none), "_law_lists", "_law_lists", defArgs s__law_lists, defBody s__law_lists, defScope s__law_lists, [], []⟩
def d__law_deep : He.DefD := ⟨("_law_deep", none), "_law_deep", "_law_deep", defArgs s__law_deep, defBody s__law_deep, defScope s__law_deep, [], []⟩
def d_law : He.DefD := ⟨("law", none), "law", "law", defArgs s_law, defBody s_law, defScope s_law, [], []⟩
def d_i_BadText : He.DefD := ⟨("BadText", some "__init__"), "__init__", "BadText.__init__", defArgs s_i_BadText, defBody s_i_BadText, defScope s_i_BadText, [], []⟩
def d_i_NoPlace : He.DefD := ⟨("NoPlace", some "__init__"), "__init__", "NoPlace.__init__", defArgs s_i_NoPlace, defBody s_i_NoPlace, defScope s_i_NoPlace, [], []⟩
def d_i_TooDeep : He.DefD := ⟨("TooDeep", some "__init__"), "__init__", "TooDeep.__init__", defArgs s_i_TooDeep, defBody s_i_TooDeep, defScope s_i_TooDeep, [], []⟩
def fnl : List He.DefD := [d_is_name, d_digits_value, d_token_number, d_token_kind, d_tokens, d_single_item, d_read_items, d_proc_depth, d_places_behind, d_places, d_rows_around, d_item_at, d_spliced, d_exchanged, d__law_gcd, d__law_row, d__law_next, d__law_words, d__law_name, d__law_still, d__law_still_text, d__law_leaf, d__law_tree, d__law_chain, d__law_read, d__law_text, d__law_int, d__law_stray, d__law_depth, d__law_exchange, d__law_nowhere, d__law_no_spots, d__law_lists, d__law_deep, d_law, d_i_BadText, d_i_NoPlace, d_i_TooDeep]
def fal : List He.Fa := [.glo "is_name", .glo "digits_value", .glo "token_number", .glo "token_kind", .glo "tokens", .glo "single_item", .glo "read_items", .glo "proc_depth", .glo "places_behind", .glo "places", .glo "rows_around", .glo "item_at", .glo "spliced", .glo "exchanged", .glo "_law_gcd", .glo "_law_row", .glo "_law_next", .glo "_law_words", .glo "_law_name", .glo "_law_still", .glo "_law_still_text", .glo "_law_leaf", .glo "_law_tree", .glo "_law_chain", .glo "_law_read", .glo "_law_text", .glo "_law_int", .glo "_law_stray", .glo "_law_depth", .glo "_law_exchange", .glo "_law_nowhere", .glo "_law_no_spots", .glo "_law_lists", .glo "_law_deep", .glo "law", .free "ValueError", .free "abs", .free "bool", .free "enumerate", .free "int", .free "isinstance", .free "len", .free "list", .free "max", .free "min", .free "range", .free "str", .free "tuple", .int "DEEPEST" 20, .str "DIGITS" "0123456789", .str "SEPARATORS" " \n{}", .str "SMALL_LETTERS" "abcdefghijklmnopqrstuvwxyz", .glo "WORDS", .glo "BadHeights", .glo "BadOrder", .glo "BadPart", .glo "BadRange", .glo "BadText", .glo "BadTurn", .glo "ByZero", .glo "Flat", .glo "Moving", .glo "NoEntry", .glo "NoPage", .glo "NoPatch", .glo "NoPiece", .glo "NoPlace", .glo "NotOpaque", .glo "NotWithin", .glo "NothingToRedo", .glo "NothingToUndo", .glo "Parallel", .glo "PrintError", .glo "SameInk", .glo "TooDeep", .glo "TooGreat", .glo "TooLong", .glo "TooMany", .glo "TooManyPages", .glo "Turns"]
def exl : List (PySem.W.Frag → Bool) := [bltB "gcd" "math.gcd", cstB "WORDS" c_WORDS, inB "BadText" ["place"], inB "NoPlace" ["place"], inB "TooDeep" ["limit"], baseB "PrintError", fldB xtab flds, xtB xtab cns ens]
end K03
end

section
set_option maxRecDepth 100000
set_option maxHeartbeats 0
namespace K03
open PySem L2 DL
abbrev R : PySem.W.OpenRow := PySem.W.OpenLaw.row PySem.Challenge.rw_printstacks_k03_texts_read_to_items_with
def asl : List PySem.Addr := [3, 43, 50, 57, 64, 71, 78, 88, 108, 127, 139, 151, 163, 182, 201, 220, 232, 251, 270, 289, 308, 327, 346, 365, 384, 403, 415, 427, 446, 465, 484, 503, 515, 527, 536, 543, 550, 557, 564, 571, 578, 585, 592, 599, 606, 613, 620, 627, 634, 641, 648, 653, 658, 665, 672, 679, 686, 693, 700, 707, 714, 721, 728, 733, 49, 56, 63, 70, 77, 87, 107, 126, 200, 535, 542, 549, 556, 563, 570, 577, 584, 591, 598, 605, 612, 619, 626, 633, 640, 647, 652, 657, 664, 671, 678, 685, 692, 699, 706, 713, 720, 727, 732, 105, 124, 198, 104, 123, 197, 2]
abbrev hk : PySem.W.Hook := hookL asl fal fnl exl
def ob (s : PySem.W.SharedT) : He.AlD := obsLG asl fal fnl exl (HandSHeadRun.getT s)
theorem ob_eq (s : PySem.W.SharedT) : ob s = hk.obs s.abs := obsLG_eq (HandSHeadRun.getT_eq s)
def loose0 : List PySem.Str := ["SMALL_LETTERS", "DIGITS", "WORDS", "is_name", "SEPARATORS", "digits_value", "token_number", "token_kind", "tokens", "PrintError", "BadText", "NoPlace", "ByZero", "Moving", "Flat", "TooLong", "TooDeep", "TooMany", "TooGreat", "NoPiece", "NoPatch", "NoEntry", "NotOpaque", "SameInk", "BadHeights", "BadTurn", "BadRange", "Turns", "Parallel", "NotWithin"]
def loose1 : List PySem.Str := ["TooManyPages", "BadPart", "NoPage", "BadOrder", "NothingToUndo", "NothingToRedo", "DEEPEST", "single_item", "read_items", "proc_depth", "places_behind", "places", "rows_around", "item_at", "spliced", "exchanged", "_law_gcd", "_law_row", "_law_next", "_law_words", "_law_name", "_law_still", "_law_still_text", "_law_leaf", "_law_tree", "_law_chain", "_law_read", "_law_text", "_law_int", "_law_stray"]
def loose2 : List PySem.Str := ["_law_depth", "_law_exchange", "_law_nowhere", "_law_no_spots", "_law_lists", "_law_deep"]
abbrev loose : List PySem.Str := loose0 ++ loose1 ++ loose2
theorem run (w : World) : HandSHeadRun.RunEqI R (PySem.W.view R.prog [0, 73]) hk ob 20000 loose w := by
  unfold HandSHeadRun.RunEqI
  kernel_rfl
section
variable {P : Program} {w : World} {K : PySem.W.Frag} {h : Heap} {mg : Str → Option Value}
theorem tx (X : K.In h) (G : h.Ns mainGlobals mg) (c : SaysX fal fnl exl K) : Tx K mg where
  b_ValueError := He.free_ok X G (c.toD.fact 35 (f := .free "ValueError") rfl)
  b_abs := He.free_ok X G (c.toD.fact 36 (f := .free "abs") rfl)
  b_bool := He.free_ok X G (c.toD.fact 37 (f := .free "bool") rfl)
  b_enumerate := He.free_ok X G (c.toD.fact 38 (f := .free "enumerate") rfl)
  b_int := He.free_ok X G (c.toD.fact 39 (f := .free "int") rfl)
  b_isinstance := He.free_ok X G (c.toD.fact 40 (f := .free "isinstance") rfl)
  b_len := He.free_ok X G (c.toD.fact 41 (f := .free "len") rfl)
  b_list := He.free_ok X G (c.toD.fact 42 (f := .free "list") rfl)
  b_max := He.free_ok X G (c.toD.fact 43 (f := .free "max") rfl)
  b_min := He.free_ok X G (c.toD.fact 44 (f := .free "min") rfl)
  b_range := He.free_ok X G (c.toD.fact 45 (f := .free "range") rfl)
  b_str := He.free_ok X G (c.toD.fact 46 (f := .free "str") rfl)
  b_tuple := He.free_ok X G (c.toD.fact 47 (f := .free "tuple") rfl)
  i_gcd := bltB_ok X G (c.ext 0 (f := bltB "gcd" "math.gcd") rfl)
  g_DEEPEST := He.int_ok X G (c.toD.fact 48 (f := .int "DEEPEST" 20) rfl)
  g_DIGITS := He.str_ok X G (c.toD.fact 49 (f := .str "DIGITS" "0123456789") rfl)
  g_SEPARATORS := He.str_ok X G (c.toD.fact 50 (f := .str "SEPARATORS" " \n{}") rfl)
  g_SMALL_LETTERS := He.str_ok X G (c.toD.fact 51 (f := .str "SMALL_LETTERS" "abcdefghijklmnopqrstuvwxyz") rfl)
  g_WORDS := He.glo_ok X G (c.toD.fact 52 (f := .glo "WORDS") rfl)
  c_WORDS := shB_ref (c.ext 1 (f := cstB "WORDS" c_WORDS) rfl)
  g_BadHeights := He.glo_ok X G (c.toD.fact 53 (f := .glo "BadHeights") rfl)
  g_BadOrder := He.glo_ok X G (c.toD.fact 54 (f := .glo "BadOrder") rfl)
  g_BadPart := He.glo_ok X G (c.toD.fact 55 (f := .glo "BadPart") rfl)
  g_BadRange := He.glo_ok X G (c.toD.fact 56 (f := .glo "BadRange") rfl)
  g_BadText := He.glo_ok X G (c.toD.fact 57 (f := .glo "BadText") rfl)
  g_BadTurn := He.glo_ok X G (c.toD.fact 58 (f := .glo "BadTurn") rfl)
  g_ByZero := He.glo_ok X G (c.toD.fact 59 (f := .glo "ByZero") rfl)
  g_Flat := He.glo_ok X G (c.toD.fact 60 (f := .glo "Flat") rfl)
  g_Moving := He.glo_ok X G (c.toD.fact 61 (f := .glo "Moving") rfl)
  g_NoEntry := He.glo_ok X G (c.toD.fact 62 (f := .glo "NoEntry") rfl)
  g_NoPage := He.glo_ok X G (c.toD.fact 63 (f := .glo "NoPage") rfl)
  g_NoPatch := He.glo_ok X G (c.toD.fact 64 (f := .glo "NoPatch") rfl)
  g_NoPiece := He.glo_ok X G (c.toD.fact 65 (f := .glo "NoPiece") rfl)
  g_NoPlace := He.glo_ok X G (c.toD.fact 66 (f := .glo "NoPlace") rfl)
  g_NotOpaque := He.glo_ok X G (c.toD.fact 67 (f := .glo "NotOpaque") rfl)
  g_NotWithin := He.glo_ok X G (c.toD.fact 68 (f := .glo "NotWithin") rfl)
  g_NothingToRedo := He.glo_ok X G (c.toD.fact 69 (f := .glo "NothingToRedo") rfl)
  g_NothingToUndo := He.glo_ok X G (c.toD.fact 70 (f := .glo "NothingToUndo") rfl)
  g_Parallel := He.glo_ok X G (c.toD.fact 71 (f := .glo "Parallel") rfl)
  g_PrintError := He.glo_ok X G (c.toD.fact 72 (f := .glo "PrintError") rfl)
  g_SameInk := He.glo_ok X G (c.toD.fact 73 (f := .glo "SameInk") rfl)
  g_TooDeep := He.glo_ok X G (c.toD.fact 74 (f := .glo "TooDeep") rfl)
  g_TooGreat := He.glo_ok X G (c.toD.fact 75 (f := .glo "TooGreat") rfl)
  g_TooLong := He.glo_ok X G (c.toD.fact 76 (f := .glo "TooLong") rfl)
  g_TooMany := He.glo_ok X G (c.toD.fact 77 (f := .glo "TooMany") rfl)
  g_TooManyPages := He.glo_ok X G (c.toD.fact 78 (f := .glo "TooManyPages") rfl)
  g_Turns := He.glo_ok X G (c.toD.fact 79 (f := .glo "Turns") rfl)
  xt := xtB_ok (c.ext 7 (f := xtB xtab cns ens) rfl)
  fl := fldB_ok (c.ext 6 (f := fldB xtab flds) rfl)
  n_BadText := inB_ok (c.ext 2 (f := inB "BadText" ["place"]) rfl) (He.glo_ok X G (c.toD.fact 57 (f := .glo "BadText") rfl))
  n_NoPlace := inB_ok (c.ext 3 (f := inB "NoPlace" ["place"]) rfl) (He.glo_ok X G (c.toD.fact 66 (f := .glo "NoPlace") rfl))
  n_TooDeep := inB_ok (c.ext 4 (f := inB "TooDeep" ["limit"]) rfl) (He.glo_ok X G (c.toD.fact 74 (f := .glo "TooDeep") rfl))
  y_PrintError := baseB_ok (c.ext 5 (f := baseB "PrintError") rfl) (He.glo_ok X G (c.toD.fact 72 (f := .glo "PrintError") rfl))
theorem law_fn (X : K.In h) (G : h.Ns mainGlobals mg) (c : SaysX fal fnl exl K) : ∃ (fd : FuncData), (∀ (s : Shared) (u : Value), BindsTo s fd ⟨[u], []⟩ [("script", u)]) ∧ ∀ base : Heap, FnOk P w K mg base (L2.CX P w) 45 (He.fAd K ("law", none)) fd ["script"] (spF K 1 F_law) := by
  have T := tx X G c
  obtain ⟨f_i_BadText, G_i_BadText⟩ := c.toD.def_ 35 (d := d_i_BadText) rfl
  have H_XI_BadText := fun base : Heap => I_BadText (P := P) (w := w) (base := base) G_i_BadText T
  obtain ⟨f_i_NoPlace, G_i_NoPlace⟩ := c.toD.def_ 36 (d := d_i_NoPlace) rfl
  have H_XI_NoPlace := fun base : Heap => I_NoPlace (P := P) (w := w) (base := base) G_i_NoPlace T
  obtain ⟨f_i_TooDeep, G_i_TooDeep⟩ := c.toD.def_ 37 (d := d_i_TooDeep) rfl
  have H_XI_TooDeep := fun base : Heap => I_TooDeep (P := P) (w := w) (base := base) G_i_TooDeep T
  obtain ⟨f_is_name, G_is_name⟩ := c.toD.def_ 0 (d := d_is_name) rfl
  have H_is_name := fun base : Heap => D_is_name (P := P) (w := w) (base := base) G_is_name (He.glo_ok X G (c.toD.fact 0 (f := .glo "is_name") rfl)) T
  obtain ⟨f_digits_value, G_digits_value⟩ := c.toD.def_ 1 (d := d_digits_value) rfl
  have H_digits_value := fun base : Heap => D_digits_value (P := P) (w := w) (base := base) G_digits_value (He.glo_ok X G (c.toD.fact 1 (f := .glo "digits_value") rfl)) T
  obtain ⟨f_token_number, G_token_number⟩ := c.toD.def_ 2 (d := d_token_number) rfl
  have H_token_number := fun base : Heap => D_token_number (P := P) (w := w) (base := base) G_token_number (He.glo_ok X G (c.toD.fact 2 (f := .glo "token_number") rfl)) T (H_digits_value base)
  obtain ⟨f_token_kind, G_token_kind⟩ := c.toD.def_ 3 (d := d_token_kind) rfl
  have H_token_kind := fun base : Heap => D_token_kind (P := P) (w := w) (base := base) G_token_kind (He.glo_ok X G (c.toD.fact 3 (f := .glo "token_kind") rfl)) T (H_is_name base) (H_token_number base)
  obtain ⟨f_tokens, G_tokens⟩ := c.toD.def_ 4 (d := d_tokens) rfl
  have H_tokens := fun base : Heap => D_tokens (P := P) (w := w) (base := base) G_tokens (He.glo_ok X G (c.toD.fact 4 (f := .glo "tokens") rfl)) T (H_token_kind base)
  obtain ⟨f_single_item, G_single_item⟩ := c.toD.def_ 5 (d := d_single_item) rfl
  have H_single_item := fun base : Heap => D_single_item (P := P) (w := w) (base := base) G_single_item (He.glo_ok X G (c.toD.fact 5 (f := .glo "single_item") rfl)) T (H_token_number base)
  obtain ⟨f_read_items, G_read_items⟩ := c.toD.def_ 6 (d := d_read_items) rfl
  have H_read_items := fun base : Heap => D_read_items (P := P) (w := w) (base := base) G_read_items (He.glo_ok X G (c.toD.fact 6 (f := .glo "read_items") rfl)) T (H_tokens base) (H_single_item base) (H_XI_BadText base)
  obtain ⟨f_proc_depth, G_proc_depth⟩ := c.toD.def_ 7 (d := d_proc_depth) rfl
  have H_proc_depth := fun base : Heap => D_proc_depth (P := P) (w := w) (base := base) G_proc_depth (He.glo_ok X G (c.toD.fact 7 (f := .glo "proc_depth") rfl)) T
  obtain ⟨f_places_behind, G_places_behind⟩ := c.toD.def_ 8 (d := d_places_behind) rfl
  have H_places_behind := fun base : Heap => D_places_behind (P := P) (w := w) (base := base) G_places_behind (He.glo_ok X G (c.toD.fact 8 (f := .glo "places_behind") rfl)) T
  obtain ⟨f_places, G_places⟩ := c.toD.def_ 9 (d := d_places) rfl
  have H_places := fun base : Heap => D_places (P := P) (w := w) (base := base) G_places (He.glo_ok X G (c.toD.fact 9 (f := .glo "places") rfl)) T (H_places_behind base)
  obtain ⟨f_rows_around, G_rows_around⟩ := c.toD.def_ 10 (d := d_rows_around) rfl
  have H_rows_around := fun base : Heap => D_rows_around (P := P) (w := w) (base := base) G_rows_around (He.glo_ok X G (c.toD.fact 10 (f := .glo "rows_around") rfl)) T (H_XI_NoPlace base)
  obtain ⟨f_item_at, G_item_at⟩ := c.toD.def_ 11 (d := d_item_at) rfl
  have H_item_at := fun base : Heap => D_item_at (P := P) (w := w) (base := base) G_item_at (He.glo_ok X G (c.toD.fact 11 (f := .glo "item_at") rfl)) T (H_rows_around base)
  obtain ⟨f_spliced, G_spliced⟩ := c.toD.def_ 12 (d := d_spliced) rfl
  have H_spliced := fun base : Heap => D_spliced (P := P) (w := w) (base := base) G_spliced (He.glo_ok X G (c.toD.fact 12 (f := .glo "spliced") rfl)) T
  obtain ⟨f_exchanged, G_exchanged⟩ := c.toD.def_ 13 (d := d_exchanged) rfl
  have H_exchanged := fun base : Heap => D_exchanged (P := P) (w := w) (base := base) G_exchanged (He.glo_ok X G (c.toD.fact 13 (f := .glo "exchanged") rfl)) T (H_rows_around base) (H_spliced base) (H_proc_depth base) (H_XI_TooDeep base)
  obtain ⟨f__law_gcd, G__law_gcd⟩ := c.toD.def_ 14 (d := d__law_gcd) rfl
  have H__law_gcd := fun base : Heap => D__law_gcd (P := P) (w := w) (base := base) G__law_gcd (He.glo_ok X G (c.toD.fact 14 (f := .glo "_law_gcd") rfl)) T
  obtain ⟨f__law_row, G__law_row⟩ := c.toD.def_ 15 (d := d__law_row) rfl
  have H__law_row := fun base : Heap => D__law_row (P := P) (w := w) (base := base) G__law_row (He.glo_ok X G (c.toD.fact 15 (f := .glo "_law_row") rfl)) T
  obtain ⟨f__law_next, G__law_next⟩ := c.toD.def_ 16 (d := d__law_next) rfl
  have H__law_next := fun base : Heap => D__law_next (P := P) (w := w) (base := base) G__law_next (He.glo_ok X G (c.toD.fact 16 (f := .glo "_law_next") rfl)) T
  obtain ⟨f__law_words, G__law_words⟩ := c.toD.def_ 17 (d := d__law_words) rfl
  have H__law_words := fun base : Heap => D__law_words (P := P) (w := w) (base := base) G__law_words (He.glo_ok X G (c.toD.fact 17 (f := .glo "_law_words") rfl)) T
  obtain ⟨f__law_name, G__law_name⟩ := c.toD.def_ 18 (d := d__law_name) rfl
  have H__law_name := fun base : Heap => D__law_name (P := P) (w := w) (base := base) G__law_name (He.glo_ok X G (c.toD.fact 18 (f := .glo "_law_name") rfl)) T (H__law_next base)
  obtain ⟨f__law_still, G__law_still⟩ := c.toD.def_ 19 (d := d__law_still) rfl
  have H__law_still := fun base : Heap => D__law_still (P := P) (w := w) (base := base) G__law_still (He.glo_ok X G (c.toD.fact 19 (f := .glo "_law_still") rfl)) T (H__law_gcd base) (H__law_next base)
  obtain ⟨f__law_still_text, G__law_still_text⟩ := c.toD.def_ 20 (d := d__law_still_text) rfl
  have H__law_still_text := fun base : Heap => D__law_still_text (P := P) (w := w) (base := base) G__law_still_text (He.glo_ok X G (c.toD.fact 20 (f := .glo "_law_still_text") rfl)) T
  obtain ⟨f__law_leaf, G__law_leaf⟩ := c.toD.def_ 21 (d := d__law_leaf) rfl
  have H__law_leaf := fun base : Heap => D__law_leaf (P := P) (w := w) (base := base) G__law_leaf (He.glo_ok X G (c.toD.fact 21 (f := .glo "_law_leaf") rfl)) T (H__law_next base) (H__law_name base) (H__law_still base) (H__law_still_text base) (H__law_words base)
  obtain ⟨f__law_tree, G__law_tree⟩ := c.toD.def_ 22 (d := d__law_tree) rfl
  have H__law_tree := fun base : Heap => D__law_tree (P := P) (w := w) (base := base) G__law_tree (He.glo_ok X G (c.toD.fact 22 (f := .glo "_law_tree") rfl)) T (H__law_next base) (H__law_leaf base)
  obtain ⟨f__law_chain, G__law_chain⟩ := c.toD.def_ 23 (d := d__law_chain) rfl
  have H__law_chain := fun base : Heap => D__law_chain (P := P) (w := w) (base := base) G__law_chain (He.glo_ok X G (c.toD.fact 23 (f := .glo "_law_chain") rfl)) T
  obtain ⟨f__law_read, G__law_read⟩ := c.toD.def_ 24 (d := d__law_read) rfl
  have H__law_read := fun base : Heap => D__law_read (P := P) (w := w) (base := base) G__law_read (He.glo_ok X G (c.toD.fact 24 (f := .glo "_law_read") rfl)) T
  obtain ⟨f__law_text, G__law_text⟩ := c.toD.def_ 25 (d := d__law_text) rfl
  have H__law_text := fun base : Heap => D__law_text (P := P) (w := w) (base := base) G__law_text (He.glo_ok X G (c.toD.fact 25 (f := .glo "_law_text") rfl)) T (H__law_next base)
  obtain ⟨f__law_int, G__law_int⟩ := c.toD.def_ 26 (d := d__law_int) rfl
  have H__law_int := fun base : Heap => D__law_int (P := P) (w := w) (base := base) G__law_int (He.glo_ok X G (c.toD.fact 26 (f := .glo "_law_int") rfl)) T
  have HP__law_int := fun base : Heap => P__law_int (P := P) (w := w) (base := base) G__law_int (He.glo_ok X G (c.toD.fact 26 (f := .glo "_law_int") rfl)) T
  obtain ⟨f__law_stray, G__law_stray⟩ := c.toD.def_ 27 (d := d__law_stray) rfl
  have H__law_stray := fun base : Heap => D__law_stray (P := P) (w := w) (base := base) G__law_stray (He.glo_ok X G (c.toD.fact 27 (f := .glo "_law_stray") rfl)) T
  obtain ⟨f__law_depth, G__law_depth⟩ := c.toD.def_ 28 (d := d__law_depth) rfl
  have H__law_depth := fun base : Heap => D__law_depth (P := P) (w := w) (base := base) G__law_depth (He.glo_ok X G (c.toD.fact 28 (f := .glo "_law_depth") rfl)) T
  obtain ⟨f__law_exchange, G__law_exchange⟩ := c.toD.def_ 29 (d := d__law_exchange) rfl
  have H__law_exchange := fun base : Heap => D__law_exchange (P := P) (w := w) (base := base) G__law_exchange (He.glo_ok X G (c.toD.fact 29 (f := .glo "_law_exchange") rfl)) T (H__law_depth base) (H__law_read base) (H_exchanged base) (H__law_stray base) (H__law_int base) (HP__law_int base)
  obtain ⟨f__law_nowhere, G__law_nowhere⟩ := c.toD.def_ 30 (d := d__law_nowhere) rfl
  have H__law_nowhere := fun base : Heap => D__law_nowhere (P := P) (w := w) (base := base) G__law_nowhere (He.glo_ok X G (c.toD.fact 30 (f := .glo "_law_nowhere") rfl)) T (H_item_at base) (H_exchanged base) (H__law_stray base)
  obtain ⟨f__law_no_spots, G__law_no_spots⟩ := c.toD.def_ 31 (d := d__law_no_spots) rfl
  have H__law_no_spots := fun base : Heap => D__law_no_spots (P := P) (w := w) (base := base) G__law_no_spots (He.glo_ok X G (c.toD.fact 31 (f := .glo "_law_no_spots") rfl)) T (H__law_next base)
  obtain ⟨f__law_lists, G__law_lists⟩ := c.toD.def_ 32 (d := d__law_lists) rfl
  have H__law_lists := fun base : Heap => D__law_lists (P := P) (w := w) (base := base) G__law_lists (He.glo_ok X G (c.toD.fact 32 (f := .glo "_law_lists") rfl)) T (H_tokens base) (H_places base) (H__law_int base) (H_read_items base) (H_item_at base)
  obtain ⟨f__law_deep, G__law_deep⟩ := c.toD.def_ 33 (d := d__law_deep) rfl
  have H__law_deep := fun base : Heap => D__law_deep (P := P) (w := w) (base := base) G__law_deep (He.glo_ok X G (c.toD.fact 33 (f := .glo "_law_deep") rfl)) T (H__law_chain base) (H__law_nowhere base) (H__law_next base) (H__law_read base) (H__law_exchange base) (H__law_leaf base)
  obtain ⟨fd, F⟩ := c.toD.def_ 34 (d := d_law) rfl
  have b := FunD.bindsA (ps := ["script"]) F fun _ _ _ _ _ _ us hl => match us, hl with | [_], _ => rfl
  exact ⟨fd, fun s v => b s [v] rfl, fun base => D_law F T (H__law_tree base) (H__law_read base) (H__law_text base) (H__law_no_spots base) (H__law_row base) (H__law_next base) (H__law_lists base) (H__law_deep base) (H__law_chain base) (H__law_words base) (H__law_nowhere base) (H__law_leaf base) (H__law_exchange base)⟩
end
end K03
open PySem PySem.W PySem.Calls PyProof.Rows DL
theorem K03.hold (plain : ∀ ns : List Int, ns.length ≤ 63 → ∃ outs, K03.F_law [.klst (ns.map D.int)] = .ok (.bl true) outs) : PySem.Challenge.rw_printstacks_k03_texts_read_to_items_with.Holds := by
  w_on; o_law
  refine HandSHeadRun.head_imp (r := OpenLaw.row PySem.Challenge.rw_printstacks_k03_texts_read_to_items_with) (q := view (OpenLaw.row PySem.Challenge.rw_printstacks_k03_texts_read_to_items_with).prog [0, 73]) (H := K03.hk) (ob := K03.ob) (M := 20000) (loose := K03.loose) (d := HandSHeadRun.topDef (OpenLaw.row PySem.Challenge.rw_printstacks_k03_texts_read_to_items_with).prog 73) (kwd := []) K03.ob_eq
    K03.run (by kernel_rfl) (by kernel_rfl) (by kernel_rfl) (by rfl) (by first | assumption | decide +kernel) (by decide +kernel) ⟨rfl, rfl, rfl, rfl, rfl, by decide +kernel⟩ ?hw ?hc
  case hw => w_witness2
  case hc =>
    refine walk_ofW (l := PySem.Challenge.rw_printstacks_k03_texts_read_to_items_with) (n := 63) (k := 45) (x := "script") (F := K03.F_law) rfl (by decide) (by kernel_rfl) ⟨rfl, by decide, by decide⟩ plain fun w mg fa h Y G hmg0 => ?_
    obtain ⟨K, KX, c⟩ := Y
    have hmg : mg ("law" : PySem.Str) = some (.ref fa) := by
      have e : (HandSHeadRun.topDef (OpenLaw.row PySem.Challenge.rw_printstacks_k03_texts_read_to_items_with).prog 73).name = ("law" : PySem.Str) := by kernel_rfl
      rw [← e]
      exact hmg0
    have e := hmg.symm.trans (He.glo_ok KX G (c.toD.fact 34 (f := .glo "law") rfl))
    cases e
    obtain ⟨fd, b, F⟩ := K03.law_fn (P := (PySem.Challenge.rw_printstacks_k03_texts_read_to_items_with).prog) (w := w) KX G c
    exact ⟨K, fd, KX, b, F⟩
end

section
set_option maxRecDepth 100000
set_option maxHeartbeats 2000000
namespace DL
open PySem

/-! ### what a run gives, told from behind -/
structure Hd {γ : Type} (Q : γ) : Type where
/-- E: what is asked where an exception x leaves -/
def Wq {α : Type} (E : Exn → Env → Prop) (r : Rs α) (Q : α → Env → Prop) (_ : Hd (E, Q) := ⟨⟩) : Prop := match r with
  | .ok a e => Q a e
  | .ex x e => E x e
  | .no => False
abbrev noE : Exn → Env → Prop := fun _ _ => False
abbrev Wp {α : Type} (r : Rs α) (Q : α → Env → Prop) : Prop := Wq noE r Q
theorem Wq.ext {α : Type} {E : Exn → Env → Prop} {r : Rs α} {P Q : α → Env → Prop} (h : ∀ a e, P a e = Q a e) : Wq E r P = Wq E r Q := by
  have : P = Q := funext fun a => funext fun e => h a e
  subst this
  rfl
theorem Wq.imp {α : Type} {E E' : Exn → Env → Prop} {r : Rs α} {P Q : α → Env → Prop} (h : Wq E r P) (k : ∀ a e, P a e → Q a e) (l : ∀ x e, E x e → E' x e) : Wq E' r Q := by
  cases r with
  | ok a e => exact k a e h
  | ex x e => exact l x e h
  | no => exact h
theorem Wp.imp {α : Type} {E : Exn → Env → Prop} {r : Rs α} {P Q : α → Env → Prop} (h : Wp r P) (k : ∀ a e, P a e → Q a e) : Wq E r Q := Wq.imp h k fun _ _ z => z.elim
theorem Wp.get {α : Type} {r : Rs α} {P : α → Env → Prop} (h : Wp r P) : ∃ a e, r = .ok a e ∧ P a e := by
  cases r with
  | ok a e => exact ⟨a, e, rfl, h⟩
  | ex x e => exact (show False from h).elim
  | no => exact (show False from h).elim
theorem Wp.and {α : Type} {r : Rs α} {P Q : α → Env → Prop} (h : Wp r P) (k : Wp r Q) : Wp r fun a e => P a e ∧ Q a e := by
  cases r with
  | ok a e => exact ⟨h, k⟩
  | ex x e => exact h
  | no => exact h
/-- an option that is there -/
def Op {α : Type} (o : Option α) (P : α → Prop) (_ : Hd P := ⟨⟩) : Prop := match o with
  | some a => P a
  | none => False
@[simp] theorem op_some {α : Type} {a : α} {P : α → Prop} : Op (some a) P = P a := rfl
@[simp] theorem op_none {α : Type} {P : α → Prop} : Op none P = False := rfl
@[simp] theorem op_bind {α β : Type} {o : Option α} {f : α → Option β} {P : β → Prop} : Op (o.bind f) P = Op o fun a => Op (f a) P := by cases o <;> rfl
@[simp] theorem op_ifn {α : Type} {c : Prop} [Decidable c] {a : Option α} {P : α → Prop} : Op (if c then a else none) P = (c ∧ Op a P) := by
  by_cases h : c <;> simp [h]
theorem op_if {α : Type} {c : Prop} [Decidable c] {a b : Option α} {P : α → Prop} : Op (if c then a else b) P = ((c → Op a P) ∧ (¬c → Op b P)) := by
  by_cases h : c <;> simp [h]

section
variable {E : Exn → Env → Prop} {α β : Type} {Q : α → Env → Prop} {e : Env}
@[simp] theorem wp_ok {a : α} : Wq E (.ok a e) Q = Q a e := rfl
@[simp] theorem wp_mret {a : α} : Wq E (mret a e) Q = Q a e := rfl
@[simp] theorem wp_bind {r : Rs β} {g : β → M α} : Wq E (r.bind g) Q = Wq E r fun b e' => Wq E (g b e') Q := by cases r <;> rfl
@[simp] theorem wp_mbind {f : M β} {g : β → M α} : Wq E (mbind f g e) Q = Wq E (f e) fun b e' => Wq E (g b e') Q := by
  unfold mbind
  cases f e <;> rfl
@[simp] theorem wp_some {a : α} : Wq E (mopt (some a) e) Q = Q a e := rfl
@[simp] theorem wp_iteM {c : Prop} [Decidable c] {a b : M α} : Wq E ((if c then a else b) e) Q = ((c → Wq E (a e) Q) ∧ (¬c → Wq E (b e) Q)) := by
  by_cases h : c <;> simp [h]
@[simp] theorem wp_ite {c : Prop} [Decidable c] {a b : Rs α} : Wq E (if c then a else b) Q = ((c → Wq E a Q) ∧ (¬c → Wq E b Q)) := by
  by_cases h : c <;> simp [h]
@[simp] theorem wp_no : Wq E (.no : Rs α) Q = False := rfl
end
section
variable {E : Exn → Env → Prop} {Q : D → Env → Prop} {QF : Fl → Env → Prop} {QL : List D → Env → Prop} {QB : Bool → Env → Prop} {e : Env}
/-- a slot's value as a name gives it -/
def seeD (i : Nat) : D → D
  | .own _ => .al i
  | .bor _ => .al i
  | d => d
@[simp] theorem see_own {i xs} : seeD i (.own xs) = .al i := rfl
@[simp] theorem see_bor {i xs} : seeD i (.bor xs) = .al i := rfl
@[simp] theorem see_int {i n} : seeD i (.int n) = .int n := rfl
@[simp] theorem see_bl {i n} : seeD i (.bl n) = .bl n := rfl
@[simp] theorem see_str {i n} : seeD i (.str n) = .str n := rfl
@[simp] theorem see_tup {i n} : seeD i (.tup n) = .tup n := rfl
@[simp] theorem see_lst {i n} : seeD i (.lst n) = .lst n := rfl
@[simp] theorem see_klst {i n} : seeD i (.klst n) = .klst n := rfl
@[simp] theorem see_non {i} : seeD i .non = .non := rfl
theorem see_al {i j} : seeD i (.al j) = .al j := rfl
@[simp] theorem wp_var {i : Nat} : Wq E (eVar i e) Q = (match e[i]? with | some (some d) => Q (seeD i d) e | _ => False) := by
  unfold eVar
  cases h : e[i]? with
  | none => rfl
  | some o => cases o with
    | none => rfl
    | some d => cases d <;> rfl
/-- of a slot that is no list of one's own -/
@[simp] theorem wp_val_at {i : Nat} : Wq E (eVal i e) Q = (match e[i]? with
    | some (some (.own xs)) => (xs.all isSh) = true ∧ Q (.lst xs) (e.set i (some (.lst xs)))
    | some (some (.bor _)) => False
    | some (some (.al _)) => False
    | some (some d) => Q d e
    | _ => False) := by
  unfold eVal
  cases h : e[i]? with
  | none => rfl
  | some o => cases o with
    | none => rfl
    | some d => cases d with
      | own xs =>
        by_cases q : (xs.all isSh) = true
        · simp only [q, if_true]; simp
        · simp only [q]; simp
      | _ => rfl
@[simp] theorem wp_C {d : D} : Wq E (eC d e) Q = Q d e := rfl
@[simp] theorem wp_bin {op : D → D → Option D} {fa fb : M D} : Wq E (eBin op fa fb e) Q = Wq E (fa e) fun x e1 => Wq E (fb e1) fun y e2 => Wq E (mopt (op (rs e2 x) (rs e2 y)) e2) Q := by
  unfold eBin
  rw [wp_mbind]
  refine Wq.ext fun x e1 => ?_
  rw [wp_mbind]
@[simp] theorem wp_blt {op : List D → Option D} {fs : M (List D)} : Wq E (eBlt op fs e) Q = Wq E (fs e) fun ds e1 => Wq E (mopt (op (ds.map (rs e1))) e1) Q := by
  unfold eBlt
  rw [wp_mbind]
@[simp] theorem wp_nil : Wq E (aNil e) QL = QL [] e := rfl
@[simp] theorem wp_cons {f : M D} {g : M (List D)} : Wq E (aCons f g e) QL = Wq E (f e) fun d e1 => Wq E (g e1) fun ds e2 => QL (d :: ds) e2 := by
  unfold aCons
  rw [wp_mbind]
  refine Wq.ext fun x e1 => ?_
  rw [wp_mbind]
  rfl
@[simp] theorem wp_tOf {f : M D} : Wq E (tOf f e) QB = Wq E (f e) fun d e1 => Wq E (mopt (bOf d) e1) QB := by
  unfold tOf
  rw [wp_mbind]
@[simp] theorem wp_tTru {f : M D} : Wq E (tTruD f e) QB = Wq E (f e) fun d e1 => Wq E (mopt (dTru (rs e1 d)) e1) QB := by
  unfold tTruD
  rw [wp_mbind]
@[simp] theorem wp_tNot {f : M Bool} : Wq E (tNotD f e) QB = Wq E (f e) fun k e1 => QB (!k) e1 := by
  unfold tNotD
  rw [wp_mbind]
  rfl
@[simp] theorem wp_tAnd {f g : M Bool} : Wq E (tAndD f g e) QB = Wq E (f e) fun k e1 => (k = true → Wq E (g e1) QB) ∧ (¬k = true → QB false e1) := by
  unfold tAndD
  rw [wp_mbind]
  refine Wq.ext fun k e1 => ?_
  rw [wp_iteM]
  rfl
@[simp] theorem wp_tOr {f g : M Bool} : Wq E (tOrD f g e) QB = Wq E (f e) fun k e1 => (k = true → QB true e1) ∧ (¬k = true → Wq E (g e1) QB) := by
  unfold tOrD
  rw [wp_mbind]
  refine Wq.ext fun k e1 => ?_
  rw [wp_iteM]
  rfl
@[simp] theorem wp_eIf {t : M Bool} {a b : M D} : Wq E (eIf t a b e) Q = Wq E (t e) fun k e1 => (k = true → Wq E (a e1) Q) ∧ (¬k = true → Wq E (b e1) Q) := by
  unfold eIf
  rw [wp_mbind]
  refine Wq.ext fun k e1 => ?_
  rw [wp_iteM]
@[simp] theorem wp_tYes : Wq E (tYesD e) QB = QB true e := rfl
/-! statements -/
@[simp] theorem wp_next : Wq E (sNext e) QF = QF .nx e := rfl
@[simp] theorem wp_pass : Wq E (sPass e) QF = QF .nx e := rfl
@[simp] theorem wp_break : Wq E (sBreak e) QF = QF .bk e := rfl
@[simp] theorem wp_cont : Wq E (sCont e) QF = QF .ct e := rfl
@[simp] theorem wp_retN : Wq E (sRetN e) QF = QF (.rt .non) e := rfl
/-- what follows a statement -/
def thn (E : Exn → Env → Prop) (b : M Fl) (Q : Fl → Env → Prop) : Fl → Env → Prop
  | .nx, e => Wq E (b e) Q
  | f, e => Q f e
@[simp] theorem thn_nx {b : M Fl} : thn E b QF .nx e = Wq E (b e) QF := rfl
@[simp] theorem thn_bk {b : M Fl} : thn E b QF .bk e = QF .bk e := rfl
@[simp] theorem thn_ct {b : M Fl} : thn E b QF .ct e = QF .ct e := rfl
@[simp] theorem thn_rt {b : M Fl} {d : D} : thn E b QF (.rt d) e = QF (.rt d) e := rfl
@[simp] theorem wp_seq {a b : M Fl} : Wq E (sSeq a b e) QF = Wq E (a e) (thn E b QF) := by
  unfold sSeq
  cases a e with
  | ok f e1 => cases f <;> rfl
  | _ => rfl
@[simp] theorem wp_ret {f : M D} : Wq E (sRet f e) QF = Wq E (f e) fun d e1 => isSh d = true ∧ QF (.rt d) e1 := by
  unfold sRet
  rw [wp_mbind]
  refine Wq.ext fun d e1 => ?_
  rw [wp_iteM]
  by_cases h : isSh d = true <;> simp [h]
@[simp] theorem wp_if {t : M Bool} {a b : M Fl} : Wq E (sIf t a b e) QF = Wq E (t e) fun k e1 => (k = true → Wq E (a e1) QF) ∧ (¬k = true → Wq E (b e1) QF) := by
  unfold sIf
  rw [wp_mbind]
  refine Wq.ext fun k e1 => ?_
  rw [wp_iteM]
@[simp] theorem wp_asg {i : Nat} {f : M D} : Wq E (sAsg i f e) QF = Wq E (f e) fun d e1 => isSh d = true ∧ QF .nx (e1.set i (some d)) := by
  unfold sAsg
  rw [wp_mbind]
  refine Wq.ext fun d e1 => ?_
  rw [wp_iteM]
  by_cases h : isSh d = true <;> simp [h]
@[simp] theorem wp_asgF {i : Nat} {f : M (List D)} : Wq E (sAsgF i f e) QF = Wq E (f e) fun ds e1 => QF .nx (e1.set i (some (.own ds))) := by
  unfold sAsgF
  rw [wp_mbind]
  rfl
@[simp] theorem wp_drop {f : M D} : Wq E (sDrop f e) QF = Wq E (f e) fun _ e1 => QF .nx e1 := by
  unfold sDrop
  rw [wp_mbind]
  rfl
@[simp] theorem wp_eTup {fs : M (List D)} : Wq E (eTup fs e) Q = Wq E (fs e) fun ds e1 => ((ds.all isSh) = true ∧ ds.length ≤ 1000000) ∧ Q (.tup ds) e1 := by
  unfold eTup
  rw [wp_mbind]
  refine Wq.ext fun ds e1 => ?_
  rw [wp_iteM]
  by_cases h : (ds.all isSh) = true ∧ ds.length ≤ 1000000
  · simp only [h]; simp
  · simp only [h]; simp
@[simp] theorem wp_lstF {fs : M (List D)} : Wq E (eLstF fs e) QL = Wq E (fs e) fun ds e1 => ((ds.all isSh) = true ∧ ds.length ≤ 1000000) ∧ QL ds e1 := by
  unfold eLstF
  rw [wp_mbind]
  refine Wq.ext fun ds e1 => ?_
  rw [wp_iteM]
  by_cases h : (ds.all isSh) = true ∧ ds.length ≤ 1000000
  · simp only [h]; simp
  · simp only [h]; simp
@[simp] theorem wp_frz {f : M (List D)} : Wq E (eFrz f e) Q = Wq E (f e) fun ds e1 => Q (.lst ds) e1 := by
  unfold eFrz
  rw [wp_mbind]
  rfl
@[simp] theorem wp_iter {f : M D} : Wq E (eIter f e) QL = Wq E (f e) fun d e1 => Wq E (mopt (seqSh d) e1) QL := by
  unfold eIter
  rw [wp_mbind]
@[simp] theorem wp_range {fs : M (List D)} : Wq E (eRange fs e) QL = Wq E (fs e) fun ds e1 => Wq E (mopt (rgOf ds) e1) QL := by
  unfold eRange
  rw [wp_mbind]
@[simp] theorem wp_range2 {fs : M (List D)} : Wq E (eRange2 fs e) QL = Wq E (fs e) fun ds e1 => Wq E (mopt (rgOf2 ds) e1) QL := by
  unfold eRange2
  rw [wp_mbind]
@[simp] theorem wp_slice {f : M D} {lo hi : M (Option Int)} : Wq E (eSlice f lo hi e) Q = Wq E (f e) fun x e1 => Wq E (lo e1) fun l e2 => Wq E (hi e2) fun h e3 => Wq E (mopt (dSlice (rs e3 x) l h) e3) Q := by
  unfold eSlice
  rw [wp_mbind]
  refine Wq.ext fun x e1 => ?_
  rw [wp_mbind]
  refine Wq.ext fun l e2 => ?_
  rw [wp_mbind]
@[simp] theorem wp_noPart {QO : Option Int → Env → Prop} : Wq E (eNoPart e) QO = QO none e := rfl
@[simp] theorem wp_part {QO : Option Int → Env → Prop} {f : M D} : Wq E (ePart f e) QO = Wq E (f e) fun d e1 => Wq E (mopt (iOf d) e1) QO := by
  unfold ePart
  rw [wp_mbind]
@[simp] theorem wp_sFor {it : M (List D)} {t : TgF} {b : M Fl} : Wq E (sFor it t b e) QF = Wq E (it e) fun ds e1 => Wq E (forL t b ds e1) QF := by
  unfold sFor
  rw [wp_mbind]
@[simp] theorem wp_comp {it : M (List D)} {vs : List Nat} {t : TgF} {ft : M Bool} {fe : M D} : Wq E (eComp it vs t ft fe e) QL = Wq E (it e) fun ds e1 => Wq E (compL vs t ft fe ds [] (eWipe e1 vs)) QL := by
  unfold eComp
  rw [wp_mbind]
@[simp] theorem wp_unp {t : TgF} {f : M D} : Wq E (sUnp t f e) QF = Wq E (f e) fun d e1 => isSh d = true ∧ (Op (t d e1) fun e2 => QF .nx e2) := by
  unfold sUnp
  rw [wp_mbind]
  refine Wq.ext fun d e1 => ?_
  by_cases h : isSh d = true
  · simp only [h, if_true]
    cases t d e1 <;> simp
  · simp [h]
@[simp] theorem wp_par {i j : Nat} {fs : M (List D)} : Wq E (sPar i j fs e) QF = Wq E (fs e) fun ds e1 => (match ds with | [a, b] => (isSh a = true ∧ isSh b = true) ∧ QF .nx ((e1.set i (some a)).set j (some b)) | _ => False) := by
  unfold sPar
  rw [wp_mbind]
  refine Wq.ext fun ds e1 => ?_
  rcases ds with _ | ⟨a, _ | ⟨b, _ | ⟨c, r⟩⟩⟩
  · rfl
  · rfl
  · show Wq E ((if isSh a = true ∧ isSh b = true then (fun e => Rs.ok Fl.nx ((e.set i (some a)).set j (some b)) : M Fl) else fun _ => Rs.no) e1) QF = _
    rw [wp_iteM]
    by_cases h : isSh a = true ∧ isSh b = true
    · simp only [h]; simp
    · simp only [h]; simp
  · rfl
@[simp] theorem wp_app {fo fy : M D} : Wq E (sApp fo fy e) QF = Wq E (fo e) fun o e1 => (ownAt e1 o).isSome = true ∧ Wq E (fy e1) fun y e2 => Op (appE e2 o y) fun e3 => QF .nx e3 := by
  unfold sApp
  rw [wp_mbind]
  refine Wq.ext fun o e1 => ?_
  by_cases h : (ownAt e1 o).isSome = true
  · rw [if_pos h, wp_mbind]
    simp only [h, true_and]
    refine Wq.ext fun y e2 => ?_
    cases appE e2 o y <;> simp
  · rw [if_neg h]
    simp [h]
@[simp] theorem wp_sub {fo fi fy : M D} : Wq E (sSub fo fi fy e) QF = Wq E (fy e) fun y e1 => isSh y = true ∧ Wq E (fo e1) fun o e2 => Wq E (fi e2) fun i e3 => Op (subE e3 o i y) fun e4 => QF .nx e4 := by
  unfold sSub
  rw [wp_mbind]
  refine Wq.ext fun y e1 => ?_
  by_cases h : isSh y = true
  · rw [if_pos h, wp_mbind]
    simp only [h, true_and]
    refine Wq.ext fun o e2 => ?_
    rw [wp_mbind]
    refine Wq.ext fun i e3 => ?_
    cases subE e3 o i y <;> simp
  · rw [if_neg h]
    simp [h]
@[simp] theorem wp_call {n : Nat} {F : List D → Rs D} {fs : M (List D)} : Wq E (eCall n F fs e) Q = Wq E (fs e) fun ds e1 => (ds.length = n ∧ alN ds = true ∧ (ds.map (rsB e1)).all noOwn = true) ∧ Wq (fun x outs => E x (putO e1 ds outs)) (F (ds.map (rsB e1))) fun r outs => Q r (putO e1 ds outs) := by
  unfold eCall
  rw [wp_mbind]
  refine Wq.ext fun ds e1 => ?_
  by_cases h : ds.length = n ∧ alN ds = true ∧ (ds.map (rsB e1)).all noOwn = true
  · simp only [h]
    cases F (ds.map (rsB e1)) <;> simp <;> rfl
  · simp only [h]
    simp
end
/-- a body, run -/
theorem wp_runF {E : Exn → Env → Prop} {N : Nat} {g : M Fl} {ds : List D} {Q : D → Env → Prop} : Wq E (runF N g ds) Q = Wq (fun x e => borOk ds e = true ∧ E x e) (g (ds.map some ++ List.replicate (N - ds.length) none)) fun f e => borOk ds e = true ∧ (match f with | .rt d => Q d e | .nx => Q .non e | _ => False) := by
  unfold runF endF
  cases g (ds.map some ++ List.replicate (N - ds.length) none) with
  | ok f e => cases f with
    | nx =>
      by_cases h : borOk ds e = true
      · simp [h]
      · simp [h]
    | rt d =>
      by_cases h : borOk ds e = true
      · simp [h]
      · simp [h]
    | _ => simp
  | ex x e =>
    show Wq E (if borOk ds e = true then Rs.ex x e else Rs.no) Q = (borOk ds e = true ∧ E x e)
    by_cases h : borOk ds e = true
    · rw [if_pos h]; simp only [h, true_and]; rfl
    · rw [if_neg h]; exact propext ⟨fun z => (show False from z).elim, fun z => (h z.1).elim⟩
  | no => rfl
/-- a turn's end -/
def trn (I : Env → Prop) (Q : Fl → Env → Prop) : Fl → Env → Prop
  | .nx, e => I e
  | .ct, e => I e
  | .bk, e => Q .nx e
  | .rt v, e => Q (.rt v) e
section
variable {I : Env → Prop} {Q : Fl → Env → Prop} {e : Env}
@[simp] theorem trn_nx : trn I Q .nx e = I e := rfl
@[simp] theorem trn_ct : trn I Q .ct e = I e := rfl
@[simp] theorem trn_bk : trn I Q .bk e = Q .nx e := rfl
@[simp] theorem trn_rt {v : D} : trn I Q (.rt v) e = Q (.rt v) e := rfl
end
theorem Op.get {α : Type} {o : Option α} {P : α → Prop} (h : Op o P) : ∃ a, o = some a ∧ P a := by
  cases o with
  | none => exact h.elim
  | some a => exact ⟨a, rfl, h⟩
/-- a loop by what holds ahead of each turn -/
theorem wp_forL {E : Exn → Env → Prop} {t : TgF} {b : M Fl} {Q : Fl → Env → Prop} (I : Nat → Env → Prop) : ∀ (ds : List D) (k : Nat) (e : Env), I k e →
    (∀ i d e1, ds[i]? = some d → I (k + i) e1 → Op (t d e1) fun e2 => Wq E (b e2) (trn (I (k + i + 1)) Q)) →
    (∀ e1, I (k + ds.length) e1 → Q .nx e1) → Wq E (forL t b ds e) Q
  | [], k, e, h, _, z => z e h
  | d :: ds, k, e, h, st, z => by
    obtain ⟨e2, h1, h2⟩ := (st 0 d e rfl h).get
    unfold forL
    simp only [h1]
    have rest : ∀ e3, I (k + 1) e3 → Wq E (forL t b ds e3) Q := fun e3 h3 => wp_forL I ds (k + 1) e3 h3
      (fun i d e1 hi hI => by
        have := st (i + 1) d e1 (by simpa using hi) (by rw [show k + (i + 1) = k + 1 + i by omega]; exact hI)
        rw [show k + (i + 1) + 1 = k + 1 + i + 1 by omega] at this
        exact this)
      (fun e1 hI => z e1 (by rw [List.length_cons, show k + (ds.length + 1) = k + 1 + ds.length by omega]; exact hI))
    generalize b e2 = r at h2 ⊢
    cases r with
    | ok f e3 => cases f with
      | nx => exact rest e3 h2
      | ct => exact rest e3 h2
      | bk => exact h2
      | rt v => exact h2
    | _ => exact h2
@[simp] theorem wp_forNil {E : Exn → Env → Prop} {t : TgF} {b : M Fl} {Q : Fl → Env → Prop} {e : Env} : Wq E (forL t b [] e) Q = Q .nx e := rfl
/-- what follows a turn -/
def turn (E : Exn → Env → Prop) (t : TgF) (b : M Fl) (ds : List D) (Q : Fl → Env → Prop) : Fl → Env → Prop
  | .nx, e => Wq E (forL t b ds e) Q
  | .ct, e => Wq E (forL t b ds e) Q
  | .bk, e => Q .nx e
  | .rt v, e => Q (.rt v) e
section
variable {E : Exn → Env → Prop} {t : TgF} {b : M Fl} {ds : List D} {Q : Fl → Env → Prop} {e : Env}
@[simp] theorem turn_nx : turn E t b ds Q .nx e = Wq E (forL t b ds e) Q := rfl
@[simp] theorem turn_ct : turn E t b ds Q .ct e = Wq E (forL t b ds e) Q := rfl
@[simp] theorem turn_bk : turn E t b ds Q .bk e = Q .nx e := rfl
@[simp] theorem turn_rt {v : D} : turn E t b ds Q (.rt v) e = Q (.rt v) e := rfl
@[simp] theorem wp_forCons {d : D} : Wq E (forL t b (d :: ds) e) Q = Op (t d e) fun e1 => Wq E (b e1) (turn E t b ds Q) := by
  show Wq E (match t d e with | none => Rs.no | some e1 => _) Q = _
  cases t d e with
  | none => rfl
  | some e1 =>
    show Wq E (match b e1 with | .ok .nx e2 => forL t b ds e2 | .ok .ct e2 => forL t b ds e2 | .ok .bk e2 => .ok .nx e2 | r => r) Q = Wq E (b e1) (turn E t b ds Q)
    cases b e1 with
    | ok f e3 => cases f <;> rfl
    | _ => rfl
end
section
variable {E : Exn → Env → Prop} {vs : List Nat} {t : TgF} {ft : M Bool} {fe : M D} {Q : List D → Env → Prop}
@[simp] theorem wp_bindN {α β : Type} {r : Rs α} {f : α → M β} {Q : β → Env → Prop} : Wq E (r.bindN f) Q = Wq noE r fun a e => Wq E (f a e) Q := by cases r <;> rfl
@[simp] theorem wp_compNil {acc : List D} {e : Env} : Wq E (compL vs t ft fe [] acc e) Q = Q acc e := rfl
@[simp] theorem wp_compCons {d : D} {ds acc : List D} {e : Env} : Wq E (compL vs t ft fe (d :: ds) acc e) Q = Op (t d e) fun e1 => Wq noE (ft e1) fun k e2 => (k = true → Wq noE (fe e2) fun y e3 => (isSh y = true ∧ acc.length < 1000000) ∧ Wq E (compL vs t ft fe ds (acc ++ [y]) (eWipe e3 vs)) Q) ∧ (¬k = true → Wq E (compL vs t ft fe ds acc (eWipe e2 vs)) Q) := by
  show Wq E (match t d e with | none => Rs.no | some e1 => _) Q = _
  cases t d e with
  | none => rfl
  | some e1 =>
    show Wq E ((ft e1).bindN _) Q = _
    rw [wp_bindN]
    refine Wq.ext fun k e2 => ?_
    by_cases h : k = true
    · simp only [h, if_true, wp_bindN]
      simp only [not_true_eq_false, false_implies, and_true, forall_const]
      refine Wq.ext fun y e3 => ?_
      by_cases h : isSh y = true ∧ acc.length < 1000000
      · simp only [h]; simp
      · simp only [h]; simp
    · simp [h]
/-- a comprehension by what holds ahead of each turn -/
theorem wp_compL (I : Nat → List D → Env → Prop) : ∀ (ds : List D) (k : Nat) (acc : List D) (e : Env), I k acc e → acc.length + ds.length ≤ 1000000 →
    (∀ i d acc e1, ds[i]? = some d → I (k + i) acc e1 → Op (t d e1) fun e2 => Wq noE (ft e2) fun b e3 => (b = true → Wq noE (fe e3) fun y e4 => isSh y = true ∧ I (k + i + 1) (acc ++ [y]) (eWipe e4 vs)) ∧ (¬b = true → I (k + i + 1) acc (eWipe e3 vs))) →
    (∀ acc e1, I (k + ds.length) acc e1 → Q acc e1) → Wq E (compL vs t ft fe ds acc e) Q
  | [], k, acc, e, h, _, _, z => z acc e h
  | d :: ds, k, acc, e, h, hl, st, z => by
    rw [List.length_cons] at hl
    obtain ⟨e2, h1, h2⟩ := (st 0 d acc e rfl h).get
    have rest : ∀ acc' e3, acc'.length ≤ acc.length + 1 → I (k + 1) acc' e3 → Wq E (compL vs t ft fe ds acc' e3) Q := fun acc' e3 hl' h3 => wp_compL I ds (k + 1) acc' e3 h3 (by omega)
      (fun i d acc e1 hi hI => by
        have := st (i + 1) d acc e1 (by simpa using hi) (by rw [show k + (i + 1) = k + 1 + i by omega]; exact hI)
        rw [show k + (i + 1) + 1 = k + 1 + i + 1 by omega] at this
        exact this)
      (fun acc e1 hI => z acc e1 (by rw [List.length_cons, show k + (ds.length + 1) = k + 1 + ds.length by omega]; exact hI))
    rw [wp_compCons, h1, op_some]
    refine Wp.imp h2 fun b e3 h3 => ⟨fun hb => Wp.imp (h3.1 hb) fun y e4 h4 => ⟨⟨h4.1, by omega⟩, rest _ _ (by simp) h4.2⟩, fun hb => rest _ _ (by omega) (h3.2 hb)⟩
end
end DL
end

section
set_option maxRecDepth 100000
set_option maxHeartbeats 2000000
namespace DL
open PySem L2
variable {E : Exn → Env → Prop}

/-! ### operations told -/
def MulOk (i j : Int) : Prop := i.natAbs.log2 + j.natAbs.log2 < 1000000
def DivOk (j : Int) : Prop := j ≠ 0 ∧ j.natAbs.log2 < 9000
section
variable {Q : D → Env → Prop} {e : Env} {i j : Int} {s t : Str}
@[simp] theorem rs_al {k : Nat} : rs e (.al k) = (match e[k]? with
    | some (some (.own xs)) => .own xs
    | some (some (.bor xs)) => .bor xs
    | _ => .al k) := rfl
@[simp] theorem rs_int : rs e (.int i) = .int i := rfl
@[simp] theorem rs_bl {b} : rs e (.bl b) = .bl b := rfl
@[simp] theorem rs_str : rs e (.str s) = .str s := rfl
@[simp] theorem rs_non : rs e .non = .non := rfl
@[simp] theorem rs_ty {n} : rs e (.ty n) = .ty n := rfl
@[simp] theorem rs_ref {n} : rs e (.ref n) = .ref n := rfl
@[simp] theorem rs_tup {xs} : rs e (.tup xs) = .tup xs := rfl
@[simp] theorem rs_lst {xs} : rs e (.lst xs) = .lst xs := rfl
@[simp] theorem rs_klst {xs} : rs e (.klst xs) = .klst xs := rfl
@[simp] theorem sh_int : isSh (.int i) = true := rfl
@[simp] theorem sh_bl {b} : isSh (.bl b) = true := rfl
@[simp] theorem sh_str : isSh (.str s) = true := rfl
@[simp] theorem sh_non : isSh .non = true := rfl
@[simp] theorem sh_tup {xs} : isSh (.tup xs) = true := rfl
@[simp] theorem sh_lst {xs} : isSh (.lst xs) = true := rfl
@[simp] theorem sh_klst {xs} : isSh (.klst xs) = true := rfl
@[simp] theorem sh_ints {xs : List Int} : (xs.map D.int).all isSh = true := by
  induction xs with
  | nil => rfl
  | cons x xs ih => exact ih
theorem sh_intsA {xs : List Int} : (∀ x ∈ xs.map D.int, isSh x = true) := by
  intro x h
  obtain ⟨y, _, rfl⟩ := List.mem_map.mp h
  rfl
@[simp] theorem add_int : dAdd (.int i) (.int j) = some (.int (i + j)) := rfl
@[simp] theorem sub_int : dSub (.int i) (.int j) = some (.int (i - j)) := rfl
@[simp] theorem lt_int : dLt (.int i) (.int j) = some (.bl (decide (i < j))) := rfl
@[simp] theorem le_int : dLe (.int i) (.int j) = some (.bl (decide (i ≤ j))) := rfl
@[simp] theorem gt_int : dGt (.int i) (.int j) = some (.bl (decide (j < i))) := rfl
@[simp] theorem ge_int : dGe (.int i) (.int j) = some (.bl (decide (j ≤ i))) := rfl
@[simp] theorem eq_int : dEq (.int i) (.int j) = some (.bl (decide (i = j))) := rfl
@[simp] theorem ne_int : dNe (.int i) (.int j) = some (.bl (!decide (i = j))) := rfl
@[simp] theorem eq_bl {a b} : dEq (.bl a) (.bl b) = some (.bl (decide (a = b))) := rfl
@[simp] theorem ne_bl {a b} : dNe (.bl a) (.bl b) = some (.bl (!decide (a = b))) := rfl
@[simp] theorem eq_str : dEq (.str s) (.str t) = some (.bl (decide (s = t))) := rfl
@[simp] theorem ne_str : dNe (.str s) (.str t) = some (.bl (!decide (s = t))) := rfl
@[simp] theorem wp_mulI : Wq E (mopt (dMulI (.int i) (.int j)) e) Q = (MulOk i j ∧ Q (.int (i * j)) e) := by
  show Wq E (mopt (if i.natAbs.log2 + j.natAbs.log2 < 1000000 then some (D.int (i * j)) else none) e) Q = ((i.natAbs.log2 + j.natAbs.log2 < 1000000) ∧ _)
  by_cases h : i.natAbs.log2 + j.natAbs.log2 < 1000000
  · rw [if_pos h]
    simp [h]
  · rw [if_neg h]
    simp [h, mopt]
@[simp] theorem wp_divI : Wq E (mopt (dDiv (.int i) (.int j)) e) Q = (DivOk j ∧ Q (.int (i.fdiv j)) e) := by
  show Wq E (mopt (if j ≠ 0 ∧ j.natAbs.log2 < 9000 then some (D.int (i.fdiv j)) else none) e) Q = ((j ≠ 0 ∧ j.natAbs.log2 < 9000) ∧ _)
  by_cases h : j ≠ 0 ∧ j.natAbs.log2 < 9000
  · rw [if_pos h]
    simp [h]
  · rw [if_neg h]
    simp [h, mopt]
@[simp] theorem wp_modI : Wq E (mopt (dMod (.int i) (.int j)) e) Q = (j ≠ 0 ∧ Q (.int (i.fmod j)) e) := by
  show Wq E (mopt (if j ≠ 0 then some (D.int (i.fmod j)) else none) e) Q = _
  by_cases h : j ≠ 0
  · rw [if_pos h]
    simp [h]
  · rw [if_neg h]
    simp [h, mopt]
@[simp] theorem bOf_bl {b} : bOf (.bl b) = some b := rfl
@[simp] theorem tru_bl {b} : dTru (.bl b) = some b := rfl
@[simp] theorem tru_int : dTru (.int i) = some (i != 0) := rfl
@[simp] theorem abs_int : dAbs [.int i] = some (.int i.natAbs) := by
  show some (D.int (if i < 0 then -i else i)) = _
  congr 2
  split <;> omega
@[simp] theorem toInt_int : dToInt [.int i] = some (.int i) := rfl
@[simp] theorem toInt_bl {b} : dToInt [.bl b] = some (.int (if b then 1 else 0)) := rfl
@[simp] theorem len_tup {xs} : dLen [.tup xs] = some (.int xs.length) := rfl
@[simp] theorem len_lst {xs} : dLen [.lst xs] = some (.int xs.length) := rfl
@[simp] theorem len_klst {xs} : dLen [.klst xs] = some (.int xs.length) := rfl
@[simp] theorem len_own {xs} : dLen [.own xs] = some (.int xs.length) := rfl
@[simp] theorem len_bor {xs} : dLen [.bor xs] = some (.int xs.length) := rfl
@[simp] theorem tuple_lst {xs} : dTuple [.lst xs] = some (.tup xs) := rfl
@[simp] theorem tuple_tup {xs} : dTuple [.tup xs] = some (.tup xs) := rfl
@[simp] theorem seq_lst {xs} : seqSh (.lst xs) = some xs := rfl
@[simp] theorem seq_klst {xs} : seqSh (.klst xs) = some xs := rfl
@[simp] theorem seq_tup {xs} : seqSh (.tup xs) = some xs := rfl
@[simp] theorem iOf_int : iOf (.int i) = some (some i) := rfl
@[simp] theorem add_lst {xs ys} : dAdd (.lst xs) (.lst ys) = if xs.length + ys.length ≤ 1000000 then some (.lst (xs ++ ys)) else none := rfl
@[simp] theorem wp_mif {c : Prop} [Decidable c] {α : Type} {a : α} {QA : α → Env → Prop} : Wq E (mopt (if c then some a else none) e) QA = (c ∧ QA a e) := by
  by_cases h : c <;> simp [h, mopt]
theorem add_own {xs ys} (h : (xs.all isSh) = true) : dAdd (.own xs) (.lst ys) = if xs.length + ys.length ≤ 1000000 then some (.lst (xs ++ ys)) else none := by
  show ((if (xs.all isSh) = true then some xs else none).bind fun xs => (mls (D.lst ys)).bind fun ys => if xs.length + ys.length ≤ 1000000 then some (D.lst (xs ++ ys)) else none) = _
  rw [if_pos h]
  rfl
@[simp] theorem idx_tup {xs} : dIdx (.tup xs) (.int i) = atI xs i := rfl
@[simp] theorem idx_lst {xs} : dIdx (.lst xs) (.int i) = (atI xs i).bind shOnly := rfl
@[simp] theorem idx_klst {xs} : dIdx (.klst xs) (.int i) = (atI xs i).bind shOnly := rfl
@[simp] theorem idx_own {xs} : dIdx (.own xs) (.int i) = (atI xs i).bind shOnly := rfl
@[simp] theorem idx_bor {xs} : dIdx (.bor xs) (.int i) = (atI xs i).bind shOnly := rfl
@[simp] theorem shOnly_int : shOnly (.int i) = some (.int i) := rfl
@[simp] theorem shOnly_tup {xs} : shOnly (.tup xs) = some (.tup xs) := rfl
@[simp] theorem shOnly_lst {xs} : shOnly (.lst xs) = some (.lst xs) := rfl
@[simp] theorem shOnly_str : shOnly (.str s) = some (.str s) := rfl
@[simp] theorem wp_rgOf {j : Int} {Q : List D → Env → Prop} : Wq E (mopt (rgOf [.int j]) e) Q = ((-1000000 ≤ j ∧ j ≤ 1000000) ∧ Q (rg 0 j) e) := by
  show Wq E (mopt (if -1000000 ≤ j ∧ j ≤ 1000000 then some (rg 0 j) else none) e) Q = _
  rw [wp_mif]
@[simp] theorem wp_rgOf2 {i j : Int} {Q : List D → Env → Prop} : Wq E (mopt (rgOf2 [.int i, .int j]) e) Q = ((-1000000 ≤ i ∧ i ≤ 1000000 ∧ -1000000 ≤ j ∧ j ≤ 1000000) ∧ Q (rg i j) e) := by
  show Wq E (mopt (if -1000000 ≤ i ∧ i ≤ 1000000 ∧ -1000000 ≤ j ∧ j ≤ 1000000 then some (rg i j) else none) e) Q = _
  rw [wp_mif]
@[simp] theorem gN_eq {k : Nat} {d : D} : gN k d e = some (e.set k (some d)) := rfl
@[simp] theorem gsNil_nil : gsNil [] e = some e := rfl
@[simp] theorem gsCons_cons {t : TgF} {u : List D → Env → Option Env} {d : D} {r : List D} : gsCons t u (d :: r) e = (t d e).bind (u r) := rfl
@[simp] theorem gT_tup {n} {t} {xs : List D} : gT n t (.tup xs) e = if xs.length = n then t xs e else none := rfl
@[simp] theorem gT_lst {n} {t} {xs : List D} : gT n t (.lst xs) e = if xs.length = n then t xs e else none := rfl
@[simp] theorem wipe_nil : eWipe e [] = e := rfl
@[simp] theorem wipe_cons {v : Nat} {vs : List Nat} : eWipe e (v :: vs) = (eWipe e vs).set v none := rfl
@[simp] theorem rsB_int : rsB e (.int i) = .int i := rfl
@[simp] theorem rsB_bl {b} : rsB e (.bl b) = .bl b := rfl
@[simp] theorem rsB_str : rsB e (.str s) = .str s := rfl
@[simp] theorem rsB_non : rsB e .non = .non := rfl
@[simp] theorem rsB_tup {xs} : rsB e (.tup xs) = .tup xs := rfl
@[simp] theorem rsB_lst {xs} : rsB e (.lst xs) = .lst xs := rfl
@[simp] theorem rsB_klst {xs} : rsB e (.klst xs) = .klst xs := rfl
@[simp] theorem rsB_ale {k : Nat} : rsB e (.al k) = (match e[k]? with | some (some d) => borOf d | _ => .own []) := rfl
@[simp] theorem borOf_own {xs} : borOf (.own xs) = .bor xs := rfl
@[simp] theorem borOf_bor {xs} : borOf (.bor xs) = .bor xs := rfl
@[simp] theorem noOwn_int : noOwn (.int i) = true := rfl
@[simp] theorem noOwn_bl {b} : noOwn (.bl b) = true := rfl
@[simp] theorem noOwn_str : noOwn (.str s) = true := rfl
@[simp] theorem noOwn_non : noOwn .non = true := rfl
@[simp] theorem noOwn_tup {xs} : noOwn (.tup xs) = true := rfl
@[simp] theorem noOwn_lst {xs} : noOwn (.lst xs) = true := rfl
@[simp] theorem noOwn_klst {xs} : noOwn (.klst xs) = true := rfl
@[simp] theorem noOwn_bor {xs} : noOwn (.bor xs) = true := rfl
@[simp] theorem alN_nil : alN [] = true := rfl
@[simp] theorem alN_int {r} : alN (.int i :: r) = alN r := rfl
@[simp] theorem alN_bl {b r} : alN (.bl b :: r) = alN r := rfl
@[simp] theorem alN_str {r} : alN (.str s :: r) = alN r := rfl
@[simp] theorem alN_non {r} : alN (.non :: r) = alN r := rfl
@[simp] theorem alN_tup {xs r} : alN (.tup xs :: r) = alN r := rfl
@[simp] theorem alN_lst {xs r} : alN (.lst xs :: r) = alN r := rfl
@[simp] theorem alN_klst {xs r} : alN (.klst xs :: r) = alN r := rfl
@[simp] theorem alN_al {k : Nat} {r} : alN (.al k :: r) = (!(r.any (isAl k)) && alN r) := rfl
@[simp] theorem isAl_int {k} : isAl k (.int i) = false := rfl
@[simp] theorem isAl_bl {k b} : isAl k (.bl b) = false := rfl
@[simp] theorem isAl_str {k} : isAl k (.str s) = false := rfl
@[simp] theorem isAl_non {k} : isAl k .non = false := rfl
@[simp] theorem isAl_tup {k xs} : isAl k (.tup xs) = false := rfl
@[simp] theorem isAl_lst {k xs} : isAl k (.lst xs) = false := rfl
@[simp] theorem isAl_klst {k xs} : isAl k (.klst xs) = false := rfl
@[simp] theorem isAl_al {k m} : isAl k (.al m) = (m == k) := rfl
@[simp] theorem borOk_nil : borOk [] e = true := rfl
@[simp] theorem borOk_int {r o} : borOk (.int i :: r) (o :: e) = borOk r e := rfl
@[simp] theorem borOk_bl {b r o} : borOk (.bl b :: r) (o :: e) = borOk r e := rfl
@[simp] theorem borOk_str {r o} : borOk (.str s :: r) (o :: e) = borOk r e := rfl
@[simp] theorem borOk_non {r o} : borOk (.non :: r) (o :: e) = borOk r e := rfl
@[simp] theorem borOk_tup {xs r o} : borOk (.tup xs :: r) (o :: e) = borOk r e := rfl
@[simp] theorem borOk_lst {xs r o} : borOk (.lst xs :: r) (o :: e) = borOk r e := rfl
@[simp] theorem borOk_klst {xs r o} : borOk (.klst xs :: r) (o :: e) = borOk r e := rfl
@[simp] theorem borOk_bor {xs ys r} : borOk (.bor xs :: r) (some (.bor ys) :: e) = borOk r e := rfl
/-- what was lent, put back: nothing lent -/
theorem findIdx_none {ds : List D} {j : Nat} (h : ∀ d ∈ ds, isAl j d = false) : ds.findIdx? (isAl j) = none := by
  induction ds with
  | nil => rfl
  | cons d ds ih =>
    rw [List.findIdx?_cons, h d (List.mem_cons_self ..), ih fun d m => h d (List.mem_cons_of_mem _ m)]
    rfl
def notAl : D → Bool
  | .al _ => false
  | _ => true
theorem notAl_is {d : D} {j : Nat} (h : notAl d = true) : isAl j d = false := by cases d <;> first | rfl | exact absurd h Bool.false_ne_true
@[simp] theorem notAl_int : notAl (.int i) = true := rfl
@[simp] theorem notAl_bl {b} : notAl (.bl b) = true := rfl
@[simp] theorem notAl_str : notAl (.str s) = true := rfl
@[simp] theorem notAl_non : notAl .non = true := rfl
@[simp] theorem notAl_tup {xs} : notAl (.tup xs) = true := rfl
@[simp] theorem notAl_lst {xs} : notAl (.lst xs) = true := rfl
@[simp] theorem notAl_klst {xs} : notAl (.klst xs) = true := rfl
@[simp] theorem putO_no {ds : List D} {outs : Env} (h : ds.all notAl = true) : putO e ds outs = e := by
  unfold putO
  have h2 : ∀ j, ds.findIdx? (isAl j) = none := fun j => findIdx_none fun d m => notAl_is (List.all_eq_true.mp h d m)
  apply List.ext_getElem?
  intro j
  rw [List.getElem?_mapIdx, h2]
  cases e[j]? <;> rfl
/-- .. one, the first argument -/
theorem putO_one {ds : List D} {outs : Env} {k : Nat} {ys : List D} (ho : outs[0]? = some (some (.bor ys))) (h : ds.all notAl = true) : putO e (.al k :: ds) outs = (match e[k]? with | some d => e.set k (relab d ys) | none => e) := by
  have h2 : ∀ j, ds.findIdx? (isAl j) = none := fun j => findIdx_none fun d m => notAl_is (List.all_eq_true.mp h d m)
  cases hk : e[k]? with
  | none =>
    apply List.ext_getElem?
    intro j
    unfold putO
    rw [List.getElem?_mapIdx]
    simp only [List.findIdx?_cons, isAl_al, h2]
    by_cases hj : k = j
    · subst hj
      simp [hk]
    · have : (k == j) = false := by simp [hj]
      simp only [this]
      cases e[j]? <;> rfl
  | some d =>
    apply List.ext_getElem?
    intro j
    unfold putO
    rw [List.getElem?_mapIdx]
    simp only [List.findIdx?_cons, isAl_al, h2]
    by_cases hj : k = j
    · subst hj
      simp [hk, ho]
      rw [List.getElem?_set_self (List.getElem?_eq_some_iff.mp hk).1]
    · have : (k == j) = false := by simp [hj]
      simp only [this]
      rw [List.getElem?_set_ne hj]
      cases e[j]? <;> rfl
@[simp] theorem relab_own {xs ys} : relab (some (.own xs)) ys = some (.own ys) := rfl
@[simp] theorem relab_bor {xs ys} : relab (some (.bor xs)) ys = some (.bor ys) := rfl
end

/-! ### items told -/
theorem atI_nat {α : Type} {xs : List α} {k : Nat} : atI xs (k : Int) = xs[k]? := by
  unfold atI ixN
  rw [if_pos (by omega)]
  by_cases h : (k : Int) < xs.length
  · rw [if_pos h]
    rfl
  · rw [if_neg h]
    rw [List.getElem?_eq_none (by omega)]
    rfl
section
variable {α : Type} {xs : List α} {n : Nat}
@[simp] theorem at0 : atI xs 0 = xs[0]? := atI_nat (k := 0)
@[simp] theorem at1 : atI xs 1 = xs[1]? := atI_nat (k := 1)
@[simp] theorem at2 : atI xs 2 = xs[2]? := atI_nat (k := 2)
@[simp] theorem at3 : atI xs 3 = xs[3]? := atI_nat (k := 3)
@[simp] theorem at4 : atI xs 4 = xs[4]? := atI_nat (k := 4)
@[simp] theorem at5 : atI xs 5 = xs[5]? := atI_nat (k := 5)
@[simp] theorem at6 : atI xs 6 = xs[6]? := atI_nat (k := 6)
@[simp] theorem at7 : atI xs 7 = xs[7]? := atI_nat (k := 7)
theorem ixN_nat {k : Nat} (h : k < n) : ixN n (k : Int) = some k := by
  unfold ixN
  rw [if_pos (by omega), if_pos (by omega)]
  simp
@[simp] theorem ix0 (h : 0 < n) : ixN n 0 = some 0 := ixN_nat (k := 0) h
@[simp] theorem ix1 (h : 1 < n) : ixN n 1 = some 1 := ixN_nat (k := 1) h
@[simp] theorem ix2 (h : 2 < n) : ixN n 2 = some 2 := ixN_nat (k := 2) h
@[simp] theorem ix3 (h : 3 < n) : ixN n 3 = some 3 := ixN_nat (k := 3) h
@[simp] theorem ix4 (h : 4 < n) : ixN n 4 = some 4 := ixN_nat (k := 4) h
@[simp] theorem ix5 (h : 5 < n) : ixN n 5 = some 5 := ixN_nat (k := 5) h
end
@[simp] theorem ownAt_al1 {e : Env} {k : Nat} : ownAt e (.al k) = (match e[k]? with
    | some (some (.own xs)) => some (k, .own xs, xs)
    | some (some (.bor xs)) => some (k, .bor xs, xs)
    | _ => none) := rfl
@[simp] theorem appE_eq {e : Env} {o y : D} : appE e o y = (ownAt e o).bind fun t => if (t.2.2.all isSh) = true ∧ isSh y = true ∧ t.2.2.length < 1000000 then some (e.set t.1 (relab (some t.2.1) (t.2.2 ++ [y]))) else none := rfl
@[simp] theorem subE_int {e : Env} {o y : D} {k : Int} : subE e o (.int k) y = (ownAt e o).bind fun t => (ixN t.2.2.length k).bind fun j => if (t.2.2.all isSh) = true ∧ isSh y = true then some (e.set t.1 (relab (some t.2.1) (t.2.2.set j y))) else none := rfl
theorem op_mif {α : Type} {c : Prop} [Decidable c] {a : α} {P : α → Prop} : Op (if c then some a else none) P = (c ∧ P a) := by
  by_cases h : c <;> simp [h]
@[simp] theorem wp_mbnd {α β : Type} {o : Option α} {f : α → Option β} {Q : β → Env → Prop} {e : Env} : Wq E (mopt (o.bind f) e) Q = Op o fun a => Wq E (mopt (f a) e) Q := by
  cases o <;> rfl
@[simp] theorem wp_mmap {α β : Type} {o : Option α} {f : α → β} {Q : β → Env → Prop} {e : Env} : Wq E (mopt (o.map f) e) Q = Op o fun a => Q (f a) e := by
  cases o <;> rfl
theorem wp_mopt {α : Type} {o : Option α} {Q : α → Env → Prop} {e : Env} : Wq E (mopt o e) Q = Op o fun a => Q a e := by
  cases o <;> rfl

@[simp] theorem slice_klst {xs : List D} {lo hi : Option Int} : dSlice (.klst xs) lo hi = some (.lst (cutD xs lo hi)) := rfl
@[simp] theorem slice_lst {xs : List D} {lo hi : Option Int} : dSlice (.lst xs) lo hi = some (.lst (cutD xs lo hi)) := rfl
theorem cutD_map {α : Type} {f : α → D} {xs : List α} {lo hi : Option Int} : ∃ ys : List α, cutD (xs.map f) lo hi = ys.map f ∧ ys.length ≤ xs.length ∧ ∀ y ∈ ys, y ∈ xs := by
  refine ⟨(xs.drop (HT.sIx xs.length 0 lo)).take (HT.sIx xs.length xs.length hi - HT.sIx xs.length 0 lo), ?_, ?_, fun y m => List.mem_of_mem_drop (List.mem_of_mem_take m)⟩
  · unfold cutD
    rw [List.length_map, List.map_take, List.map_drop]
  · rw [List.length_take, List.length_drop]
    omega

/-! ### sizes -/
def Bd (n : Nat) (x : Int) : Prop := x.natAbs < 2 ^ n
instance {n : Nat} {x : Int} : Decidable (Bd n x) := inferInstanceAs (Decidable (x.natAbs < 2 ^ n))
theorem Bd.mono {m n : Nat} {x : Int} (h : Bd m x) (k : m ≤ n) : Bd n x := Nat.lt_of_lt_of_le h (Nat.pow_le_pow_right (by decide) k)
theorem Bd.mul {m n : Nat} {x y : Int} (h : Bd m x) (k : Bd n y) : Bd (m + n) (x * y) := by
  unfold Bd at *
  rw [Int.natAbs_mul, Nat.pow_add]
  exact Nat.mul_lt_mul'' h k
theorem Bd.add {m n : Nat} {x y : Int} (h : Bd m x) (k : Bd n y) : Bd (max m n + 1) (x + y) := by
  have h1 := h.mono (Nat.le_max_left m n)
  have h2 := k.mono (Nat.le_max_right m n)
  unfold Bd at *
  rw [Nat.pow_succ]
  omega
theorem Bd.sub {m n : Nat} {x y : Int} (h : Bd m x) (k : Bd n y) : Bd (max m n + 1) (x - y) := by
  have h1 := h.mono (Nat.le_max_left m n)
  have h2 := k.mono (Nat.le_max_right m n)
  unfold Bd at *
  rw [Nat.pow_succ]
  omega
theorem Bd.log {n : Nat} {x : Int} (h : Bd n x) : x.natAbs.log2 ≤ n := by
  by_cases z : x.natAbs = 0
  · rw [z]
    simp
  · exact Nat.le_of_lt ((Nat.log2_lt z).mpr h)
theorem Bd.le {n : Nat} {x y : Int} (h : Bd n y) (k : x.natAbs ≤ y.natAbs) : Bd n x := Nat.lt_of_le_of_lt k h
theorem MulOk.of {m n : Nat} {x y : Int} (h : Bd m x) (k : Bd n y) (s : m + n < 1000000) : MulOk x y := by
  have h1 := h.log
  have h2 := k.log
  unfold MulOk
  omega
theorem DivOk.of {n : Nat} {x : Int} (h : Bd n x) (z : x ≠ 0) (s : n < 9000) : DivOk x := ⟨z, Nat.lt_of_le_of_lt h.log s⟩
end DL
end

section
set_option maxRecDepth 100000
set_option maxHeartbeats 2000000
namespace DL
open PySem L2

/-! ### equality of data -/
abbrev tI (xs : List Int) : D := .tup (xs.map .int)
abbrev lI (xs : List Int) : D := .lst (xs.map .int)
abbrev pI (xs : List Int) : PyData := .tuple (xs.map .int)
theorem toPys_ints : ∀ xs : List Int, toPys (xs.map D.int) = some (xs.map PyData.int)
  | [] => by rw [List.map_nil, toPys]; rfl
  | x :: xs => by rw [List.map_cons, toPys, toPys_ints xs, toPy]; rfl
theorem lay_ints : ∀ xs : List Int, PyData.canLayAll0 (xs.map PyData.int) = true
  | [] => by simp only [List.map_nil, PyData.canLayAll0]
  | x :: xs => by simp only [List.map_cons, PyData.canLayAll0, PyData.canLay0, lay_ints xs, Bool.and_self]
theorem dep_ints : ∀ xs : List Int, PyData.depthAll (xs.map PyData.int) ≤ 5
  | [] => by simp only [List.map_nil, PyData.depthAll]; omega
  | x :: xs => by
    have := dep_ints xs
    simp only [List.map_cons, PyData.depthAll, PyData.depth]
    omega
theorem eqv_ints : ∀ xs ys : List Int, PyData.eqvAll (xs.map PyData.int) (ys.map PyData.int) = decide (xs = ys)
  | [], [] => by simp [PyData.eqvAll]
  | [], _ :: _ => by simp [PyData.eqvAll]
  | _ :: _, [] => by simp [PyData.eqvAll]
  | x :: xs, y :: ys => by
    simp only [List.map_cons, PyData.eqvAll, PyData.eqv, eqv_ints xs ys, List.cons.injEq]
    by_cases h : x = y <;> by_cases k : xs = ys <;> simp [h, k]
theorem toPy_tI (xs : List Int) : toPy (tI xs) = some (pI xs) := by
  rw [toPy, toPys_ints]
  rfl
theorem toPy_lI (xs : List Int) : toPy (lI xs) = some (.list (xs.map PyData.int)) := by
  rw [toPy, toPys_ints]
  rfl
theorem shp_tI (xs : List Int) : SeqAt.shaped (pI xs) = true := by
  have := dep_ints xs
  exact Bool.and_eq_true_iff.mpr ⟨by simp only [PyData.canLay0, lay_ints], decide_eq_true (by simp only [PyData.depth]; omega)⟩
theorem shp_lI (xs : List Int) : SeqAt.shaped (.list (xs.map PyData.int)) = true := by
  have := dep_ints xs
  exact Bool.and_eq_true_iff.mpr ⟨by simp only [PyData.canLay0, lay_ints], decide_eq_true (by simp only [PyData.depth]; omega)⟩
theorem eq_of_py {x y : D} {p q : PyData} (hs : dEqS x y = none) (hx : pyOf x = some p) (hy : pyOf y = some q) (sx : SeqAt.shaped p = true) (sy : SeqAt.shaped q = true) : dEq x y = some (.bl (PyData.eqv p q)) := by
  unfold dEq dEqB
  rw [hs]
  unfold dEqG
  rw [hx, hy]
  simp [sx, sy]
theorem ne_of_py {x y : D} {p q : PyData} (hs : dEqS x y = none) (hx : pyOf x = some p) (hy : pyOf y = some q) (sx : SeqAt.shaped p = true) (sy : SeqAt.shaped q = true) : dNe x y = some (.bl (!PyData.eqv p q)) := by
  unfold dNe dEqB
  rw [hs]
  unfold dEqG
  rw [hx, hy]
  simp [sx, sy]
@[simp] theorem eq_tI {xs ys : List Int} : dEq (.tup (xs.map D.int)) (.tup (ys.map D.int)) = some (.bl (decide (xs = ys))) := by
  rw [eq_of_py (x := tI xs) (y := tI ys) rfl (toPy_tI xs) (toPy_tI ys) (shp_tI xs) (shp_tI ys), PyData.eqv, eqv_ints]
@[simp] theorem ne_tI {xs ys : List Int} : dNe (.tup (xs.map D.int)) (.tup (ys.map D.int)) = some (.bl (!decide (xs = ys))) := by
  rw [ne_of_py (x := tI xs) (y := tI ys) rfl (toPy_tI xs) (toPy_tI ys) (shp_tI xs) (shp_tI ys), PyData.eqv, eqv_ints]
@[simp] theorem eq_lI {xs ys : List Int} : dEq (.lst (xs.map D.int)) (.lst (ys.map D.int)) = some (.bl (decide (xs = ys))) := by
  rw [eq_of_py (x := lI xs) (y := lI ys) rfl (toPy_lI xs) (toPy_lI ys) (shp_lI xs) (shp_lI ys), PyData.eqv, eqv_ints]
@[simp] theorem ne_lI {xs ys : List Int} : dNe (.lst (xs.map D.int)) (.lst (ys.map D.int)) = some (.bl (!decide (xs = ys))) := by
  rw [ne_of_py (x := lI xs) (y := lI ys) rfl (toPy_lI xs) (toPy_lI ys) (shp_lI xs) (shp_lI ys), PyData.eqv, eqv_ints]
/-! lists of tuples -/
theorem toPys_tIs : ∀ xs : List (List Int), toPys (xs.map tI) = some (xs.map pI)
  | [] => by rw [List.map_nil, toPys]; rfl
  | x :: xs => by rw [List.map_cons, toPys, toPys_tIs xs, toPy_tI]; rfl
theorem lay_tIs : ∀ xs : List (List Int), PyData.canLayAll0 (xs.map pI) = true
  | [] => by simp only [List.map_nil, PyData.canLayAll0]
  | x :: xs => by simp only [List.map_cons, PyData.canLayAll0, PyData.canLay0, lay_ints, lay_tIs xs, Bool.and_self]
theorem dep_tIs : ∀ xs : List (List Int), PyData.depthAll (xs.map pI) ≤ 10
  | [] => by simp only [List.map_nil, PyData.depthAll]; omega
  | x :: xs => by
    have := dep_tIs xs
    have := dep_ints x
    simp only [List.map_cons, PyData.depthAll, PyData.depth]
    omega
theorem eqv_tIs : ∀ xs ys : List (List Int), PyData.eqvAll (xs.map pI) (ys.map pI) = decide (xs = ys)
  | [], [] => by simp [PyData.eqvAll]
  | [], _ :: _ => by simp [PyData.eqvAll]
  | _ :: _, [] => by simp [PyData.eqvAll]
  | x :: xs, y :: ys => by
    simp only [List.map_cons, PyData.eqvAll, PyData.eqv, eqv_ints, eqv_tIs xs ys, List.cons.injEq]
    by_cases h : x = y <;> by_cases k : xs = ys <;> simp [h, k]
theorem shp_tIs (xs : List (List Int)) : SeqAt.shaped (.list (xs.map pI)) = true := by
  have := dep_tIs xs
  exact Bool.and_eq_true_iff.mpr ⟨by simp only [PyData.canLay0, lay_tIs], decide_eq_true (by simp only [PyData.depth]; omega)⟩
theorem toPy_tIs (xs : List (List Int)) : toPy (.lst (xs.map tI)) = some (.list (xs.map pI)) := by
  rw [toPy, toPys_tIs]
  rfl
theorem eq_tIs {xs ys : List (List Int)} : dEq (.lst (xs.map tI)) (.lst (ys.map tI)) = some (.bl (decide (xs = ys))) := by
  rw [eq_of_py (x := .lst (xs.map tI)) (y := .lst (ys.map tI)) rfl (toPy_tIs xs) (toPy_tIs ys) (shp_tIs xs) (shp_tIs ys), PyData.eqv, eqv_tIs]
theorem ne_tIs {xs ys : List (List Int)} : dNe (.lst (xs.map tI)) (.lst (ys.map tI)) = some (.bl (!decide (xs = ys))) := by
  rw [ne_of_py (x := .lst (xs.map tI)) (y := .lst (ys.map tI)) rfl (toPy_tIs xs) (toPy_tIs ys) (shp_tIs xs) (shp_tIs ys), PyData.eqv, eqv_tIs]
/-! kinds -/
theorem kit_ii : kitB "int" "int" = some true := by decide +kernel
theorem kit_ib : kitB "int" "bool" = some false := by decide +kernel
theorem kit_tt : kitB "tuple" "tuple" = some true := by decide +kernel
@[simp] theorem isi_ii {i : Int} : dIsi [.int i, .ty "int"] = some (.bl true) := by
  show (some "int").bind (fun t => (kitB t "int").map D.bl) = _
  simp [kit_ii]
@[simp] theorem isi_ib {i : Int} : dIsi [.int i, .ty "bool"] = some (.bl false) := by
  show (some "int").bind (fun t => (kitB t "bool").map D.bl) = _
  simp [kit_ib]
@[simp] theorem isi_tt {xs : List D} : dIsi [.tup xs, .ty "tuple"] = some (.bl true) := by
  show (some "tuple").bind (fun t => (kitB t "tuple").map D.bl) = _
  simp [kit_tt]
end DL
end

section
set_option maxRecDepth 100000
set_option maxHeartbeats 1000000
namespace DL
open PySem L2
theorem wp_runP {N : Nat} {g : M Fl} {ds : List D} {Q : D → Env → Prop} : Wp (runF N g ds) Q = Wq noE (g (ds.map some ++ List.replicate (N - ds.length) none)) fun f e => borOk ds e = true ∧ (match f with | .rt d => Q d e | .nx => Q .non e | _ => False) := by
  have h := wp_runF (E := noE) (N := N) (g := g) (ds := ds) (Q := Q)
  have e : (fun (x : Exn) (e : Env) => borOk ds e = true ∧ noE x e) = noE := funext fun x => funext fun e => propext ⟨fun z => z.2, fun z => z.elim⟩
  rw [e] at h
  exact h
variable {E : Exn → Env → Prop}
section
variable {Q : D → Env → Prop} {QF : Fl → Env → Prop} {QL : List D → Env → Prop} {QB : Bool → Env → Prop} {e : Env}
@[simp] theorem wp_un {op : D → Option D} {f : M D} : Wq E (eUn op f e) Q = Wq E (f e) fun x e1 => Wq E (mopt (op (rs e1 x)) e1) Q := by
  unfold eUn
  rw [wp_mbind]
@[simp] theorem neg_int {i : Int} : dNeg (.int i) = some (.int (-i)) := rfl
@[simp] theorem wp_andD {a b : M D} : Wq E (eAndD a b e) Q = Wq E (a e) fun x e1 => (match x with | .bl k => (k = true → Wq E (b e1) Q) ∧ (¬k = true → Q (.bl false) e1) | _ => False) := by
  unfold eAndD
  rw [wp_mbind]
  refine Wq.ext fun x e1 => ?_
  cases x with
  | bl k => cases k <;> simp
  | _ => rfl
@[simp] theorem wp_orD {a b : M D} : Wq E (eOrD a b e) Q = Wq E (a e) fun x e1 => (match x with | .bl k => (k = true → Q (.bl true) e1) ∧ (¬k = true → Wq E (b e1) Q) | _ => False) := by
  unfold eOrD
  rw [wp_mbind]
  refine Wq.ext fun x e1 => ?_
  cases x with
  | bl k => cases k <;> simp
  | _ => rfl
@[simp] theorem wp_notD {a : M D} : Wq E (eNotD a e) Q = Wq E (a e) fun x e1 => (match x with | .bl k => Q (.bl (!k)) e1 | _ => False) := by
  unfold eNotD
  rw [wp_mbind]
  refine Wq.ext fun x e1 => ?_
  cases x <;> rfl
@[simp] theorem wp_chain {op op' : D → D → Option D} {fa fb fc : M D} : Wq E (eChain op op' fa fb fc e) Q = Wq E (fa e) fun x e1 => Wq E (fb e1) fun y e2 => Op (op (rs e2 x) (rs e2 y)) fun z =>
    (match z with | .bl k => (k = true → Wq E (fc e2) fun w e3 => Wq E (mopt (op' (rs e3 y) (rs e3 w)) e3) Q) ∧ (¬k = true → Q (.bl false) e2) | _ => False) := by
  unfold eChain
  rw [wp_mbind]
  refine Wq.ext fun x e1 => ?_
  rw [wp_mbind]
  refine Wq.ext fun y e2 => ?_
  cases op (rs e2 x) (rs e2 y) with
  | none => rfl
  | some z =>
    cases z with
    | bl k => cases k <;> simp
    | _ => rfl
@[simp] theorem wp_more {dds : List D} {fs : M (List D)} : Wq E (aMore dds fs e) QL = Wq E (fs e) fun ds e1 => QL (ds ++ dds) e1 := by
  unfold aMore
  rw [wp_mbind]
  rfl
@[simp] theorem wp_raise0 {x : Str} : Wq E (sRaise0 x e) QF = E ⟨x, []⟩ e := rfl
@[simp] theorem wp_at {n : Nat} {F : List D → Rs D} {ds : List D} : Wq E (eAt n F ds e) Q = ((ds.length = n ∧ alN ds = true ∧ (ds.map (rsB e)).all noOwn = true) ∧ Wq noE (F (ds.map (rsB e))) fun r outs => Q r (putO e ds outs)) := by
  unfold eAt
  by_cases h : ds.length = n ∧ alN ds = true ∧ (ds.map (rsB e)).all noOwn = true
  · rw [if_pos h]
    simp only [h, true_and]
    cases F (ds.map (rsB e)) with
    | ok a o => rfl
    | ex x o => rfl
    | no => rfl
  · rw [if_neg h]
    simp only [h]
    simp
@[simp] theorem wp_callK {n np nk : Nat} {F : List D → Rs D} {g : List D → List D → List D → List D} {dds : List D} {fs ks : M (List D)} : Wq E (eCallK n np nk F g dds fs ks e) Q = Wq E (fs e) fun ds e1 => Wq E (ks e1) fun zs e2 => (ds.length = np ∧ zs.length = nk) ∧ Wq E (eAt n F (g ds dds zs) e2) Q := by
  unfold eCallK
  rw [wp_mbind]
  refine Wq.ext fun ds e1 => ?_
  rw [wp_mbind]
  refine Wq.ext fun zs e2 => ?_
  by_cases h : ds.length = np ∧ zs.length = nk
  · simp only [h, true_and, and_self]
    rfl
  · simp only [h, false_and]
    rfl
@[simp] theorem arr_nil {α : Type} {a d z : List α} : arr [] a d z = [] := rfl
@[simp] theorem arr_cons {α : Type} {a d z : List α} {k i : Nat} {is : List (Nat × Nat)} : arr ((k, i) :: is) a d z = ((if k = 0 then a else if k = 1 then d else z)[i]?).toList ++ arr is a d z := rfl
@[simp] theorem wp_pow {i j : Int} : Wq E (mopt (dPow (.int i) (.int j)) e) Q = ((0 ≤ j ∧ j ≤ 1000000 ∧ i.natAbs < 2 ^ 64) ∧ Q (.int (i ^ j.toNat)) e) := by
  show Wq E (mopt (if 0 ≤ j ∧ j ≤ 1000000 ∧ i.natAbs < 2 ^ 64 then some (D.int (i ^ j.toNat)) else none) e) Q = _
  by_cases h : 0 ≤ j ∧ j ≤ 1000000 ∧ i.natAbs < 2 ^ 64
  · rw [if_pos h]
    simp only [h, true_and]
    rfl
  · rw [if_neg h]
    simp only [h, false_and]
    rfl
@[simp] theorem wp_aug {i : Nat} {g : Int → Int → Int} {f : M D} : Wq E (sAugI i g f e) QF = (match e[i]? with
    | some (some (.int n)) => Wq E (f e) fun y e1 => (match rs e1 y with | .int k => QF .nx (e1.set i (some (.int (g n k)))) | _ => False)
    | _ => False) := by
  unfold sAugI
  cases e[i]? with
  | none => rfl
  | some o => cases o with
    | none => rfl
    | some d => cases d with
      | int n =>
        show Wq E (mbind f _ e) QF = _
        rw [wp_mbind]
        refine Wq.ext fun y e1 => ?_
        cases rs e1 y <;> rfl
      | _ => rfl
@[simp] theorem shOnly_bl {b : Bool} : shOnly (.bl b) = some (.bl b) := rfl
@[simp] theorem shOnly_non : shOnly .non = some .non := rfl
/-! exceptions -/
@[simp] theorem wp_try {t : XTab} {b : M Fl} {cl : List Cl} : Wq E (sTry t b cl e) QF = Wq (fun x e1 => hasX t x.cls = true ∧ Wq E (hand t x cl e1) QF) (b e) QF := by
  unfold sTry
  cases b e with
  | ok f e1 => cases f <;> rfl
  | no => rfl
  | ex x e1 =>
    show Wq E (if hasX t x.cls = true then hand t x cl e1 else .no) QF = (hasX t x.cls = true ∧ Wq E (hand t x cl e1) QF)
    by_cases h : hasX t x.cls = true <;> simp [h]
@[simp] theorem wp_handNil {t : XTab} {x : Exn} : Wq E (hand t x [] e) QF = E x e := rfl
@[simp] theorem wp_handCons {t : XTab} {x : Exn} {i : Nat} {C : CN} {su : Exn → M Fl} {r : List Cl} : Wq E (hand t x ((i, C, su) :: r) e) QF =
    ((isSub t x.cls C = true → (i < e.length ∧ noAl (e.set i none) = true) ∧ Wq noE (su x (e.set i (some (.al i)))) fun f e1 => noAl (e1.set i none) = true ∧ QF f (e1.set i none)) ∧ (¬isSub t x.cls C = true → Wq E (hand t x r e) QF)) := by
  show Wq E (if isSub t x.cls C = true then (if i < e.length ∧ noAl (e.set i none) = true then clr i (su x (e.set i (some (.al i)))) else .no) else hand t x r e) QF = _
  by_cases h : isSub t x.cls C = true
  · rw [if_pos h]
    by_cases g : i < e.length ∧ noAl (e.set i none) = true
    · rw [if_pos g]
      simp only [h, g, forall_const, not_true_eq_false, false_implies, and_true, true_and, and_self]
      cases su x (e.set i (some (.al i))) with
      | no => rfl
      | ex y e1 => rfl
      | ok f e1 =>
        show Wq E (if noAl (e1.set i none) = true then .ok f (e1.set i none) else .no) QF = (noAl (e1.set i none) = true ∧ QF f (e1.set i none))
        by_cases k : noAl (e1.set i none) = true <;> simp [k]
    · rw [if_neg g]
      simp only [h, g, forall_const, not_true_eq_false, false_implies, and_true, false_and]
      rfl
  · rw [if_neg h]
    simp [h]
@[simp] theorem wp_eX {i : Nat} {r : Option D} : Wq E (eX i r e) Q = (match e[i]? with | some (some (.al _)) => Wq E (mopt r e) Q | _ => False) := by
  unfold eX
  cases e[i]? with
  | none => rfl
  | some o => cases o with
    | none => rfl
    | some d => cases d <;> rfl
@[simp] theorem noAl_nil : noAl [] = true := rfl
@[simp] theorem noAl_none : noAl (none :: e) = noAl e := rfl
@[simp] theorem noAl_int {i} : noAl (some (.int i) :: e) = noAl e := rfl
@[simp] theorem noAl_str {i} : noAl (some (.str i) :: e) = noAl e := rfl
@[simp] theorem noAl_bl {i} : noAl (some (.bl i) :: e) = noAl e := rfl
@[simp] theorem noAl_tup {i} : noAl (some (.tup i) :: e) = noAl e := rfl
@[simp] theorem noAl_lst {i} : noAl (some (.lst i) :: e) = noAl e := rfl
@[simp] theorem noAl_klst {i} : noAl (some (.klst i) :: e) = noAl e := rfl
@[simp] theorem noAl_own {i} : noAl (some (.own i) :: e) = noAl e := rfl
@[simp] theorem noAl_bor {i} : noAl (some (.bor i) :: e) = noAl e := rfl
@[simp] theorem noAl_non : noAl (some .non :: e) = noAl e := rfl
end
end DL
end

section
set_option maxRecDepth 100000
set_option maxHeartbeats 1000000
/-! what the rows on texts and on nested lists give, told from behind -/
namespace DL
open PySem L2
variable {E : Exn → Env → Prop}
/-! ### texts as lists of codes -/
def sd (l : List Nat) : D := .str ⟨l.toArray⟩
theorem str_sd (s : Str) : D.str s = sd s.cps.toList := by rw [sd, TL.mk_tl]
/-- the codes of a text -/
def codOf : D → Option (List Nat)
  | .str s => some s.cps.toList
  | _ => none
section
variable {Q : D → Env → Prop} {QF : Fl → Env → Prop} {QL : List D → Env → Prop} {QB : Bool → Env → Prop} {e : Env}
@[simp] theorem gcd2_int {a b : Int} : dGcd2 [.int a, .int b] = some (.int ((Nat.gcd a.natAbs b.natAbs : Nat) : Int)) := rfl
@[simp] theorem is_nn : dIs .non .non = some (.bl true) := rfl
@[simp] theorem is_in {i : Int} : dIs (.int i) .non = some (.bl false) := rfl
@[simp] theorem is_tn {xs : List D} : dIs (.tup xs) .non = some (.bl false) := rfl
@[simp] theorem isNot_nn : dIsNot .non .non = some (.bl false) := rfl
@[simp] theorem isNot_in {i : Int} : dIsNot (.int i) .non = some (.bl true) := rfl
@[simp] theorem isNot_tn {xs : List D} : dIsNot (.tup xs) .non = some (.bl true) := rfl
/-- a slot's value, read -/
def mval (d : D) (i : Nat) : M D := fun e => match d with
  | .own xs => if (xs.all isSh) = true then .ok (.lst xs) (e.set i (some (.lst xs))) else .no
  | .bor _ => .no
  | .al _ => .no
  | d => .ok d e
@[simp high] theorem wp_val {i : Nat} : Wq E (eVal i e) Q = (match e[i]? with
    | some (some d) => Wq E (mval d i e) Q
    | _ => False) := by
  rw [wp_val_at]
  cases e[i]? with
  | none => rfl
  | some o => cases o with
    | none => rfl
    | some d => cases d with
      | own xs =>
        show ((xs.all isSh) = true ∧ _) = Wq E (if (xs.all isSh) = true then _ else _) Q
        by_cases h : (xs.all isSh) = true <;> simp [h]
      | _ => rfl
@[simp] theorem mval_own {i : Nat} {xs} : Wq E (mval (.own xs) i e) Q = ((xs.all isSh) = true ∧ Q (.lst xs) (e.set i (some (.lst xs)))) := by
  show Wq E (if (xs.all isSh) = true then _ else _) Q = _
  by_cases h : (xs.all isSh) = true
  · rw [if_pos h]
    simp only [h, true_and]
    rfl
  · rw [if_neg h]
    simp only [h]
    exact propext ⟨fun z => (show False from z).elim, fun z => absurd z.1 Bool.false_ne_true⟩
@[simp] theorem mval_int {i : Nat} {n} : Wq E (mval (.int n) i e) Q = Q (.int n) e := rfl
@[simp] theorem mval_bl {i : Nat} {n} : Wq E (mval (.bl n) i e) Q = Q (.bl n) e := rfl
@[simp] theorem mval_str {i : Nat} {n} : Wq E (mval (.str n) i e) Q = Q (.str n) e := rfl
@[simp] theorem mval_sd {i : Nat} {n} : Wq E (mval (sd n) i e) Q = Q (sd n) e := rfl
@[simp] theorem mval_non {i : Nat} : Wq E (mval .non i e) Q = Q .non e := rfl
@[simp] theorem mval_tup {i : Nat} {n} : Wq E (mval (.tup n) i e) Q = Q (.tup n) e := rfl
@[simp] theorem mval_lst {i : Nat} {n} : Wq E (mval (.lst n) i e) Q = Q (.lst n) e := rfl
@[simp] theorem mval_klst {i : Nat} {n} : Wq E (mval (.klst n) i e) Q = Q (.klst n) e := rfl
@[simp] theorem wp_sNo : Wq E (sNo e) QF = False := rfl
@[simp] theorem wp_iterS {f : M D} : Wq E (eIterS f e) QL = Wq E (f e) fun d e1 => Wq E (mopt (signsOf d) e1) QL := by
  unfold eIterS
  rw [wp_mbind]
@[simp] theorem wp_enumS {fs : M (List D)} : Wq E (eEnumS fs e) QL = Wq E (fs e) fun ds e1 => Wq E (mopt (enumOf ds) e1) QL := by
  unfold eEnumS
  rw [wp_mbind]
@[simp] theorem wp_m1 {op : D → D → Option D} {f g : M D} : Wq E (eM1 op f g e) Q = Wq E (f e) fun x e1 => Op (codOf x) fun a => Wq E (g e1) fun y e2 => Wq E (mopt (op (sd a) (rs e2 y)) e2) Q := by
  unfold eM1
  rw [wp_mbind]
  refine Wq.ext fun x e1 => ?_
  cases x with
  | str s =>
    show Wq E (mbind g _ e1) Q = Wq E (g e1) fun y e2 => Wq E (mopt (op (sd s.cps.toList) (rs e2 y)) e2) Q
    rw [wp_mbind, ← str_sd]
  | _ => rfl
@[simp] theorem wp_nest {i : Nat} : Wq E (sNest i e) QF = (i < e.length ∧ QF .nx (e.set i (some (.own [.own []])))) := by
  unfold sNest
  by_cases h : i < e.length <;> simp [h]
@[simp] theorem wp_appN {i : Nat} : Wq E (sAppN i e) QF = (match e[i]? with
    | some (some (.own ds)) => ds.length < 1000000 ∧ QF .nx (e.set i (some (.own (ds ++ [.own []]))))
    | _ => False) := by
  unfold sAppN
  cases e[i]? with
  | none => rfl
  | some o => cases o with
    | none => rfl
    | some d => cases d with
      | own ds =>
        show Wq E (if ds.length < 1000000 then _ else _) QF = (ds.length < 1000000 ∧ _)
        by_cases h : ds.length < 1000000 <;> simp [h]
      | _ => rfl
@[simp] theorem wp_appR {i : Nat} {j : Int} {fy : M D} : Wq E (sAppR i j fy e) QF = (match e[i]? with
    | some (some (.own ds)) => isRow ds j = true ∧ Wq E (fy (e.set i none)) fun y e2 => Op (appR ds j y) fun ds' => QF .nx (e2.set i (some (.own ds')))
    | _ => False) := by
  unfold sAppR
  cases e[i]? with
  | none => rfl
  | some o => cases o with
    | none => rfl
    | some d => cases d with
      | own ds =>
        show Wq E (if isRow ds j = true then _ else _) QF = (isRow ds j = true ∧ _)
        by_cases h : isRow ds j = true
        · rw [if_pos h, wp_mbind]
          simp only [h, true_and]
          refine Wq.ext fun y e2 => ?_
          cases appR ds j y <;> rfl
        · rw [if_neg h]
          simp [h]
      | _ => rfl
/-- the last item, taken -/
def popD (ds : List D) : Option (D × List D) := match ds.getLast? with
  | some (.own ys) => if (ys.all isSh) = true then some (.lst ys, ds.dropLast) else none
  | some d => if isSh d = true then some (d, ds.dropLast) else none
  | none => none
@[simp] theorem wp_pop {i : Nat} : Wq E (ePop i e) Q = (match e[i]? with
    | some (some (.own ds)) => Op (popD ds) fun t => Q t.1 (e.set i (some (.own t.2)))
    | _ => False) := by
  unfold ePop
  cases e[i]? with
  | none => rfl
  | some o => cases o with
    | none => rfl
    | some d => cases d with
      | own ds =>
        unfold popD
        dsimp only
        cases ds.getLast? with
        | none => rfl
        | some x => cases x with
          | own ys =>
            dsimp only
            by_cases h : (ys.all isSh) = true <;> simp [h]
          | bor ys => rfl
          | al j => rfl
          | _ => rfl
      | _ => rfl
theorem popD_own {ds : List D} {ys : List D} (h : (ys.all isSh) = true) : popD (ds ++ [.own ys]) = some (.lst ys, ds) := by
  unfold popD
  rw [List.getLast?_append]
  simp [h]
theorem popD_int {ds : List D} {i : Int} : popD (ds ++ [.int i]) = some (.int i, ds) := by
  unfold popD
  rw [List.getLast?_append]
  simp
/-- an own row read, and lent for good -/
def rowD (ds : List D) (j : Int) : Option (D × List D) := match ixN ds.length j with
  | some n => (match ds[n]? with
    | some (.own ys) => if (ys.all isSh) = true then some (.lst ys, ds.set n (.lst ys)) else none
    | _ => none)
  | none => none
@[simp] theorem wp_row {i : Nat} {j : Int} : Wq E (eRow i j e) Q = (match e[i]? with
    | some (some (.own ds)) => Op (rowD ds j) fun t => Q t.1 (e.set i (some (.own t.2)))
    | _ => False) := by
  unfold eRow
  cases e[i]? with
  | none => rfl
  | some o => cases o with
    | none => rfl
    | some d => cases d with
      | own ds =>
        unfold rowD
        dsimp only
        cases ixN ds.length j with
        | none => rfl
        | some n =>
          dsimp only
          cases ds[n]? with
          | none => rfl
          | some x => cases x with
            | own ys =>
              dsimp only
              by_cases h : (ys.all isSh) = true <;> simp [h]
            | _ => rfl
      | _ => rfl
@[simp] theorem wp_ext {fo fy : M D} : Wq E (sExt fo fy e) QF = Wq E (fo e) fun o e1 => (ownAt e1 o).isSome = true ∧ Wq E (fy e1) fun y e2 => Op (extE e2 o y) fun e3 => QF .nx e3 := by
  unfold sExt
  rw [wp_mbind]
  refine Wq.ext fun o e1 => ?_
  by_cases h : (ownAt e1 o).isSome = true
  · rw [if_pos h, wp_mbind]
    simp only [h, true_and]
    refine Wq.ext fun y e2 => ?_
    cases extE e2 o y <;> simp
  · rw [if_neg h]
    simp [h]
end
section
variable {a b : List Nat} {c : Nat} {Q : D → Env → Prop} {e : Env}
section
variable {k : Nat} {r : List D} {o : Option D} {e : Env}
@[simp] theorem codOf_sd : codOf (sd a) = some a := rfl
@[simp] theorem rs_sd : rs e (sd a) = sd a := rfl
@[simp] theorem rsB_sd : rsB e (sd a) = sd a := rfl
@[simp] theorem sh_sd : isSh (sd a) = true := rfl
@[simp] theorem see_sd : seeD k (sd a) = sd a := rfl
@[simp] theorem noOwn_sd : noOwn (sd a) = true := rfl
@[simp] theorem alN_sd : alN (sd a :: r) = alN r := rfl
@[simp] theorem isAl_sd : isAl k (sd a) = false := rfl
@[simp] theorem notAl_sd : notAl (sd a) = true := rfl
@[simp] theorem borOk_sd : borOk (sd a :: r) (o :: e) = borOk r e := rfl
@[simp] theorem shOnly_sd : shOnly (sd a) = some (sd a) := rfl
@[simp] theorem noAl_sd : noAl (some (sd a) :: e) = noAl e := rfl
@[simp] theorem signsOf_sd : signsOf (sd a) = some (a.map fun c => sd [c]) := rfl
theorem enum_eq : ∀ (i : Nat) (a : List Nat), enumD i a = a.mapIdx fun j c => .tup [.int ((i + j : Nat) : Int), sd [c]]
  | _, [] => rfl
  | i, c :: a => by
    rw [enumD, List.mapIdx_cons, enum_eq (i + 1) a]
    congr 2
    funext j c
    have z : i + 1 + j = i + (j + 1) := by omega
    rw [z]
@[simp] theorem enumOf_sd : enumOf [sd a] = some (a.mapIdx fun j c => .tup [.int (j : Int), sd [c]]) := by
  show some (enumD 0 a) = _
  rw [enum_eq]
  simp only [Nat.zero_add]
@[simp] theorem isi_sd {n : String} : dIsi [sd a, .ty n] = (kitB "str" n).map .bl := rfl
@[simp] theorem is_sd : dIs (sd a) .non = some (.bl false) := rfl
@[simp] theorem isNot_sd : dIsNot (sd a) .non = some (.bl true) := rfl
end
theorem sd_inj (h : sd a = sd b) : a = b := Option.some.inj (congrArg codOf h)
@[simp] theorem sd_eq : (sd a = sd b) = (a = b) := propext ⟨sd_inj, fun h => by rw [h]⟩
theorem len_mk : Str.length ⟨a.toArray⟩ = a.length := by simp [Str.length]
theorem cat_mk : (⟨a.toArray⟩ : Str) ++ ⟨b.toArray⟩ = ⟨(a ++ b).toArray⟩ := TL.ext_tl (TL.tl_append _ _)
theorem mk_eq : ((⟨a.toArray⟩ : Str) = ⟨b.toArray⟩) = (a = b) := propext ⟨fun h => congrArg (fun x : Str => x.cps.toList) h, fun h => by rw [h]⟩
@[simp] theorem wp_addS : Wq E (mopt (dAdd (sd a) (sd b)) e) Q = (a.length + b.length ≤ 1000000 ∧ Q (sd (a ++ b)) e) := by
  show Wq E (mopt (if Str.length ⟨a.toArray⟩ + Str.length ⟨b.toArray⟩ ≤ 1000000 then some (D.str (⟨a.toArray⟩ ++ ⟨b.toArray⟩)) else none) e) Q = _
  rw [wp_mif, len_mk, len_mk, cat_mk]
  rfl
@[simp] theorem wp_lenS : Wq E (mopt (dLen [sd a]) e) Q = (a.length ≤ 1000000 ∧ Q (.int a.length) e) := by
  show Wq E (mopt (if Str.length ⟨a.toArray⟩ ≤ 1000000 then some (D.int (Str.length ⟨a.toArray⟩)) else none) e) Q = _
  rw [wp_mif, len_mk]
@[simp] theorem wp_idxS {i : Int} : Wq E (mopt (dIdx (sd a) (.int i)) e) Q = (a.length ≤ 1000000 ∧ Op (atI a i) fun c => Q (sd [c]) e) := by
  show Wq E (mopt (if Str.length ⟨a.toArray⟩ ≤ 1000000 then (atI a i).map fun c => D.str ⟨#[c]⟩ else none) e) Q = _
  rw [len_mk]
  by_cases h : a.length ≤ 1000000
  · rw [if_pos h, wp_mmap]
    simp only [h, true_and]
    rfl
  · rw [if_neg h]
    simp [h, mopt]
@[simp] theorem eqS : dEq (sd a) (sd b) = some (.bl (decide (a = b))) := by
  show some (D.bl (decide ((⟨a.toArray⟩ : Str) = ⟨b.toArray⟩))) = _
  congr 2
  exact decide_eq_decide.mpr (mk_eq ▸ Iff.rfl)
@[simp] theorem neS : dNe (sd a) (sd b) = some (.bl (!decide (a = b))) := by
  show some (D.bl (!decide ((⟨a.toArray⟩ : Str) = ⟨b.toArray⟩))) = _
  congr 3
  exact decide_eq_decide.mpr (mk_eq ▸ Iff.rfl)
@[simp] theorem inS {neg : Bool} : dInB neg (sd [c]) (sd b) = some (.bl (if neg then !decide (c ∈ b) else decide (c ∈ b))) := rfl
theorem wp_sliceTo {k : Nat} : Wq E (mopt (dSlice (sd a) none (some (k : Int))) e) Q = (a.length ≤ 1000000 ∧ Q (sd (a.take k)) e) := by
  show Wq E (mopt (if Str.length ⟨a.toArray⟩ ≤ 1000000 then some (D.str (cutS ⟨a.toArray⟩ none (some (k : Int)))) else none) e) Q = _
  rw [wp_mif, len_mk]
  have : cutS ⟨a.toArray⟩ none (some (k : Int)) = ⟨(a.take k).toArray⟩ := by
    unfold cutS
    rw [len_mk, HT.sIx_nat, HT.sIx_none]
    show (⟨((a.drop 0).take (min k a.length - 0)).toArray⟩ : Str) = _
    rw [List.drop_zero, Nat.sub_zero]
    congr 2
    by_cases h : k ≤ a.length
    · rw [Nat.min_eq_left h]
    · rw [Nat.min_eq_right (by omega), List.take_of_length_le (Nat.le_refl _), List.take_of_length_le (by omega)]
  rw [this]
  rfl
theorem wp_sliceFrom {k : Nat} : Wq E (mopt (dSlice (sd a) (some (k : Int)) none) e) Q = (a.length ≤ 1000000 ∧ Q (sd (a.drop k)) e) := by
  show Wq E (mopt (if Str.length ⟨a.toArray⟩ ≤ 1000000 then some (D.str (cutS ⟨a.toArray⟩ (some (k : Int)) none)) else none) e) Q = _
  rw [wp_mif, len_mk]
  have : cutS ⟨a.toArray⟩ (some (k : Int)) none = ⟨(a.drop k).toArray⟩ := by
    unfold cutS
    rw [len_mk, HT.sIx_nat, HT.sIx_none]
    show (⟨((a.drop (min k a.length)).take (a.length - min k a.length)).toArray⟩ : Str) = _
    congr 2
    rw [List.take_of_length_le (by rw [List.length_drop]; omega)]
    by_cases h : k ≤ a.length
    · rw [Nat.min_eq_left h]
    · rw [Nat.min_eq_right (by omega), List.drop_of_length_le (Nat.le_refl _), List.drop_of_length_le (by omega)]
  rw [this]
  rfl
@[simp] theorem wp_sliceTo1 : Wq E (mopt (dSlice (sd a) none (some 1)) e) Q = (a.length ≤ 1000000 ∧ Q (sd (a.take 1)) e) := wp_sliceTo (k := 1)
@[simp] theorem wp_sliceFrom1 : Wq E (mopt (dSlice (sd a) (some 1) none) e) Q = (a.length ≤ 1000000 ∧ Q (sd (a.drop 1)) e) := wp_sliceFrom (k := 1)
theorem wp_sliceMid {j k : Nat} (hj : j ≤ k) (hk : k ≤ a.length) : Wq E (mopt (dSlice (sd a) (some (j : Int)) (some (k : Int))) e) Q = (a.length ≤ 1000000 ∧ Q (sd ((a.drop j).take (k - j))) e) := by
  show Wq E (mopt (if Str.length ⟨a.toArray⟩ ≤ 1000000 then some (D.str (cutS ⟨a.toArray⟩ (some (j : Int)) (some (k : Int)))) else none) e) Q = _
  rw [wp_mif, len_mk]
  have : cutS ⟨a.toArray⟩ (some (j : Int)) (some (k : Int)) = ⟨((a.drop j).take (k - j)).toArray⟩ := by
    unfold cutS
    rw [len_mk, HT.sIx_nat, HT.sIx_nat, Nat.min_eq_left hk, Nat.min_eq_left (Nat.le_trans hj hk)]
  rw [this]
  rfl
/-- the signs of an int -/
def strI (i : Int) : List Nat := if i < 0 then 45 :: TL.numL i.natAbs else TL.numL i.natAbs
theorem str_int {i : Int} : D.str (Str.ofString (toString i)) = sd (strI i) := by
  unfold strI
  by_cases h : i < 0
  · rw [if_pos h, PyProof.Rows.toString_neg h, str_sd]
    have e : (0 - i : Int) = ((i.natAbs : Nat) : Int) := by omega
    rw [e]
    have z := TL.tl_num i.natAbs
    rw [TL.tl_ofString] at z
    refine congrArg sd (show TL.tl (Str.ofString ("-" ++ toString ((i.natAbs : Nat) : Int))) = 45 :: TL.numL i.natAbs from ?_)
    rw [TL.tl_ofString, String.toList_append, List.map_append, z]
    rfl
  · rw [if_neg h, str_sd]
    refine congrArg sd ?_
    have e : i = ((i.natAbs : Nat) : Int) := by omega
    conv => lhs; rw [e]
    exact TL.tl_num i.natAbs
@[simp] theorem wp_strI {i : Int} : Wq E (mopt (dStr [.int i]) e) Q = (i.natAbs.log2 < 1920 ∧ Q (sd (strI i)) e) := by
  show Wq E (mopt (if i.natAbs.log2 < 1920 then some (D.str (Str.ofString (toString i))) else none) e) Q = _
  rw [wp_mif, str_int]
/-- int of a row of digits -/
def DigL (l : List Nat) : Prop := ∀ c ∈ l, 48 ≤ c ∧ c ≤ 57
theorem wp_intT {l : List Nat} (h : DigL l) (hn : l ≠ []) (hl : l.length ≤ 640) : Wq E (mopt (dIntT [sd l]) e) Q = Q (.int (NumText.digitsVal l : Nat)) e := by
  show Wq E (mopt (if Str.length ⟨l.toArray⟩ ≤ 640 then (PySem.intText? ⟨l.toArray⟩).map D.int else none) e) Q = _
  rw [len_mk, if_pos hl, PySem.intText_digits (x := ⟨l.toArray⟩) h hn (by rw [len_mk]; omega)]
  rfl
@[simp] theorem wp_partS {c : Nat} : Wq E (mopt (dPart (sd a) (sd [c])) e) Q = (a.length ≤ 1000000 ∧ Q (match TL.par [c] [] a with | some (p, q) => .tup [sd p, sd [c], sd q] | none => .tup [sd a, sd [], sd []]) e) := by
  show Wq E (mopt (if Str.length ⟨[c].toArray⟩ ≠ 0 ∧ Str.length ⟨a.toArray⟩ ≤ 1000000 then some (D.tup [.str (Txt.partition ⟨a.toArray⟩ ⟨[c].toArray⟩).1, .str (Txt.partition ⟨a.toArray⟩ ⟨[c].toArray⟩).2.1, .str (Txt.partition ⟨a.toArray⟩ ⟨[c].toArray⟩).2.2]) else none) e) Q = _
  rw [wp_mif, len_mk, len_mk]
  have h1 : ([c].length ≠ 0 ∧ a.length ≤ 1000000) = (a.length ≤ 1000000) := by simp
  rw [h1]
  cases h : TL.par [c] [] a with
  | none =>
    rw [SX.partition_none (by simp) h]
    rfl
  | some t =>
    obtain ⟨p, q⟩ := t
    rw [SX.partition_some (by simp) h]
    rfl
theorem strsOf_sd : ∀ ls : List (List Nat), strsOf (ls.map sd) = some (ls.map fun l => (⟨l.toArray⟩ : Str))
  | [] => rfl
  | l :: ls => by
    show (strsOf (ls.map sd)).map (_ :: ·) = _
    rw [strsOf_sd ls]
    rfl
@[simp] theorem wp_join {ls : List (List Nat)} {c : Nat} : Wq E (mopt (dJoin (sd [c]) (.lst (ls.map sd))) e) Q = ((ls.map List.length).sum + ls.length ≤ 1000000 ∧ Q (sd (TL.joinL [c] ls)) e) := by
  show Wq E (mopt ((strsOf (ls.map sd)).bind fun ys => if (ys.map (·.length)).sum + ys.length * Str.length ⟨[c].toArray⟩ ≤ 1000000 then some (D.str (Txt.join ⟨[c].toArray⟩ ys)) else none) e) Q = _
  rw [strsOf_sd]
  show Wq E (mopt (if ((ls.map SX.S).map (·.length)).sum + (ls.map SX.S).length * Str.length ⟨[c].toArray⟩ ≤ 1000000 then some (D.str (Txt.join (SX.S [c]) (ls.map SX.S))) else none) e) Q = _
  rw [wp_mif, SX.lens, List.length_map, len_mk, SX.join_S]
  show ((ls.map (·.length)).sum + ls.length * 1 ≤ 1000000 ∧ _) = _
  rw [Nat.mul_one]
  rfl
theorem split_sd {c : Nat} (h : a.length ≤ 1000000) (hc : c < 256) : dSplit (sd a) (sd [c]) = some (.lst ((TL.spl [c] 0 [] a).map sd)) := by
  show (if Str.length ⟨[c].toArray⟩ ≠ 0 ∧ Str.length ⟨a.toArray⟩ ≤ 1000000 then some (D.lst ((Txt.split (SX.S a) (SX.S [c])).map D.str)) else none) = _
  rw [len_mk, len_mk, if_pos ⟨by simp, h⟩, SX.split_S (by simp) (by simpa using hc), List.map_map]
  rfl
@[simp] theorem extE_lst {o : D} {ys : List D} : extE e o (.lst ys) = (ownAt e o).bind fun t => if (t.2.2.all isSh) = true ∧ (ys.all isSh) = true ∧ t.2.2.length + ys.length < 1000000 then some (e.set t.1 (relab (some t.2.1) (t.2.2 ++ ys))) else none := rfl
theorem sh_sds : ∀ l : List (List Nat), (l.map sd).all isSh = true
  | [] => rfl
  | _ :: l => sh_sds l
theorem ix_last {α : Type} {xs : List α} {x : α} : ixN (xs ++ [x]).length (-1) = some xs.length := by
  unfold ixN
  rw [if_neg (by decide), List.length_append, List.length_singleton]
  have : ¬(-1 + ((xs.length + 1 : Nat) : Int) < 0) := by omega
  simp
  omega
@[simp] theorem ix_last1 {n : Nat} : ixN (n + 1) (-1) = some n := by
  have := ix_last (xs := List.replicate n ()) (x := ())
  simpa using this
theorem isRow_last {xs : List D} {r : List D} : isRow (xs ++ [.own r]) (-1) = true := by
  unfold isRow
  rw [ix_last, Option.bind_some]
  simp
theorem appR_last {xs : List D} {r : List D} {y : D} (h : (r.all isSh) = true) (k : isSh y = true) (l : r.length < 1000000) : appR (xs ++ [.own r]) (-1) y = some (xs ++ [.own (r ++ [y])]) := by
  unfold appR
  rw [ix_last, Option.bind_some]
  simp only [List.getElem?_append_right (Nat.le_refl _), Nat.sub_self, List.getElem?_cons_zero]
  rw [if_pos ⟨h, k, l⟩]
  simp
theorem rowD_one {r : List D} (h : (r.all isSh) = true) : rowD [.own r] 0 = some (.lst r, [.lst r]) := by
  unfold rowD
  show (if (r.all isSh) = true then some (D.lst r, [D.lst r]) else none) = _
  rw [if_pos h]
theorem tuple_own {xs : List D} (h : (xs.all isSh) = true) : dTuple [.own xs] = some (.tup xs) := by
  show (if (xs.all isSh) = true then some xs else none).map D.tup = _
  rw [if_pos h]
  rfl
theorem at_last {α : Type} {xs : List α} {x : α} : atI (xs ++ [x]) (-1) = some x := by
  unfold atI
  rw [ix_last]
  simp
theorem set_last {α : Type} {xs : List α} {x y : α} : (xs ++ [x]).set xs.length y = xs ++ [y] := by simp
theorem rg_get {n i : Nat} {d : D} (h : (rg 0 (n : Int))[i]? = some d) : i < n ∧ d = .int (i : Int) := by
  have hi := (List.getElem?_eq_some_iff.mp h).1
  have hi : i < n := by simpa [rg] using hi
  refine ⟨hi, ?_⟩
  unfold rg at h
  rw [List.getElem?_map] at h
  have z : ((n : Int) - 0).toNat = n := by omega
  rw [z, List.getElem?_range hi] at h
  have := Option.some.inj h
  rw [← this]
  simp
end
end DL
end

section
set_option maxRecDepth 100000
set_option maxHeartbeats 1000000
/-! the form of tokens, on codes -/
namespace DL
open PySem L2
def isLo (c : Nat) : Bool := decide (97 ≤ c ∧ c ≤ 122)
def isDg (c : Nat) : Bool := decide (48 ≤ c ∧ c ≤ 57)
def lowL : List Nat := [97, 98, 99, 100, 101, 102, 103, 104, 105, 106, 107, 108, 109, 110, 111, 112, 113, 114, 115, 116, 117, 118, 119, 120, 121, 122]
def digL : List Nat := [48, 49, 50, 51, 52, 53, 54, 55, 56, 57]
def sepL : List Nat := [32, 10, 123, 125]
@[simp] theorem mem_low {c : Nat} : (c ∈ lowL) = (isLo c = true) := by
  unfold lowL isLo
  simp only [List.mem_cons, List.not_mem_nil, or_false, decide_eq_true_eq]
  exact propext ⟨fun h => by omega, fun h => by omega⟩
@[simp] theorem mem_dig {c : Nat} : (c ∈ digL) = (isDg c = true) := by
  unfold digL isDg
  simp only [List.mem_cons, List.not_mem_nil, or_false, decide_eq_true_eq]
  exact propext ⟨fun h => by omega, fun h => by omega⟩
/-- a lower-case letter, then letters and digits, eight in all -/
def nameOk (l : List Nat) : Bool := decide (1 ≤ l.length ∧ l.length ≤ 8) && l.head?.any isLo && l.all fun c => isLo c || isDg c
/-- what a row of digits tells -/
def dvO (l : List Nat) : Option Nat := if (1 ≤ l.length ∧ l.length ≤ 24) ∧ ¬(l.head? = some 48 ∧ ¬l = [48]) ∧ l.all isDg = true then some (NumText.digitsVal l) else none
def sgnO (p : List Nat) : Option Int := if p.take 1 = [45] then (dvO p.tail).bind fun n => if n = 0 then none else some (-(n : Int)) else (dvO p).map fun n => (n : Int)
def tnO (l : List Nat) : Option (Int × Nat) := match TL.par [47] [] l with
  | none => (sgnO l).map fun n => (n, 1)
  | some (p, q) => (sgnO p).bind fun n => (dvO q).bind fun d => if d < 2 ∨ Nat.gcd n.natAbs d ≠ 1 then none else some (n, d)
/-- what token_number tells -/
def tnD (l : List Nat) : D := match tnO l with
  | some (n, d) => tI [n, 0, (d : Int)]
  | none => .non
@[simp] def kOpen : List Nat := [111, 112, 101, 110]
@[simp] def kClose : List Nat := [99, 108, 111, 115, 101]
@[simp] def kWord : List Nat := [119, 111, 114, 100]
@[simp] def kName : List Nat := [110, 97, 109, 101]
@[simp] def kNum : List Nat := [110, 117, 109, 98, 101, 114]
@[simp] def kBad : List Nat := [98, 97, 100]
@[simp] def kProc : List Nat := [112, 114, 111, 99]
def kindL (l : List Nat) : List Nat := if l = [123] then kOpen else if l = [125] then kClose else if l = [91] ∨ l = [93] ∨ nameOk l = true then kWord else if l.take 1 = [47] ∧ nameOk l.tail = true then kName else if (tnO l).isSome = true then kNum else kBad
theorem digL_of {l : List Nat} (h : l.all isDg = true) : DigL l := fun c m => by
  have := List.all_eq_true.mp h c m
  simpa [isDg] using this
theorem fold_lt : ∀ (l : List Nat) (a k : Nat), l.all isDg = true → a < 10 ^ k → l.foldl (fun acc c => acc * 10 + (c - 48)) a < 10 ^ (k + l.length)
  | [], _, _, _, h => h
  | c :: l, a, k, q, h => by
    rw [List.all_cons, Bool.and_eq_true] at q
    have qc : 48 ≤ c ∧ c ≤ 57 := by simpa [isDg] using q.1
    rw [List.foldl_cons, List.length_cons]
    have := fold_lt l (a * 10 + (c - 48)) (k + 1) q.2 (by rw [Nat.pow_succ]; omega)
    have z : k + 1 + l.length = k + (l.length + 1) := by omega
    rw [z] at this
    exact this
theorem digVal_lt {l : List Nat} {n : Nat} (h : l.all isDg = true) (k : l.length ≤ n) : NumText.digitsVal l < 10 ^ n := by
  have := fold_lt l 0 0 h (by decide)
  rw [Nat.zero_add] at this
  exact Nat.lt_of_lt_of_le this (Nat.pow_le_pow_right (by decide) k)
theorem par_some {s : Nat} : ∀ (l acc p q : List Nat), TL.par [s] acc l = some (p, q) → ∃ u, p = acc ++ u ∧ l = u ++ s :: q ∧ s ∉ u
  | [], acc, p, q, h => by simp [TL.par] at h
  | c :: l, acc, p, q, h => by
    by_cases hc : c = s
    · subst hc
      rw [TL.par_hit (by simp [TL.pre])] at h
      simp at h
      exact ⟨[], by simp [h.1], by simp [h.2], by simp⟩
    · rw [TL.par_miss (by simp [TL.pre, hc])] at h
      obtain ⟨u, h1, h2, h3⟩ := par_some l _ p q h
      exact ⟨c :: u, by simp [h1], by simp [h2], by simp [h3]; exact fun z => hc z.symm⟩
theorem par_no {s : Nat} : ∀ (l acc : List Nat), TL.par [s] acc l = none → s ∉ l
  | [], acc, h => by simp
  | c :: l, acc, h => by
    by_cases hc : c = s
    · subst hc
      rw [TL.par_hit (by simp [TL.pre])] at h
      cases h
    · rw [TL.par_miss (by simp [TL.pre, hc])] at h
      simp only [List.mem_cons, not_or]
      exact ⟨fun z => hc z.symm, par_no l _ h⟩
/-- the number of a sign and digits, of a slash and a denominator -/
def ratD (n : Int) (s q : List Nat) : D := if s = [] then tI [n, 0, 1] else match dvO q with
  | some d => if d < 2 ∨ Nat.gcd n.natAbs d ≠ 1 then .non else tI [n, 0, (d : Int)]
  | none => .non
def restD (p s q : List Nat) : D := match sgnO p with
  | some n => ratD n s q
  | none => .non
theorem tnD_none {l : List Nat} (h : TL.par [47] [] l = none) : tnD l = restD l [] [] := by
  unfold tnD tnO restD ratD
  rw [h]
  dsimp only
  cases sgnO l <;> rfl
theorem tnD_some {l p q : List Nat} (h : TL.par [47] [] l = some (p, q)) : tnD l = restD p [47] q := by
  unfold tnD tnO restD ratD
  rw [h]
  dsimp only
  cases sgnO p with
  | none => rfl
  | some n =>
    rw [Option.bind_some]
    simp only [reduceCtorEq, if_false]
    cases dvO q with
    | none => rfl
    | some d =>
      rw [Option.bind_some]
      dsimp only
      by_cases z : d < 2 ∨ n.natAbs.gcd d ≠ 1
      · rw [if_pos z, if_pos z]
      · rw [if_neg z, if_neg z]
/-! scanning -/
structure Scan where
  found : List (List Nat × Nat)
  pend : List Nat
  place : Nat
def flush (s : Scan) : List (List Nat × Nat) := if s.pend = [] then s.found else s.found ++ [(s.pend, s.place - s.pend.length)]
def stepC (s : Scan) (c : Nat) : Scan := if c ∈ sepL then ⟨flush s ++ (if c = 123 ∨ c = 125 then [([c], s.place)] else []), [], s.place + 1⟩ else ⟨s.found, s.pend ++ [c], s.place + 1⟩
def scan0 : Scan := ⟨[], [], 0⟩
/-- the tokens of a text, with places -/
def toksL (t : List Nat) : List (List Nat × Nat) := flush (t.foldl stepC scan0)
def scanAt (t : List Nat) (i : Nat) : Scan := (t.take i).foldl stepC scan0
theorem scanAt_succ {t : List Nat} {i c : Nat} (h : t[i]? = some c) : scanAt t (i + 1) = stepC (scanAt t i) c := by
  unfold scanAt
  rw [List.take_succ, h, List.foldl_append]
  rfl
structure ScanOk (w : List Nat) (s : Scan) : Prop where
  at_ : s.place = w.length
  pnd : ∃ u, w = u ++ s.pend
  few : s.found.length ≤ 2 * w.length
theorem flush_len (s : Scan) : (flush s).length ≤ s.found.length + 1 := by
  unfold flush
  split
  · omega
  · simp
theorem ScanOk.step {w : List Nat} {s : Scan} (h : ScanOk w s) (c : Nat) : ScanOk (w ++ [c]) (stepC s c) := by
  obtain ⟨h1, ⟨u, h2⟩, h3⟩ := h
  have hf := flush_len s
  unfold stepC
  by_cases k : c ∈ sepL
  · rw [if_pos k]
    refine ⟨by simp [h1], ⟨w ++ [c], by simp⟩, ?_⟩
    dsimp only
    rw [List.length_append, List.length_append]
    split
    · simp
      omega
    · simp
      omega
  · rw [if_neg k]
    refine ⟨by simp [h1], ⟨u, by simp [h2]⟩, ?_⟩
    dsimp only
    rw [List.length_append]
    omega
theorem ScanOk.fold : ∀ (l w : List Nat) (s : Scan), ScanOk w s → ScanOk (w ++ l) (l.foldl stepC s)
  | [], w, s, h => by rw [List.append_nil]; exact h
  | c :: l, w, s, h => by
    have := ScanOk.fold l (w ++ [c]) (stepC s c) (h.step c)
    rw [List.append_assoc] at this
    exact this
theorem scan_ok (l : List Nat) : ScanOk l (l.foldl stepC scan0) := ScanOk.fold l [] scan0 ⟨rfl, ⟨[], rfl⟩, by simp [scan0]⟩
theorem scanAt_ok {t : List Nat} {i : Nat} (h : i ≤ t.length) : (scanAt t i).place = i ∧ (scanAt t i).pend.length ≤ i ∧ (t.drop (i - (scanAt t i).pend.length)).take (scanAt t i).pend.length = (scanAt t i).pend ∧ (scanAt t i).found.length ≤ 2 * i := by
  obtain ⟨h1, ⟨u, h2⟩, h3⟩ := scan_ok (t.take i)
  rw [List.length_take, Nat.min_eq_left h] at h1 h3
  have h4 : (t.take i).length = u.length + (scanAt t i).pend.length := by
    conv => lhs; rw [h2]
    rw [List.length_append]
    rfl
  rw [List.length_take, Nat.min_eq_left h] at h4
  refine ⟨h1, by omega, ?_, h3⟩
  have e : i - (scanAt t i).pend.length = u.length := by omega
  rw [e]
  have h5 : t = u ++ ((scanAt t i).pend ++ t.drop i) := by
    conv => lhs; rw [← List.take_append_drop i t, h2]
    rw [List.append_assoc]
    rfl
  have key : ∀ (p r : List Nat), ((u ++ (p ++ r)).drop u.length).take p.length = p := fun p r => by simp
  have z := key (scanAt t i).pend (t.drop i)
  rw [← h5] at z
  exact z
theorem toks_end {t : List Nat} : (scanAt (t ++ [32]) (t.length + 1)).found = toksL t := by
  unfold scanAt toksL
  rw [List.take_of_length_le (by simp), List.foldl_append]
  generalize t.foldl stepC scan0 = s
  show (stepC s 32).found = flush s
  unfold stepC
  rw [if_pos (by decide)]
  simp
def tokD (t : List Nat × Nat) : D := .tup [sd (kindL t.1), sd t.1, .int (t.2 : Nat)]
@[simp] theorem sh_tokD {x : List Nat × Nat} : isSh (tokD x) = true := rfl
end DL
end

section
set_option maxRecDepth 100000
set_option maxHeartbeats 1000000
/-! tokens that are good; the machine that reads items -/
namespace DL
open PySem L2
/-! numbers -/
def numT (n : Int) (d : Nat) : List Nat := if d = 1 then strI n else strI n ++ 47 :: TL.numL d
structure Still (n : Int) (d : Nat) : Prop where
  ln : n.natAbs < 10 ^ 24
  ld : d < 10 ^ 24
  pd : 1 ≤ d
  cp : Nat.gcd n.natAbs d = 1
theorem numL_all (n : Nat) : (TL.numL n).all isDg = true := List.all_eq_true.mpr fun c m => by
  have := TL.numL_digits n c m
  simpa [isDg] using this
theorem numL_head : ∀ (n : Nat), n ≠ 0 → (TL.numL n).head? ≠ some 48 := by
  intro n
  induction n using Nat.strongRecOn with
  | _ n ih =>
    intro h
    by_cases k : n < 10
    · rw [TL.numL_lt k]
      simp
      omega
    · rw [TL.numL_step (by omega), List.head?_append, Option.or_of_isSome (by rw [List.isSome_head?]; exact TL.numL_ne _)]
      exact ih (n / 10) (by omega) (by omega)
theorem dv_num {n : Nat} (h : n < 10 ^ 24) : dvO (TL.numL n) = some n := by
  unfold dvO
  have hn := TL.numL_ne n
  have hl := TL.numL_len (n := n) (k := 24) (by decide) h
  have h1 : 1 ≤ (TL.numL n).length := by
    cases e : TL.numL n with
    | nil => exact absurd e hn
    | cons _ _ => simp
  have z : ¬((TL.numL n).head? = some 48 ∧ ¬TL.numL n = [48]) := fun z => by
    by_cases k : n = 0
    · subst k
      exact z.2 (TL.numL_lt (by decide))
    · exact numL_head n k z.1
  rw [if_pos ⟨⟨h1, hl⟩, z, numL_all n⟩, TL.numL_val]
theorem num_dig {n c : Nat} (h : c ∈ TL.numL n) : 48 ≤ c ∧ c ≤ 57 := TL.numL_digits n c h
theorem strI_no {n : Int} {c : Nat} (h : c ∈ strI n) : c = 45 ∨ (48 ≤ c ∧ c ≤ 57) := by
  unfold strI at h
  split at h
  · rcases List.mem_cons.mp h with h | h
    · exact .inl h
    · exact .inr (num_dig h)
  · exact .inr (num_dig h)
theorem num_take {n : Nat} : (TL.numL n).take 1 ≠ [45] := fun h => by
  have hm : 45 ∈ (TL.numL n).take 1 := by rw [h]; simp
  have := num_dig (List.mem_of_mem_take hm)
  omega
theorem sgn_str {n : Int} (h : n.natAbs < 10 ^ 24) : sgnO (strI n) = some n := by
  unfold strI sgnO
  by_cases k : n < 0
  · rw [if_pos k, if_pos (by simp)]
    rw [List.tail_cons, dv_num h, Option.bind_some, if_neg (by omega)]
    congr 1
    omega
  · rw [if_neg k, if_neg num_take, dv_num h]
    show some ((n.natAbs : Nat) : Int) = some n
    congr 1
    omega
theorem par_free {s : Nat} : ∀ (u acc q : List Nat), s ∉ u → TL.par [s] acc (u ++ s :: q) = some (acc ++ u, q)
  | u, acc, q, h => by
    have := TL.par_part1 (s := s) (S := []) (p := u) (rest := q) (acc := acc) h
    exact this
theorem par_none {s : Nat} {u acc : List Nat} (h : s ∉ u) : TL.par [s] acc u = none := TL.par_none1 h
theorem no_slash {n : Int} : 47 ∉ strI n := fun h => by
  rcases strI_no h with h | h <;> omega
theorem tn_num {n : Int} {d : Nat} (h : Still n d) : tnO (numT n d) = some (n, d) := by
  unfold tnO numT
  by_cases k : d = 1
  · rw [if_pos k, par_none no_slash, sgn_str h.ln, k]
    rfl
  · rw [if_neg k, par_free _ _ _ no_slash, List.nil_append]
    dsimp only
    rw [sgn_str h.ln, Option.bind_some, dv_num h.ld, Option.bind_some, if_neg]
    have := h.pd
    have := h.cp
    omega
theorem num_sign {n : Int} {d c : Nat} (h : c ∈ numT n d) : c = 45 ∨ (47 ≤ c ∧ c ≤ 57) := by
  unfold numT at h
  split at h
  · rcases strI_no h with h | h <;> omega
  · rcases List.mem_append.mp h with h | h
    · rcases strI_no h with h | h <;> omega
    · rcases List.mem_cons.mp h with h | h
      · omega
      · have := num_dig h
        omega
theorem strI_cons (n : Int) : ∃ c r, strI n = c :: r ∧ (c = 45 ∨ (48 ≤ c ∧ c ≤ 57)) := by
  cases e : strI n with
  | nil =>
    unfold strI at e
    split at e
    · cases e
    · exact absurd e (TL.numL_ne _)
  | cons c r => exact ⟨c, r, rfl, strI_no (n := n) (by rw [e]; simp)⟩
theorem numT_cons (n : Int) (d : Nat) : ∃ c r, numT n d = c :: r ∧ (c = 45 ∨ (48 ≤ c ∧ c ≤ 57)) := by
  obtain ⟨c, r, h, k⟩ := strI_cons n
  unfold numT
  split
  · exact ⟨c, r, h, k⟩
  · exact ⟨c, r ++ 47 :: TL.numL d, by rw [h]; rfl, k⟩
theorem numT_len {n : Int} {d : Nat} (h : Still n d) : (numT n d).length ≤ 50 := by
  have h1 := TL.numL_len (n := n.natAbs) (k := 24) (by decide) h.ln
  have h2 := TL.numL_len (n := d) (k := 24) (by decide) h.ld
  have h3 : (strI n).length ≤ 25 := by
    unfold strI
    split
    · rw [List.length_cons]
      omega
    · omega
  unfold numT
  split
  · omega
  · rw [List.length_append, List.length_cons]
    omega
theorem lo_no {c : Nat} (h : c = 45 ∨ (48 ≤ c ∧ c ≤ 57)) : isLo c = false := by
  unfold isLo
  exact decide_eq_false (by omega)
theorem kind_num {n : Int} {d : Nat} (h : Still n d) : kindL (numT n d) = kNum := by
  have ht := tn_num h
  obtain ⟨c, r, e, hc⟩ := numT_cons n d
  rw [e] at ht ⊢
  have hn : nameOk (c :: r) = false := by simp [nameOk, lo_no hc]
  unfold kindL
  rw [if_neg (by simp; omega), if_neg (by simp; omega), if_neg, if_neg, ht]
  · rfl
  · simp
    omega
  · rw [hn]
    simp
    omega
/-! the three sorts of leaves -/
inductive Leaf : List Nat → Prop
  | num {n : Int} {d : Nat} (h : Still n d) : Leaf (numT n d)
  | name {w : List Nat} (h : nameOk w = true) : Leaf (47 :: w)
  | word {w : List Nat} (h : nameOk w = true) : Leaf w
  | op : Leaf [91]
  | cl : Leaf [93]
theorem name_len {w : List Nat} (h : nameOk w = true) : 1 ≤ w.length ∧ w.length ≤ 8 := by
  unfold nameOk at h
  rw [Bool.and_eq_true, Bool.and_eq_true] at h
  exact of_decide_eq_true h.1.1
theorem name_cons {w : List Nat} (h : nameOk w = true) : ∃ c r, w = c :: r ∧ 97 ≤ c ∧ c ≤ 122 := by
  cases w with
  | nil => simp [nameOk] at h
  | cons c r =>
    refine ⟨c, r, rfl, ?_⟩
    unfold nameOk at h
    rw [Bool.and_eq_true, Bool.and_eq_true, List.head?_cons, Option.any_some] at h
    exact of_decide_eq_true h.1.2
theorem name_sign {w : List Nat} {c : Nat} (h : nameOk w = true) (m : c ∈ w) : (97 ≤ c ∧ c ≤ 122) ∨ (48 ≤ c ∧ c ≤ 57) := by
  unfold nameOk at h
  rw [Bool.and_eq_true] at h
  have := List.all_eq_true.mp h.2 c m
  rw [Bool.or_eq_true] at this
  rcases this with h | h
  · exact .inl (of_decide_eq_true h)
  · exact .inr (of_decide_eq_true h)
theorem kind_name {w : List Nat} (h : nameOk w = true) : kindL (47 :: w) = kName := by
  have hn : nameOk (47 :: w) = false := by simp [nameOk, isLo]
  unfold kindL
  rw [if_neg (by simp), if_neg (by simp), if_neg, if_pos]
  · exact ⟨rfl, h⟩
  · rw [hn]
    simp
theorem kind_word {w : List Nat} (h : nameOk w = true) : kindL w = kWord := by
  obtain ⟨c, r, rfl, hc⟩ := name_cons h
  unfold kindL
  rw [if_neg (by simp; omega), if_neg (by simp; omega), if_pos (.inr (.inr h))]
theorem Leaf.kind {w : List Nat} (h : Leaf w) : kindL w = kNum ∨ kindL w = kName ∨ kindL w = kWord := by
  cases h with
  | num h => exact .inl (kind_num h)
  | name h => exact .inr (.inl (kind_name h))
  | word h => exact .inr (.inr (kind_word h))
  | op => exact .inr (.inr rfl)
  | cl => exact .inr (.inr rfl)
theorem Leaf.len {w : List Nat} (h : Leaf w) : 1 ≤ w.length ∧ w.length ≤ 50 := by
  cases h with
  | num h =>
    obtain ⟨c, r, e, _⟩ := numT_cons _ _
    exact ⟨by rw [e]; simp, numT_len h⟩
  | name h =>
    have := name_len h
    rw [List.length_cons]
    omega
  | word h =>
    have := name_len h
    omega
  | op => decide
  | cl => decide
theorem Leaf.sep {w : List Nat} {c : Nat} (h : Leaf w) (m : c ∈ w) : c ∉ sepL := by
  have k : c ≠ 32 ∧ c ≠ 10 ∧ c ≠ 123 ∧ c ≠ 125 := by
    cases h with
    | num h =>
      have := num_sign m
      omega
    | name h =>
      rcases List.mem_cons.mp m with m | m
      · omega
      · have := name_sign h m
        omega
    | word h =>
      have := name_sign h m
      omega
    | op => simp at m; omega
    | cl => simp at m; omega
  unfold sepL
  simp
  omega
theorem Leaf.ne {w : List Nat} (h : Leaf w) : w ≠ [] := fun e => by
  have := h.len
  rw [e] at this
  simp at this
theorem Leaf.no {w : List Nat} (h : Leaf w) : w ≠ [123] ∧ w ≠ [125] := by
  constructor
  · intro e
    exact h.sep (c := 123) (by rw [e]; simp) (by decide)
  · intro e
    exact h.sep (c := 125) (by rw [e]; simp) (by decide)
/-! items -/
def itemL (w : List Nat) : D := if kindL w = kNum then .tup [sd kNum, tnD w] else if kindL w = kName then .tup [sd kName, sd w.tail] else .tup [sd kWord, sd w]
def procD (r : List D) : D := .tup [sd kProc, .tup r]
/-- one token; the innermost row stands first -/
def stp (st : List (List D)) (w : List Nat) : Option (List (List D)) := if w = [123] then (if st.length ≤ 20 then some ([] :: st) else none)
  else if w = [125] then (match st with | r :: q :: s => some ((q ++ [procD r]) :: s) | _ => none)
  else (match st with | r :: s => some ((r ++ [itemL w]) :: s) | [] => none)
def rdS : List (List D) → List (List Nat) → Option (List (List D))
  | st, [] => some st
  | st, w :: ws => (stp st w).bind fun st => rdS st ws
theorem rdS_app : ∀ (ws us : List (List Nat)) (st : List (List D)), rdS st (ws ++ us) = (rdS st ws).bind fun st => rdS st us
  | [], _, _ => rfl
  | w :: ws, us, st => by
    rw [List.cons_append, rdS, rdS]
    cases stp st w with
    | none => rfl
    | some st' => exact rdS_app ws us st'
theorem strI_nat {d : Nat} : strI (d : Int) = TL.numL d := by
  unfold strI
  rw [if_neg (by omega)]
  rfl
theorem item_num {n : Int} {d : Nat} (h : Still n d) : itemL (numT n d) = .tup [sd kNum, tI [n, 0, (d : Int)]] := by
  unfold itemL
  rw [if_pos (kind_num h)]
  unfold tnD
  rw [tn_num h]
theorem item_name {w : List Nat} (h : nameOk w = true) : itemL (47 :: w) = .tup [sd kName, sd w] := by
  unfold itemL
  rw [if_neg (by rw [kind_name h]; decide), if_pos (kind_name h)]
  rfl
theorem item_of {w : List Nat} (h : kindL w = kWord) : itemL w = .tup [sd kWord, sd w] := by
  unfold itemL
  rw [if_neg (by rw [h]; decide), if_neg (by rw [h]; decide)]
theorem item_sh (w : List Nat) : isSh (itemL w) = true := by
  unfold itemL
  split
  · rfl
  · split <;> rfl
/-- both rows, one by one -/
inductive All2 {α β : Type} (R : α → β → Prop) : List α → List β → Prop
  | nil : All2 R [] []
  | cons {a : α} {b : β} {as : List α} {bs : List β} (h : R a b) (r : All2 R as bs) : All2 R (a :: as) (b :: bs)
theorem All2.snoc {α β : Type} {R : α → β → Prop} {a : α} {b : β} (h : R a b) : ∀ {as : List α} {bs : List β}, All2 R as bs → All2 R (as ++ [a]) (bs ++ [b])
  | _, _, .nil => .cons h .nil
  | _, _, .cons k r => .cons k (All2.snoc h r)
theorem All2.imp {α β : Type} {R S : α → β → Prop} (f : ∀ a b, R a b → S a b) : ∀ {as : List α} {bs : List β}, All2 R as bs → All2 S as bs
  | _, _, .nil => .nil
  | _, _, .cons k r => .cons (f _ _ k) (All2.imp f r)
/-- an item with its tokens, procedures at most k in one another -/
def ItW : Nat → D → List (List Nat) → Prop
  | 0, d, ts => ∃ w, Leaf w ∧ d = itemL w ∧ ts = [w]
  | k + 1, d, ts => (∃ w, Leaf w ∧ d = itemL w ∧ ts = [w]) ∨ ∃ ds tss, All2 (ItW k) ds tss ∧ d = procD ds ∧ ts = [123] :: (tss.flatten ++ [[125]])
theorem ItW.up : ∀ {k : Nat} {d : D} {ts : List (List Nat)}, ItW k d ts → ItW (k + 1) d ts
  | 0, _, _, h => .inl h
  | k + 1, _, _, h => by
    rcases h with h | ⟨ds, tss, h1, h2, h3⟩
    · exact .inl h
    · exact .inr ⟨ds, tss, h1.imp fun _ _ => ItW.up, h2, h3⟩
theorem ItW.leaf {k : Nat} {w : List Nat} (h : Leaf w) : ItW k (itemL w) [w] := by
  cases k with
  | zero => exact ⟨w, h, rfl, rfl⟩
  | succ k => exact .inl ⟨w, h, rfl, rfl⟩
theorem ItW.sh : ∀ {k : Nat} {d : D} {ts : List (List Nat)}, ItW k d ts → isSh d = true
  | 0, _, _, ⟨w, _, h, _⟩ => by rw [h]; exact item_sh w
  | k + 1, _, _, .inl ⟨w, _, h, _⟩ => by rw [h]; exact item_sh w
  | k + 1, _, _, .inr ⟨_, _, _, h, _⟩ => by rw [h]; rfl
/-- the stack with its tokens, innermost first: level i holds items of at most 21 - i -/
inductive StW : List (List D) → List (List Nat) → Prop
  | one {ds : List D} {tss : List (List (List Nat))} (h : All2 (ItW 20) ds tss) : StW [ds] tss.flatten
  | more {ds : List D} {tss : List (List (List Nat))} {st : List (List D)} {ts : List (List Nat)} {k : Nat} (h : All2 (ItW k) ds tss) (hk : k + st.length = 20) (r : StW st ts) : StW (ds :: st) (ts ++ [123] :: tss.flatten)
theorem StW.leaf {w : List Nat} (hw : Leaf w) {r : List D} {s : List (List D)} {ts : List (List Nat)} (h : StW (r :: s) ts) : StW ((r ++ [itemL w]) :: s) (ts ++ [w]) := by
  cases h with
  | one h =>
    have := StW.one (h.snoc (ItW.leaf (k := 20) hw))
    rw [List.flatten_append] at this
    simpa using this
  | more h hk r =>
    have := StW.more (h.snoc (ItW.leaf hw)) hk r
    rw [List.flatten_append] at this
    simpa using this
theorem StW.open {st : List (List D)} {ts : List (List Nat)} (h : StW st ts) (l : st.length ≤ 20) : StW ([] :: st) (ts ++ [[123]]) := StW.more (k := 20 - st.length) (tss := []) .nil (by omega) h
theorem StW.close {r q : List D} {s : List (List D)} {ts : List (List Nat)} (h : StW (r :: q :: s) ts) : StW ((q ++ [procD r]) :: s) (ts ++ [[125]]) := by
  cases h with
  | more h hk g =>
    cases g with
    | one g =>
      rename_i k _
      have hk : k = 19 := by simp at hk; omega
      subst hk
      have := StW.one (g.snoc (show ItW 20 (procD r) _ from .inr ⟨_, _, h, rfl, rfl⟩))
      rw [List.flatten_append] at this
      simpa using this
    | more g gk r' =>
      rename_i k _ _ k'
      have e : k' = k + 1 := by simp at hk; omega
      subst e
      have := StW.more (g.snoc (show ItW (k + 1) (procD r) _ from .inr ⟨_, _, h, rfl, rfl⟩)) gk r'
      rw [List.flatten_append] at this
      simpa using this
/-- a token of a row -/
def TokW (w : List Nat) : Prop := w = [123] ∨ w = [125] ∨ Leaf w
/-- a token of the law's own -/
def ltD (w : List Nat) : D := .lst [sd (kindL w), sd w, if w = [123] ∨ w = [125] then .tup [] else itemL w]
section
variable {w : List Nat} {k : Nat} {r : List D} {o : Option D} {e : Env}
@[simp] theorem rs_lt : rs e (ltD w) = ltD w := rfl
@[simp] theorem rsB_lt : rsB e (ltD w) = ltD w := rfl
@[simp] theorem sh_lt : isSh (ltD w) = true := rfl
@[simp] theorem see_lt : seeD k (ltD w) = ltD w := rfl
@[simp] theorem noOwn_lt : noOwn (ltD w) = true := rfl
@[simp] theorem isAl_lt : isAl k (ltD w) = false := rfl
@[simp] theorem notAl_lt : notAl (ltD w) = true := rfl
@[simp] theorem shOnly_lt : shOnly (ltD w) = some (ltD w) := rfl
@[simp] theorem lt_ix {i : Int} : dIdx (ltD w) (.int i) = (atI [sd (kindL w), sd w, if w = [123] ∨ w = [125] then .tup [] else itemL w] i).bind shOnly := rfl
@[simp] theorem rs_item : rs e (itemL w) = itemL w := by
  unfold itemL
  split
  · rfl
  · split <;> rfl
@[simp] theorem shOnly_item : shOnly (itemL w) = some (itemL w) := by
  unfold shOnly
  rw [item_sh]
  rfl
@[simp] theorem sh_item : isSh (itemL w) = true := item_sh w
end
theorem StW.step {st st' : List (List D)} {ts : List (List Nat)} {w : List Nat} (h : StW st ts) (hw : TokW w) (e : stp st w = some st') : StW st' (ts ++ [w]) := by
  unfold stp at e
  rcases hw with rfl | rfl | hw
  · rw [if_pos rfl] at e
    split at e
    · cases e
      exact h.open (by assumption)
    · cases e
  · rw [if_neg (by decide), if_pos rfl] at e
    split at e
    · cases e
      exact h.close
    · cases e
  · rw [if_neg hw.no.1, if_neg hw.no.2] at e
    split at e
    · cases e
      exact h.leaf hw
    · cases e
theorem StW.run : ∀ {ws : List (List Nat)} {st st' : List (List D)} {ts : List (List Nat)}, StW st ts → (∀ w ∈ ws, TokW w) → rdS st ws = some st' → StW st' (ts ++ ws)
  | [], st, st', ts, h, _, e => by
    cases e
    rw [List.append_nil]
    exact h
  | w :: ws, st, st', ts, h, hw, e => by
    rw [rdS] at e
    cases q : stp st w with
    | none =>
      rw [q] at e
      cases e
    | some s1 =>
      rw [q, Option.bind_some] at e
      have := StW.run (h.step (hw w (List.mem_cons_self ..)) q) (fun x m => hw x (List.mem_cons_of_mem _ m)) e
      rw [List.append_assoc] at this
      exact this
/-- the items of a row of tokens -/
theorem read_its {ws : List (List Nat)} {ds : List D} (hw : ∀ w ∈ ws, TokW w) (e : rdS [[]] ws = some [ds]) : ∃ tss, All2 (ItW 20) ds tss ∧ tss.flatten = ws := by
  have h := StW.run (StW.one (ds := []) (tss := []) .nil) hw e
  generalize hz : ([] : List (List (List Nat))).flatten ++ ws = z at h
  cases h with
  | one h => exact ⟨_, h, by rw [← hz]; rfl⟩
  | more h hk r => cases r
end DL
end

section
set_option maxRecDepth 100000
set_option maxHeartbeats 1000000
/-! written texts, scanned; items compared; texts that are no numbers -/
namespace DL
open PySem L2
def scanT (t : List Nat) : Scan := t.foldl stepC scan0
theorem toksL_eq (t : List Nat) : toksL t = flush (scanT t) := rfl
theorem scanT_app (t u : List Nat) : scanT (t ++ u) = u.foldl stepC (scanT t) := List.foldl_append
theorem scanT_place (t : List Nat) : (scanT t).place = t.length := (scan_ok t).at_
def Blk (b : List Nat) : Prop := ∀ c ∈ b, c = 32 ∨ c = 10
theorem step_blk {s : Scan} {c : Nat} (h : c = 32 ∨ c = 10) : flush (stepC s c) = flush s ∧ (stepC s c).pend = [] := by
  have m : c ∈ sepL := by
    unfold sepL
    simp
    omega
  have k : ¬(c = 123 ∨ c = 125) := by omega
  unfold stepC
  rw [if_pos m, if_neg k, List.append_nil]
  exact ⟨if_pos rfl, rfl⟩
theorem fold_blk : ∀ (b : List Nat) (s : Scan), Blk b → flush (b.foldl stepC s) = flush s ∧ ((b ≠ [] ∨ s.pend = []) → (b.foldl stepC s).pend = [])
  | [], s, _ => ⟨rfl, fun h => by
    rcases h with h | h
    · exact absurd rfl h
    · exact h⟩
  | c :: b, s, h => by
    obtain ⟨h1, h2⟩ := step_blk (s := s) (h c (List.mem_cons_self ..))
    obtain ⟨k1, k2⟩ := fold_blk b (stepC s c) fun x m => h x (List.mem_cons_of_mem _ m)
    exact ⟨k1.trans h1, fun _ => k2 (.inr h2)⟩
theorem fold_word : ∀ (w : List Nat) (s : Scan), (∀ c ∈ w, c ∉ sepL) → w.foldl stepC s = ⟨s.found, s.pend ++ w, s.place + w.length⟩
  | [], s, _ => by
    rw [List.append_nil]
    rfl
  | c :: w, s, h => by
    have e : stepC s c = ⟨s.found, s.pend ++ [c], s.place + 1⟩ := if_neg (h c (List.mem_cons_self ..))
    rw [List.foldl_cons, e, fold_word w _ fun x m => h x (List.mem_cons_of_mem _ m), List.append_assoc, List.length_cons]
    have z : s.place + 1 + w.length = s.place + (w.length + 1) := by omega
    show (⟨s.found, s.pend ++ ([c] ++ w), s.place + 1 + w.length⟩ : Scan) = _
    rw [z]
    rfl
theorem tok_blk {t b : List Nat} (hb : Blk b) : toksL (t ++ b) = toksL t ∧ ((b ≠ [] ∨ (scanT t).pend = []) → (scanT (t ++ b)).pend = []) := by
  rw [toksL_eq, toksL_eq, scanT_app]
  exact fold_blk b (scanT t) hb
theorem step_brace {s : Scan} {c : Nat} (h : c = 123 ∨ c = 125) : flush (stepC s c) = flush s ++ [([c], s.place)] ∧ (stepC s c).pend = [] := by
  have m : c ∈ sepL := by
    unfold sepL
    simp
    omega
  unfold stepC
  rw [if_pos m, if_pos h]
  exact ⟨if_pos rfl, rfl⟩
theorem tok_add {t w : List Nat} (hw : TokW w) (h : (scanT t).pend = [] ∨ w = [123] ∨ w = [125]) : toksL (t ++ w) = toksL t ++ [(w, t.length)] ∧ ((w = [123] ∨ w = [125]) → (scanT (t ++ w)).pend = []) := by
  have brace : ∀ c, (c = 123 ∨ c = 125) → toksL (t ++ [c]) = toksL t ++ [([c], t.length)] ∧ (scanT (t ++ [c])).pend = [] := fun c hc => by
    rw [toksL_eq, toksL_eq, scanT_app]
    have := step_brace (s := scanT t) hc
    rw [scanT_place] at this
    exact this
  rcases hw with rfl | rfl | hw
  · exact ⟨(brace 123 (.inl rfl)).1, fun _ => (brace 123 (.inl rfl)).2⟩
  · exact ⟨(brace 125 (.inr rfl)).1, fun _ => (brace 125 (.inr rfl)).2⟩
  · have no := hw.no
    have hp : (scanT t).pend = [] := by
      rcases h with h | h | h
      · exact h
      · exact absurd h no.1
      · exact absurd h no.2
    refine ⟨?_, fun z => ?_⟩
    · rw [toksL_eq, toksL_eq, scanT_app, fold_word w _ fun c m => hw.sep m]
      unfold flush
      rw [hp, List.nil_append, if_pos rfl, if_neg hw.ne, scanT_place]
      dsimp only
      congr 3
      omega
    · rcases z with z | z
      · exact absurd z no.1
      · exact absurd z no.2
theorem toks_join : ∀ (ws : List (List Nat)) (t : List Nat), (∀ w ∈ ws, TokW w) → (scanT t).pend = [] → (toksL (t ++ TL.joinL [32] ws)).map (·.1) = (toksL t).map (·.1) ++ ws
  | [], t, _, _ => by
    show (toksL (t ++ [])).map _ = _
    rw [List.append_nil, List.append_nil]
  | [w], t, hw, hp => by
    show (toksL (t ++ w)).map _ = _
    rw [(tok_add (hw w (List.mem_cons_self ..)) (.inl hp)).1, List.map_append]
    rfl
  | w :: v :: r, t, hw, hp => by
    show (toksL (t ++ (w ++ ([32] ++ TL.joinL [32] (v :: r))))).map _ = _
    have e : t ++ (w ++ ([32] ++ TL.joinL [32] (v :: r))) = ((t ++ w) ++ [32]) ++ TL.joinL [32] (v :: r) := by simp
    have hb : Blk [32] := fun c m => .inl (List.mem_singleton.mp m)
    obtain ⟨b1, b2⟩ := tok_blk (t := t ++ w) hb
    rw [e, toks_join (v :: r) _ (fun x m => hw x (List.mem_cons_of_mem _ m)) (b2 (.inl (by simp))), b1, (tok_add (hw w (List.mem_cons_self ..)) (.inl hp)).1, List.map_append]
    simp
theorem toks_joined {ws : List (List Nat)} (hw : ∀ w ∈ ws, TokW w) : (toksL (TL.joinL [32] ws)).map (·.1) = ws := toks_join ws [] hw rfl
theorem join_len : ∀ ws : List (List Nat), (TL.joinL [32] ws).length ≤ (ws.map List.length).sum + ws.length
  | [] => by simp [TL.joinL]
  | [w] => by simp [TL.joinL]
  | w :: v :: r => by
    have := join_len (v :: r)
    show (w ++ ([32] ++ TL.joinL [32] (v :: r))).length ≤ _
    simp at this ⊢
    omega
theorem TokW.len {w : List Nat} (h : TokW w) : w.length ≤ 50 := by
  rcases h with rfl | rfl | h
  · decide
  · decide
  · exact h.len.2
theorem sum_len : ∀ {ws : List (List Nat)}, (∀ w ∈ ws, TokW w) → (ws.map List.length).sum ≤ 50 * ws.length
  | [], _ => by simp
  | w :: ws, h => by
    have h1 := (h w (List.mem_cons_self ..)).len
    have h2 := sum_len (ws := ws) fun x m => h x (List.mem_cons_of_mem _ m)
    rw [List.map_cons, List.sum_cons, List.length_cons]
    omega
/-! ### items, compared with themselves -/
theorem Leaf.small {w : List Nat} {c : Nat} (h : Leaf w) (m : c ∈ w) : c < 128 := by
  cases h with
  | num h =>
    have := num_sign m
    omega
  | name h =>
    rcases List.mem_cons.mp m with m | m
    · omega
    · have := name_sign h m
      omega
  | word h =>
    have := name_sign h m
    omega
  | op => simp at m; omega
  | cl => simp at m; omega
/-- data that can be compared, at most n deep -/
def Cmp (n : Nat) (d : D) : Prop := ∃ p, toPy d = some p ∧ p.canLay0 = true ∧ p.depth ≤ n ∧ PyData.eqv p p = true
def Cmps (n : Nat) (ds : List D) : Prop := ∃ ps, toPys ds = some ps ∧ PyData.canLayAll0 ps = true ∧ PyData.depthAll ps ≤ n ∧ PyData.eqvAll ps ps = true
theorem Cmps.nil {n : Nat} : Cmps n [] := ⟨[], by rw [toPys], by simp only [PyData.canLayAll0], by simp only [PyData.depthAll]; omega, by simp only [PyData.eqvAll]⟩
theorem Cmps.cons {n : Nat} {d : D} {ds : List D} (h : Cmp n d) (r : Cmps n ds) : Cmps n (d :: ds) := by
  obtain ⟨p, h1, h2, h3, h4⟩ := h
  obtain ⟨ps, r1, r2, r3, r4⟩ := r
  refine ⟨p :: ps, by rw [toPys, h1, r1]; rfl, ?_, ?_, ?_⟩
  · simp only [PyData.canLayAll0, h2, r2, Bool.and_self]
  · simp only [PyData.depthAll]
    omega
  · simp only [PyData.eqvAll, h4, r4, Bool.and_self]
theorem Cmps.tup {n : Nat} {ds : List D} (h : Cmps n ds) : Cmp (n + 1) (.tup ds) := by
  obtain ⟨ps, h1, h2, h3, h4⟩ := h
  refine ⟨.tuple ps, by rw [toPy, h1]; rfl, ?_, ?_, ?_⟩
  · simp only [PyData.canLay0, h2]
  · simp only [PyData.depth]
    omega
  · simp only [PyData.eqv, h4]
theorem Cmp.int {n : Nat} {i : Int} : Cmp n (.int i) := ⟨.int i, by rw [toPy], by simp only [PyData.canLay0], by simp only [PyData.depth]; omega, by simp only [PyData.eqv, beq_self_eq_true]⟩
theorem Cmp.sd {n : Nat} {w : List Nat} (h : ∀ c ∈ w, c < 128) : Cmp n (sd w) := by
  refine ⟨.str ⟨w.toArray⟩, ?_, ?_, ?_, ?_⟩
  · unfold DL.sd
    rw [toPy]
  · simp only [PyData.canLay0, PyData.strOk]
    rw [Array.all_eq_true]
    intro i hi
    simp at hi
    have := h _ (List.getElem_mem hi)
    simp
    omega
  · simp only [PyData.depth]
    omega
  · simp only [PyData.eqv, beq_self_eq_true]
theorem Cmp.mono {m n : Nat} {d : D} (h : Cmp m d) (k : m ≤ n) : Cmp n d := by
  obtain ⟨p, h1, h2, h3, h4⟩ := h
  exact ⟨p, h1, h2, by omega, h4⟩
theorem Cmp.item {w : List Nat} (h : Leaf w) : Cmp 2 (itemL w) := by
  have two : ∀ (k : List Nat) (d : D), (∀ c ∈ k, c < 128) → Cmp 1 d → Cmp 2 (.tup [DL.sd k, d]) := fun k d hk hd => Cmps.tup (.cons (.sd hk) (.cons hd .nil))
  have kn : ∀ c ∈ kNum, c < 128 := by decide
  have ka : ∀ c ∈ kName, c < 128 := by decide
  have kw : ∀ c ∈ kWord, c < 128 := by decide
  cases h with
  | num h =>
    rw [item_num h]
    exact two _ _ kn (Cmps.tup (.cons .int (.cons .int (.cons .int .nil))))
  | name h =>
    rw [item_name h]
    exact two _ _ ka (.sd fun c m => (Leaf.name h).small (List.mem_cons_of_mem _ m))
  | word h =>
    rw [item_of (kind_word h)]
    exact two _ _ kw (.sd fun c m => (Leaf.word h).small m)
  | op =>
    rw [item_of (w := [91]) rfl]
    exact two _ _ kw (.sd (by decide))
  | cl =>
    rw [item_of (w := [93]) rfl]
    exact two _ _ kw (.sd (by decide))
theorem cmps_all {n : Nat} {α : Type} {R : D → α → Prop} (f : ∀ d a, R d a → Cmp n d) : ∀ {ds : List D} {as : List α}, All2 R ds as → Cmps n ds
  | _, _, .nil => .nil
  | _, _, .cons h r => .cons (f _ _ h) (cmps_all f r)
theorem Cmp.it : ∀ (k : Nat) (d : D) (ts : List (List Nat)), ItW k d ts → Cmp (2 + 2 * k) d
  | 0, _, _, ⟨w, hw, e, _⟩ => by
    subst e
    exact Cmp.item hw
  | k + 1, _, _, .inl ⟨w, hw, e, _⟩ => by
    subst e
    exact (Cmp.item hw).mono (by omega)
  | k + 1, _, _, .inr ⟨ds, tss, h, e, _⟩ => by
    subst e
    have kp : ∀ c ∈ kProc, c < 128 := by decide
    have h1 : Cmp (2 + 2 * k + 1) (.tup ds) := Cmps.tup (cmps_all (fun d ts => Cmp.it k d ts) h)
    have := Cmps.tup (.cons (n := 2 + 2 * k + 1) (.sd kp) (.cons h1 .nil))
    exact this
theorem eq_self {d : D} (h : Cmp 64 d) (hs : dEqS d d = none) (hp : pyOf d = toPy d) : dEq d d = some (.bl true) ∧ dNe d d = some (.bl false) := by
  obtain ⟨p, h1, h2, h3, h4⟩ := h
  have sh : SeqAt.shaped p = true := Bool.and_eq_true_iff.mpr ⟨h2, decide_eq_true h3⟩
  rw [← hp] at h1
  exact ⟨by rw [eq_of_py hs h1 h1 sh sh, h4], by rw [ne_of_py hs h1 h1 sh sh, h4]; rfl⟩
theorem eq_made {ds : List D} {tss : List (List (List Nat))} (h : All2 (ItW 20) ds tss) : dEq (.tup ds) (.tup ds) = some (.bl true) ∧ dNe (.tup ds) (.tup ds) = some (.bl false) :=
  eq_self ((Cmps.tup (cmps_all (fun d ts => Cmp.it 20 d ts) h)).mono (by omega)) rfl rfl
end DL
end

section
set_option maxRecDepth 100000
set_option maxHeartbeats 1000000
/-! texts that are no numbers -/
namespace DL
open PySem L2
def NoD (c : Nat) : Prop := ¬(48 ≤ c ∧ c ≤ 57)
theorem dv_bad {l : List Nat} {c : Nat} (m : c ∈ l) (h : NoD c) : dvO l = none := by
  unfold dvO
  refine if_neg fun z => ?_
  have := List.all_eq_true.mp z.2.2 c m
  exact h (by simpa [isDg] using this)
theorem dv_nil : dvO [] = none := rfl
theorem dv_zero {l : List Nat} (h : l ≠ []) : dvO (48 :: l) = none := by
  unfold dvO
  refine if_neg fun z => z.2.1 ⟨rfl, fun e => h (by simpa using e)⟩
theorem dv_long {l : List Nat} (h : 24 < l.length) : dvO l = none := by
  unfold dvO
  refine if_neg fun z => ?_
  have := z.1.2
  omega
theorem sgn_none {p : List Nat} (h1 : p.take 1 = [45] → dvO p.tail = none) (h2 : p.take 1 ≠ [45] → dvO p = none) : sgnO p = none := by
  unfold sgnO
  split
  · rw [h1 (by assumption)]
    rfl
  · rw [h2 (by assumption)]
    rfl
theorem take_cons {c d : Nat} {r : List Nat} : ((c :: r).take 1 = [d]) = (c = d) := by simp
/-- the parts of a text: what stands ahead of the first slash is no number -/
theorem tn_head {u : List Nat} (h : ∀ p, (p = u ∨ ∃ q, u = p ++ 47 :: q) → 47 ∉ p → sgnO p = none) : tnO u = none := by
  unfold tnO
  cases e : TL.par [47] [] u with
  | none =>
    dsimp only
    rw [h u (.inl rfl) (par_no u [] e)]
    rfl
  | some t =>
    obtain ⟨p, q⟩ := t
    obtain ⟨v, h1, h2, h3⟩ := par_some _ _ _ _ e
    rw [List.nil_append] at h1
    subst h1
    dsimp only
    rw [h p (.inr ⟨q, h2⟩) h3]
    rfl
/-- a first sign that is no digit and no minus -/
theorem tn_first {c : Nat} {r : List Nat} (h : NoD c) (k : c ≠ 45) : tnO (c :: r) = none := tn_head fun p hp hs => by
  have : p = [] ∨ ∃ p', p = c :: p' := by
    rcases hp with rfl | ⟨q, e⟩
    · exact .inr ⟨r, rfl⟩
    · cases p with
      | nil => exact .inl rfl
      | cons a p' =>
        rw [List.cons_append] at e
        injection e with e1 e2
        exact .inr ⟨p', by rw [e1]⟩
  rcases this with rfl | ⟨p', rfl⟩
  · exact sgn_none (fun z => by simp at z) fun _ => dv_nil
  · exact sgn_none (fun z => by rw [take_cons] at z; exact absurd z k) fun _ => dv_bad (List.mem_cons_self ..) h
theorem tn_nil : tnO [] = none := rfl
/-- a later sign that is no digit and no slash -/
theorem tn_in {a b : List Nat} {c : Nat} (ha : a ≠ []) (h : NoD c) (k : c ≠ 47) : tnO (a ++ c :: b) = none := by
  have bad : ∀ p : List Nat, (∃ x y, p = x ++ c :: y ∧ x ≠ []) → sgnO p = none := fun p ⟨x, y, e, hx⟩ => by
    subst e
    refine sgn_none (fun _ => ?_) fun _ => dv_bad (c := c) (by simp) h
    cases x with
    | nil => exact absurd rfl hx
    | cons d x => exact dv_bad (c := c) (by simp) h
  unfold tnO
  cases e : TL.par [47] [] (a ++ c :: b) with
  | none =>
    dsimp only
    rw [bad _ ⟨a, b, rfl, ha⟩]
    rfl
  | some t =>
    obtain ⟨p, q⟩ := t
    obtain ⟨v, h1, h2, h3⟩ := par_some _ _ _ _ e
    rw [List.nil_append] at h1
    subst h1
    dsimp only
    rcases List.append_eq_append_iff.mp h2 with ⟨z, e1, e2⟩ | ⟨z, e1, e2⟩
    · cases z with
      | nil =>
        rw [List.nil_append] at e2
        injection e2 with e3 e4
        exact absurd e3 k
      | cons d z =>
        rw [List.cons_append] at e2
        injection e2 with e3 e4
        subst e3
        rw [bad p ⟨a, z, e1, ha⟩]
        rfl
    · cases z with
      | nil =>
        rw [List.nil_append] at e2
        injection e2 with e3 e4
        exact absurd e3.symm k
      | cons d z =>
        rw [List.cons_append] at e2
        injection e2 with e3 e4
        have : dvO q = none := dv_bad (c := c) (by rw [e4]; simp) h
        rw [this]
        cases sgnO p <;> rfl
/-- what stands behind the first slash is no number, or below 2 -/
theorem tn_tail {u q : List Nat} (hu : 47 ∉ u) (h : ∀ d, dvO q = some d → d < 2) : tnO (u ++ 47 :: q) = none := by
  unfold tnO
  rw [par_free u [] q hu, List.nil_append]
  dsimp only
  cases sgnO u with
  | none => rfl
  | some n =>
    rw [Option.bind_some]
    cases e : dvO q with
    | none => rfl
    | some d =>
      rw [Option.bind_some, if_pos (.inl (h d e))]
theorem tn_slash {l : List Nat} : tnO (l ++ [47]) = none := by
  by_cases h : 47 ∈ l
  · obtain ⟨a, b, rfl, ha⟩ := List.append_of_mem h |>.elim fun s => fun ⟨t, e⟩ => (⟨s, t, e, trivial⟩ : ∃ a b, l = a ++ 47 :: b ∧ True)
    unfold tnO
    rw [List.append_assoc, List.cons_append]
    cases e : TL.par [47] [] (a ++ 47 :: (b ++ [47])) with
    | none => exact absurd (par_no _ _ e) (by simp)
    | some t =>
      obtain ⟨p, q⟩ := t
      obtain ⟨v, h1, h2, h3⟩ := par_some _ _ _ _ e
      rw [List.nil_append] at h1
      subst h1
      dsimp only
      have : 47 ∈ q := by
        have e1 : (p ++ 47 :: q).count 47 = (a ++ 47 :: (b ++ [47])).count 47 := by rw [h2]
        rw [List.count_append, List.count_append, List.count_cons_self, List.count_cons_self, List.count_append, List.count_eq_zero_of_not_mem h3] at e1
        have : ([47] : List Nat).count 47 = 1 := rfl
        exact List.count_pos_iff.mp (by omega)
      rw [dv_bad this (by unfold NoD; omega)]
      cases sgnO p <;> rfl
  · exact tn_tail h fun d e => by cases e
theorem tn_zero {c : Nat} {r : List Nat} (h : c ≠ 47) : tnO (48 :: c :: r) = none := tn_head fun p hp hs => by
  have : p = [] ∨ p = [48] ∨ ∃ p', p = 48 :: c :: p' := by
    rcases hp with rfl | ⟨q, e⟩
    · exact .inr (.inr ⟨r, rfl⟩)
    · cases p with
      | nil => exact .inl rfl
      | cons a p' =>
        rw [List.cons_append] at e
        injection e with e1 e2
        subst e1
        cases p' with
        | nil => exact .inr (.inl rfl)
        | cons b p'' =>
          rw [List.cons_append] at e2
          injection e2 with e3 e4
          exact .inr (.inr ⟨p'', by rw [e3]⟩)
  have hp48 : p ≠ [48] := fun e => by
    subst e
    rcases hp with e | ⟨q, e⟩
    · cases e
    · simp at e
      exact h e.1
  rcases this with rfl | rfl | ⟨p', rfl⟩
  · exact sgn_none (fun z => by simp at z) fun _ => dv_nil
  · exact absurd rfl hp48
  · exact sgn_none (fun z => by rw [take_cons] at z; cases z) fun _ => dv_zero (by simp)
theorem tn_mzero {c : Nat} {r : List Nat} (h : c ≠ 47) : tnO (45 :: 48 :: c :: r) = none := tn_head fun p hp hs => by
  have : (∃ p', p = 45 :: 48 :: c :: p') ∨ p = [] ∨ p = [45] ∨ p = [45, 48] := by
    rcases hp with rfl | ⟨q, e⟩
    · exact .inl ⟨r, rfl⟩
    · match p, e with
      | [], _ => exact .inr (.inl rfl)
      | [a], e => simp at e
      | [a, b], e => simp at e; exact .inr (.inr (.inr (by rw [← e.1, ← e.2.1])))
      | a :: b :: d :: p', e => simp at e; exact .inl ⟨p', by rw [← e.1, ← e.2.1, ← e.2.2.1]⟩
  rcases this with ⟨p', rfl⟩ | rfl | rfl | rfl
  · exact sgn_none (fun _ => dv_zero (by simp)) fun z => absurd rfl z
  · rfl
  · rfl
  · rfl
/-- a row of more than 24 digits -/
theorem tn_long {s : List Nat} (h : 24 < s.length) (k : DigL s) : tnO s = none ∧ tnO (45 :: s) = none := by
  have ns : 47 ∉ s := fun m => by
    have := k 47 m
    omega
  have nt : s.take 1 ≠ [45] := fun e => by
    have : 45 ∈ s := List.mem_of_mem_take (by rw [e]; simp)
    have := k 45 this
    omega
  constructor
  · unfold tnO
    rw [par_none ns]
    dsimp only
    rw [sgn_none (fun z => absurd z nt) fun _ => dv_long h]
    rfl
  · unfold tnO
    rw [par_none (by simp [ns])]
    dsimp only
    have q : sgnO (45 :: s) = none := sgn_none (p := 45 :: s) (fun _ => dv_long h) (fun z => absurd rfl z)
    rw [q]
    rfl
/-- a fraction that is not in the lowest form -/
theorem tn_gcd {n : Int} {d f : Nat} (hf : 2 ≤ f) (h1 : f ∣ n.natAbs) (h2 : f ∣ d) (hn : n.natAbs < 10 ^ 24) (hd : d < 10 ^ 24) : tnO (strI n ++ 47 :: TL.numL d) = none := by
  unfold tnO
  rw [par_free _ _ _ no_slash, List.nil_append]
  dsimp only
  rw [sgn_str hn, Option.bind_some, dv_num hd, Option.bind_some, if_pos]
  refine .inr fun e => ?_
  have := Nat.dvd_gcd h1 h2
  rw [e] at this
  have := Nat.le_of_dvd (by decide) this
  omega
end DL
end

section
set_option maxRecDepth 100000
set_option maxHeartbeats 1000000
/-! the law's own reading of a row of tokens, as a plain machine -/
namespace DL
open PySem L2
/-- rows, path, open ones: innermost first -/
structure RD where
  st : List (List D)
  ps : List Int
  sp : List D
  wd : List D
  sn : List (Int × Int)
  lf : List Nat
def rd0 : RD := ⟨[[]], [0], [], [], [], []⟩
def pathD (ps : List Int) : D := tI ps.reverse
section
variable {ps : List Int} {k : Nat} {e : Env}
@[simp] theorem rs_path : rs e (pathD ps) = pathD ps := rfl
@[simp] theorem sh_path : isSh (pathD ps) = true := rfl
@[simp] theorem shOnly_path : shOnly (pathD ps) = some (pathD ps) := rfl
end
def stepR (k : Nat) (s : RD) (w : List Nat) : RD := if w = [123] then ⟨[] :: s.st, 0 :: s.ps, s.sp ++ [pathD s.ps], s.wd ++ [.tup []], s.sn ++ [((k : Int), (k : Int) + 1)], s.wd.length :: s.lf⟩
  else if w = [125] then (match s.st, s.ps, s.lf with
    | r :: q :: t, _ :: z :: ps, x :: lf => ⟨(q ++ [procD r]) :: t, (z + 1) :: ps, s.sp, s.wd.set x (procD r), s.sn.set x ((s.sn.getD x (0, 0)).1, (k : Int) + 1), lf⟩
    | _, _, _ => s)
  else (match s.st, s.ps with
    | r :: t, z :: ps => ⟨(r ++ [itemL w]) :: t, (z + 1) :: ps, s.sp ++ [pathD s.ps], s.wd ++ [itemL w], s.sn ++ [((k : Int), (k : Int) + 1)], s.lf⟩
    | _, _ => s)
def foldR : Nat → RD → List (List Nat) → RD
  | _, s, [] => s
  | k, s, w :: ws => foldR (k + 1) (stepR k s w) ws
theorem foldR_snoc : ∀ (ws : List (List Nat)) (k : Nat) (s : RD) (w : List Nat), foldR k s (ws ++ [w]) = stepR (k + ws.length) (foldR k s ws) w
  | [], k, s, w => rfl
  | v :: ws, k, s, w => by
    rw [List.cons_append, foldR, foldR_snoc ws (k + 1), foldR, List.length_cons]
    have z : k + 1 + ws.length = k + (ws.length + 1) := by omega
    rw [z]
structure RdOk (k : Nat) (s : RD) : Prop where
  ne : s.st ≠ []
  ps : s.ps.length = s.st.length
  lf : s.lf.length + 1 = s.st.length
  sp : (s.sp.all isSh) = true
  wd : (s.wd.all isSh) = true
  sn : s.sn.length = s.wd.length
  spn : s.sp.length = s.wd.length
  few : s.wd.length ≤ k
  ix : ∀ x ∈ s.lf, x < s.wd.length
theorem RdOk.init : RdOk 0 rd0 := ⟨by simp [rd0], rfl, rfl, rfl, rfl, rfl, rfl, Nat.le_refl _, by simp [rd0]⟩
theorem all_snoc {xs : List D} {x : D} (h : (xs.all isSh) = true) (k : isSh x = true) : ((xs ++ [x]).all isSh) = true := by
  rw [List.all_append, h]
  simp [k]
theorem all_set {xs : List D} {x : D} {i : Nat} (h : (xs.all isSh) = true) (k : isSh x = true) : ((xs.set i x).all isSh) = true := by
  rw [List.all_eq_true] at h ⊢
  intro y m
  rcases List.mem_or_eq_of_mem_set m with m | rfl
  · exact h y m
  · exact k
theorem RdOk.step {k : Nat} {s : RD} {w : List Nat} {st' : List (List D)} (h : RdOk k s) (hw : TokW w) (e : stp s.st w = some st') : RdOk (k + 1) (stepR k s w) ∧ (stepR k s w).st = st' := by
  obtain ⟨st, ps, sp, wd, sn, lf⟩ := s
  obtain ⟨h1, h2, h3, h4, h5, h6, h6', h7, h8⟩ := h
  dsimp only at *
  unfold stp at e
  unfold stepR
  rcases hw with rfl | rfl | hw
  · rw [if_pos rfl] at e ⊢
    split at e
    · cases e
      refine ⟨⟨by simp, by simp [h2], by simp; omega, all_snoc h4 rfl, all_snoc h5 rfl, by simp [h6], by simp [h6'], by simp; omega, ?_⟩, rfl⟩
      intro x m
      dsimp only at m ⊢
      rw [List.length_append, List.length_singleton]
      rcases List.mem_cons.mp m with rfl | m
      · omega
      · have := h8 x m
        omega
    · cases e
  · rw [if_neg (by decide), if_pos rfl] at e ⊢
    split at e
    · rename_i r q t
      cases e
      match ps, lf, h2, h3, h8 with
      | _ :: z :: ps, x :: lf, h2, h3, h8 =>
        refine ⟨⟨by simp, by simpa using h2, by simpa using h3, h4, all_set h5 rfl, by simp [h6], by simp [h6'], by simp; omega, ?_⟩, rfl⟩
        intro y m
        dsimp only at m ⊢
        rw [List.length_set]
        exact h8 y (List.mem_cons_of_mem _ m)
      | [], _, h2, _, _ => simp at h2
      | [_], _, h2, _, _ => simp at h2
      | _ :: _ :: _, [], _, h3, _ => simp at h3
    · cases e
  · rw [if_neg hw.no.1, if_neg hw.no.2] at e ⊢
    split at e
    · rename_i r t
      cases e
      match ps, h2 with
      | z :: ps, h2 =>
        refine ⟨⟨by simp, by simpa using h2, by simpa using h3, all_snoc h4 rfl, all_snoc h5 (item_sh w), by simp [h6], by simp [h6'], by simp; omega, ?_⟩, rfl⟩
        intro x m
        dsimp only at m ⊢
        rw [List.length_append, List.length_singleton]
        have := h8 x m
        omega
      | [], h2 => simp at h2
    · cases e
theorem RdOk.fold : ∀ (ws : List (List Nat)) (k : Nat) (s : RD) (st' : List (List D)), RdOk k s → (∀ w ∈ ws, TokW w) → rdS s.st ws = some st' → RdOk (k + ws.length) (foldR k s ws) ∧ (foldR k s ws).st = st'
  | [], k, s, st', h, _, e => by
    cases e
    exact ⟨h, rfl⟩
  | w :: ws, k, s, st', h, hw, e => by
    rw [rdS] at e
    cases q : stp s.st w with
    | none => rw [q] at e; cases e
    | some s1 =>
      rw [q, Option.bind_some] at e
      obtain ⟨h1, h2⟩ := h.step (hw w (List.mem_cons_self ..)) q
      have := RdOk.fold ws (k + 1) (stepR k s w) st' h1 (fun x m => hw x (List.mem_cons_of_mem _ m)) (by rw [h2]; exact e)
      rw [foldR, List.length_cons]
      have z : k + 1 + ws.length = k + (ws.length + 1) := by omega
      rw [z] at this
      exact this
/-- the state ahead of token i -/
def readAt (ws : List (List Nat)) (i : Nat) : RD := foldR 0 rd0 (ws.take i)
theorem rdS_take {ws : List (List Nat)} {st st' : List (List D)} {i : Nat} {w : List Nat} (h : rdS st ws = some st') (hw : ws[i]? = some w) : ∃ s1 s2, rdS st (ws.take i) = some s1 ∧ stp s1 w = some s2 := by
  have e : ws = ws.take i ++ w :: ws.drop (i + 1) := by
    have := List.getElem?_eq_some_iff.mp hw
    obtain ⟨hi, rfl⟩ := this
    rw [← List.drop_eq_getElem_cons hi, List.take_append_drop]
  have h2 := h
  rw [e, rdS_app] at h2
  cases q : rdS st (ws.take i) with
  | none => rw [q] at h2; cases h2
  | some s1 =>
    rw [q, Option.bind_some, rdS] at h2
    cases q2 : stp s1 w with
    | none => rw [q2] at h2; cases h2
    | some s2 => exact ⟨s1, s2, rfl, q2⟩
theorem readAt_succ {ws : List (List Nat)} {i : Nat} {w : List Nat} (hw : ws[i]? = some w) : readAt ws (i + 1) = stepR i (readAt ws i) w := by
  have hi := (List.getElem?_eq_some_iff.mp hw).1
  unfold readAt
  have e : ws.take (i + 1) = ws.take i ++ [w] := by
    rw [List.take_succ, hw]
    rfl
  rw [e, foldR_snoc, List.length_take, Nat.min_eq_left (by omega), Nat.zero_add]
theorem readAt_ok {ws : List (List Nat)} {st' : List (List D)} {i : Nat} {w : List Nat} (hw : ∀ w ∈ ws, TokW w) (h : rdS [[]] ws = some st') (e : ws[i]? = some w) : RdOk i (readAt ws i) ∧ ∃ s2, stp (readAt ws i).st w = some s2 := by
  obtain ⟨s1, s2, h1, h2⟩ := rdS_take h e
  have hi := (List.getElem?_eq_some_iff.mp e).1
  have := RdOk.fold (ws.take i) 0 rd0 s1 RdOk.init (fun x m => hw x (List.mem_of_mem_take m)) h1
  rw [List.length_take, Nat.min_eq_left (by omega), Nat.zero_add] at this
  exact ⟨this.1, s2, by rw [show (readAt ws i).st = s1 from this.2]; exact h2⟩
theorem readAt_end {ws : List (List Nat)} {st' : List (List D)} (hw : ∀ w ∈ ws, TokW w) (h : rdS [[]] ws = some st') : RdOk ws.length (readAt ws ws.length) ∧ (readAt ws ws.length).st = st' := by
  have := RdOk.fold ws 0 rd0 st' RdOk.init hw h
  rw [Nat.zero_add] at this
  unfold readAt
  rw [List.take_length]
  exact this
/-- no row is longer than the tokens that were read -/
theorem row_len : ∀ (ws : List (List Nat)) (st st' : List (List D)) (m : Nat), (∀ r ∈ st, (r.all isSh) = true ∧ r.length ≤ m) → (∀ w ∈ ws, TokW w) → rdS st ws = some st' → ∀ r ∈ st', (r.all isSh) = true ∧ r.length ≤ m + ws.length
  | [], st, st', m, h, _, e => by
    cases e
    exact h
  | w :: ws, st, st', m, h, hw, e => by
    rw [rdS] at e
    cases q : stp st w with
    | none => rw [q] at e; cases e
    | some s1 =>
      rw [q, Option.bind_some] at e
      have h1 : ∀ r ∈ s1, (r.all isSh) = true ∧ r.length ≤ m + 1 := by
        unfold stp at q
        split at q
        · split at q
          · cases q
            intro r mr
            rcases List.mem_cons.mp mr with rfl | mr
            · exact ⟨rfl, by simp⟩
            · have := h r mr
              exact ⟨this.1, by omega⟩
          · cases q
        · split at q
          · split at q
            · rename_i r q' s
              cases q
              intro x mx
              rcases List.mem_cons.mp mx with rfl | mx
              · have := h q' (by simp)
                exact ⟨all_snoc this.1 rfl, by simp; omega⟩
              · have := h x (by simp [mx])
                exact ⟨this.1, by omega⟩
            · cases q
          · split at q
            · rename_i r s
              cases q
              intro x mx
              rcases List.mem_cons.mp mx with rfl | mx
              · have := h r (by simp)
                exact ⟨all_snoc this.1 (item_sh w), by simp; omega⟩
              · have := h x (by simp [mx])
                exact ⟨this.1, by omega⟩
            · cases q
      have := row_len ws s1 st' (m + 1) h1 (fun x m => hw x (List.mem_cons_of_mem _ m)) e
      intro r mr
      have := this r mr
      exact ⟨this.1, by rw [List.length_cons]; omega⟩
end DL
end

section
set_option maxRecDepth 100000
set_option maxHeartbeats 1000000
/-! raised exceptions told from behind; rows with wrong tokens; where a text is wrong first -/
namespace DL
open PySem L2
section
variable {E : Exn → Env → Prop} {Q : D → Env → Prop} {QF : Fl → Env → Prop} {e : Env}
@[simp] theorem wp_raiseN {x : Str} {fs : List Str} {f : M (List D)} : Wq E (sRaiseN x fs f e) QF = Wq E (f e) fun ds e1 => (ds.all isSh = true ∧ ds.length = fs.length ∧ ds.length ≤ 1000) ∧ E ⟨x, (fs.zip ds).reverse⟩ e1 := by
  unfold sRaiseN
  rw [wp_mbind]
  refine Wq.ext fun ds e1 => ?_
  by_cases h : ds.all isSh = true ∧ ds.length = fs.length ∧ ds.length ≤ 1000
  · rw [if_pos h]
    exact propext ⟨fun z => ⟨h, z⟩, fun z => z.2⟩
  · rw [if_neg h]
    exact propext ⟨fun z => z.elim, fun z => absurd z.1 h⟩
@[simp] theorem wp_callP {n : Nat} {F : List D → Rs D} {fs : M (List D)} : Wq E (eCallP n F fs e) Q = Wq E (fs e) fun ds e1 => Wq E (eAt n F ds e1) Q := by
  unfold eCallP
  rw [wp_mbind]
end
/-! ### words that are no tokens -/
structure BadW (w : List Nat) : Prop where
  kind : kindL w = kBad
  ne : w ≠ []
  len : w.length ≤ 60
  sep : ∀ c ∈ w, c ∉ sepL ∧ c < 128
theorem bad_of {w : List Nat} (h1 : nameOk w = false) (h2 : w.take 1 = [47] → nameOk w.tail = false) (h3 : w ≠ [91]) (h4 : w ≠ [93]) (h5 : w ≠ []) (h6 : ∀ c ∈ w, c ∉ sepL ∧ c < 128) (h7 : tnO w = none) (h8 : w.length ≤ 60) : BadW w where
  kind := by
    have n1 : w ≠ [123] := fun z => (h6 123 (by rw [z]; simp)).1 (by decide)
    have n2 : w ≠ [125] := fun z => (h6 125 (by rw [z]; simp)).1 (by decide)
    unfold kindL
    rw [if_neg n1, if_neg n2, if_neg (by rw [h1]; simp [h3, h4]), if_neg (fun z => by rw [h2 z.1] at z; exact absurd z.2 Bool.false_ne_true), h7]
    rfl
  ne := h5
  len := h8
  sep := h6
theorem no1 {c : Nat} {r : List Nat} (h : c < 97 ∨ 122 < c) : nameOk (c :: r) = false := by
  have : isLo c = false := by
    unfold isLo
    simp
    omega
  unfold nameOk
  simp [this]
theorem no2 {w : List Nat} {c : Nat} (m : c ∈ w) (h : (c < 97 ∨ 122 < c) ∧ (c < 48 ∨ 57 < c)) : nameOk w = false := by
  have k1 : isLo c = false := by
    unfold isLo
    simp
    omega
  have k2 : isDg c = false := by
    unfold isDg
    simp
    omega
  cases q : nameOk w with
  | false => rfl
  | true =>
    unfold nameOk at q
    rw [Bool.and_eq_true] at q
    have := List.all_eq_true.mp q.2 c m
    rw [k1, k2] at this
    cases this
theorem no3 {w : List Nat} (h : 8 < w.length) : nameOk w = false := by
  cases q : nameOk w with
  | false => rfl
  | true =>
    have := (name_len q).2
    omega
theorem no0 : nameOk [] = false := rfl
/-- signs of numbers alone -/
theorem bad_num {w : List Nat} (h : ∀ c ∈ w, 43 ≤ c ∧ c ≤ 57) (k : w ≠ []) (t : tnO w = none) (l : w.length ≤ 60) : BadW w := by
  have go : ∀ u : List Nat, (∀ c ∈ u, 43 ≤ c ∧ c ≤ 57) → nameOk u = false := fun u hu => by
    cases u with
    | nil => rfl
    | cons c r =>
      have := hu c (List.mem_cons_self ..)
      exact no1 (by omega)
  refine bad_of (go w h) (fun _ => go _ fun c m => h c (List.mem_of_mem_tail m)) (fun z => ?_) (fun z => ?_) k (fun c m => ?_) t l
  · have := h 91 (by rw [z]; simp)
    omega
  · have := h 93 (by rw [z]; simp)
    omega
  · have := h c m
    refine ⟨fun z => ?_, by omega⟩
    unfold sepL at z
    simp at z
    omega
/-- an odd word, with or without a slash ahead -/
theorem bad_sl {sl x : List Nat} (hs : sl = [] ∨ sl = [47]) (h1 : nameOk x = false) (h2 : x.take 1 ≠ [47]) (h3 : x ≠ [91]) (h4 : x ≠ [93]) (h5 : x ≠ []) (h6 : ∀ c ∈ x, c ∉ sepL ∧ c < 128) (h7 : tnO (sl ++ x) = none) (h8 : x.length ≤ 50) : BadW (sl ++ x) := by
  rcases hs with rfl | rfl
  · exact bad_of h1 (fun z => absurd z h2) h3 h4 h5 h6 h7 (by rw [List.nil_append]; omega)
  · refine bad_of (w := 47 :: x) (no1 (by omega)) (fun _ => h1) (by simp) (by simp) (by simp) (fun c m => ?_) h7 (by simp; omega)
    rcases List.mem_cons.mp m with m | m
    · subst m
      decide
    · exact h6 c m
/-! ### rows of them -/
def TokX (w : List Nat) : Prop := TokW w ∨ BadW w
theorem BadW.no {w : List Nat} (h : BadW w) : w ≠ [123] ∧ w ≠ [125] := ⟨fun z => (h.sep 123 (by rw [z]; simp)).1 (by decide), fun z => (h.sep 125 (by rw [z]; simp)).1 (by decide)⟩
theorem TokX.len {w : List Nat} (h : TokX w) : w.length ≤ 60 := by
  rcases h with h | h
  · have := h.len
    omega
  · exact h.len
theorem TokX.small {w : List Nat} (h : TokX w) : ∀ c ∈ w, c < 128 := fun c m => by
  rcases h with (rfl | rfl | h) | h
  · simp at m; omega
  · simp at m; omega
  · exact h.small m
  · exact (h.sep c m).2
theorem TokW.kinds {w : List Nat} (h : TokW w) : kindL w ≠ kBad := by
  rcases h with rfl | rfl | h
  · decide
  · decide
  · rcases h.kind with e | e | e <;> rw [e] <;> decide
theorem TokX.tok {w : List Nat} (h : TokX w) (k : kindL w ≠ kBad) : TokW w := by
  rcases h with h | h
  · exact h
  · exact absurd h.kind k
theorem tok_addX {t w : List Nat} (hw : TokX w) (h : (scanT t).pend = [] ∨ w = [123] ∨ w = [125]) : toksL (t ++ w) = toksL t ++ [(w, t.length)] ∧ ((w = [123] ∨ w = [125]) → (scanT (t ++ w)).pend = []) := by
  rcases hw with hw | hw
  · exact tok_add hw h
  · have no := hw.no
    have hp : (scanT t).pend = [] := h.elim (fun z => z) fun z => z.elim (fun z => absurd z no.1) fun z => absurd z no.2
    refine ⟨?_, fun z => z.elim (fun z => absurd z no.1) fun z => absurd z no.2⟩
    rw [toksL_eq, toksL_eq, scanT_app, fold_word w _ fun c m => (hw.sep c m).1]
    unfold flush
    rw [hp, List.nil_append, if_pos rfl, if_neg hw.ne, scanT_place, Nat.add_sub_cancel]
/-- a token of the law's own, a wrong one too -/
def wrtX (w : List Nat) : D := if kindL w = kBad ∨ w = [123] ∨ w = [125] then .tup [] else itemL w
def ltX (w : List Nat) : D := .lst [sd (kindL w), sd w, wrtX w]
theorem ltX_good {w : List Nat} (h : TokW w) : ltX w = ltD w := by
  unfold ltX ltD wrtX
  simp only [h.kinds, false_or]
theorem ltX_rows {ws : List (List Nat)} (h : ∀ w ∈ ws, TokW w) : ws.map ltD = ws.map ltX := List.map_congr_left fun w m => (ltX_good (h w m)).symm
theorem ltX_bad {w : List Nat} (h : BadW w) : ltX w = .lst [sd kBad, sd w, .tup []] := by
  unfold ltX wrtX
  rw [if_pos (.inl h.kind), h.kind]
theorem ltX_sh : ∀ ws : List (List Nat), (ws.map ltX).all isSh = true
  | [] => rfl
  | w :: ws => ltX_sh ws
theorem wrtX_sh (w : List Nat) : isSh (wrtX w) = true := by
  unfold wrtX
  split
  · rfl
  · exact item_sh w
section
variable {w : List Nat} {k : Nat} {e : Env}
@[simp] theorem rs_ltX : rs e (ltX w) = ltX w := rfl
@[simp] theorem rsB_ltX : rsB e (ltX w) = ltX w := rfl
@[simp] theorem sh_ltX : isSh (ltX w) = true := rfl
@[simp] theorem see_ltX : seeD k (ltX w) = ltX w := rfl
@[simp] theorem noOwn_ltX : noOwn (ltX w) = true := rfl
@[simp] theorem isAl_ltX : isAl k (ltX w) = false := rfl
@[simp] theorem notAl_ltX : notAl (ltX w) = true := rfl
@[simp] theorem shOnly_ltX : shOnly (ltX w) = some (ltX w) := rfl
@[simp] theorem ltX_ix {i : Int} : dIdx (ltX w) (.int i) = (atI [sd (kindL w), sd w, wrtX w] i).bind shOnly := rfl
end
/-! ### where it is wrong first -/
def wrong (d : Nat) (w : List Nat) : Prop := kindL w = kBad ∨ (kindL w = kOpen ∧ d = 20) ∨ (kindL w = kClose ∧ d = 0)
instance (d : Nat) (w : List Nat) : Decidable (wrong d w) := inferInstanceAs (Decidable (kindL w = kBad ∨ (kindL w = kOpen ∧ d = 20) ∨ (kindL w = kClose ∧ d = 0)))
def nxd (d : Nat) (w : List Nat) : Nat := if kindL w = kOpen then d + 1 else if kindL w = kClose then d - 1 else d
def frA : Nat → List (List Nat × Nat) → Sum Nat Nat
  | d, [] => .inr d
  | d, (w, p) :: r => if wrong d w then .inl p else frA (nxd d w) r
def frst (n : Nat) (ts : List (List Nat × Nat)) : Int := match frA 0 ts with
  | .inl p => (p : Int)
  | .inr d => if d = 0 then -1 else (n : Int)
theorem kind_open {w : List Nat} (h : kindL w = kOpen) : w = [123] := by
  unfold kindL at h
  split at h
  · assumption
  · repeat (first | cases h | split at h)
theorem kind_close {w : List Nat} (h : kindL w = kClose) : w = [125] := by
  unfold kindL at h
  split at h
  · cases h
  · split at h
    · assumption
    · repeat (first | cases h | split at h)
/-- the reading goes on where nothing is wrong -/
theorem stp_ok {st : List (List D)} {w : List Nat} {d : Nat} (hs : st.length = d + 1) (hd : d ≤ 20) (h : ¬wrong d w) : ∃ st', stp st w = some st' ∧ st'.length = nxd d w + 1 ∧ nxd d w ≤ 20 := by
  unfold wrong at h
  unfold stp nxd
  by_cases h1 : w = [123]
  · subst h1
    have k : kindL [123] = kOpen := rfl
    have : d ≠ 20 := fun z => h (.inr (.inl ⟨k, z⟩))
    exact ⟨[] :: st, by rw [if_pos rfl, if_pos (by omega)], by rw [if_pos k]; simp; omega, by rw [if_pos k]; omega⟩
  · have n1 : kindL w ≠ kOpen := fun z => h1 (kind_open z)
    by_cases h2 : w = [125]
    · subst h2
      have k : kindL [125] = kClose := rfl
      have : d ≠ 0 := fun z => h (.inr (.inr ⟨k, z⟩))
      match st, hs with
      | [r], hs => simp at hs; omega
      | r :: q :: s, hs => exact ⟨(q ++ [procD r]) :: s, by rw [if_neg (by decide), if_pos rfl], by rw [if_neg n1, if_pos k]; simp at hs ⊢; omega, by rw [if_neg n1, if_pos k]; omega⟩
    · have n2 : kindL w ≠ kClose := fun z => h2 (kind_close z)
      match st, hs with
      | r :: s, hs => exact ⟨(r ++ [itemL w]) :: s, by rw [if_neg h1, if_neg h2], by rw [if_neg n1, if_neg n2]; exact hs, by rw [if_neg n1, if_neg n2]; exact hd⟩
theorem frA_good : ∀ {ts : List (List Nat × Nat)} {d d' : Nat} {st : List (List D)}, st.length = d + 1 → d ≤ 20 → frA d ts = .inr d' → (∃ st', rdS st (ts.map (·.1)) = some st' ∧ st'.length = d' + 1) ∧ ∀ x ∈ ts, kindL x.1 ≠ kBad
  | [], d, d', st, hs, _, e => by
    cases e
    exact ⟨⟨st, rfl, hs⟩, fun x m => nomatch m⟩
  | (w, p) :: ts, d, d', st, hs, hd, e => by
    rw [frA] at e
    split at e
    · cases e
    · rename_i h
      obtain ⟨st1, e1, l1, l2⟩ := stp_ok hs hd h
      obtain ⟨⟨st', r1, r2⟩, r3⟩ := frA_good l1 l2 e
      refine ⟨⟨st', by rw [List.map_cons, rdS, e1]; exact r1, r2⟩, fun x m => ?_⟩
      rcases List.mem_cons.mp m with m | m
      · subst m
        exact fun z => h (.inl z)
      · exact r3 x m
/-! ### lists of tokens, compared with themselves -/
theorem Cmps.lst {n : Nat} {ds : List D} (h : Cmps n ds) : Cmp (n + 1) (.lst ds) := by
  obtain ⟨ps, h1, h2, h3, h4⟩ := h
  refine ⟨.list ps, by rw [toPy, h1]; rfl, ?_, ?_, ?_⟩
  · simp only [PyData.canLay0, h2]
  · simp only [PyData.depth]
    omega
  · simp only [PyData.eqv, h4]
theorem kindL_small (w : List Nat) : ∀ c ∈ kindL w, c < 128 := by
  unfold kindL
  repeat' split
  all_goals decide
theorem Cmp.tok {t : List Nat × Nat} (h : ∀ c ∈ t.1, c < 128) : Cmp 1 (tokD t) := Cmps.tup (.cons (.sd (kindL_small _)) (.cons (.sd h) (.cons .int .nil)))
theorem Cmps.toks : ∀ {ts : List (List Nat × Nat)}, (∀ t ∈ ts, ∀ c ∈ t.1, c < 128) → Cmps 1 (ts.map tokD)
  | [], _ => .nil
  | t :: ts, h => .cons (Cmp.tok (h t (List.mem_cons_self ..))) (Cmps.toks fun x m => h x (List.mem_cons_of_mem _ m))
theorem eq_toks {ts : List (List Nat × Nat)} (h : ∀ t ∈ ts, ∀ c ∈ t.1, c < 128) : dEq (.lst (ts.map tokD)) (.lst (ts.map tokD)) = some (.bl true) ∧ dNe (.lst (ts.map tokD)) (.lst (ts.map tokD)) = some (.bl false) :=
  eq_self ((Cmps.toks h).lst.mono (by omega)) rfl rfl
/-! ### rows cut -/
theorem cut_to {xs : List D} {k : Nat} : cutD xs none (some (k : Int)) = xs.take k := by
  unfold cutD
  rw [HT.sIx_nat, HT.sIx_none, List.drop_zero, Nat.sub_zero]
  by_cases h : k ≤ xs.length
  · rw [Nat.min_eq_left h]
  · rw [Nat.min_eq_right (by omega), List.take_of_length_le (Nat.le_refl _), List.take_of_length_le (by omega)]
theorem cut_from {xs : List D} {k : Nat} : cutD xs (some (k : Int)) none = xs.drop k := by
  unfold cutD
  rw [HT.sIx_nat, HT.sIx_none]
  by_cases h : k ≤ xs.length
  · rw [Nat.min_eq_left h, List.take_of_length_le (by rw [List.length_drop]; omega)]
  · rw [Nat.min_eq_right (by omega), List.drop_of_length_le (Nat.le_refl _), List.drop_of_length_le (show xs.length ≤ k by omega), List.take_nil]
end DL
end

section
set_option maxRecDepth 100000
set_option maxHeartbeats 1000000
/-! trees: their tokens, items, depths, places and spans -/
namespace DL
open PySem L2
inductive Tr where
  | leaf (w : List Nat)
  | proc (ts : List Tr)
mutual
def Tr.d : Tr → D
  | .leaf w => itemL w
  | .proc ts => procD (trsD ts)
def trsD : List Tr → List D
  | [] => []
  | t :: ts => t.d :: trsD ts
end
mutual
def Tr.tok : Tr → List (List Nat)
  | .leaf w => [w]
  | .proc ts => [123] :: (toks ts ++ [[125]])
def toks : List Tr → List (List Nat)
  | [] => []
  | t :: ts => t.tok ++ toks ts
end
mutual
def Tr.dep : Tr → Nat
  | .leaf _ => 0
  | .proc ts => 1 + deps ts
def deps : List Tr → Nat
  | [] => 0
  | t :: ts => max t.dep (deps ts)
end
mutual
def Tr.ok : Tr → Prop
  | .leaf w => Leaf w
  | .proc ts => oks ts
def oks : List Tr → Prop
  | [] => True
  | t :: ts => t.ok ∧ oks ts
end
section
variable {ts us : List Tr} {t : Tr}
theorem trsD_app : ∀ {ts us : List Tr}, trsD (ts ++ us) = trsD ts ++ trsD us
  | [], _ => rfl
  | t :: ts, us => by rw [List.cons_append, trsD, trsD, trsD_app, List.cons_append]
theorem toks_app : ∀ {ts us : List Tr}, toks (ts ++ us) = toks ts ++ toks us
  | [], _ => rfl
  | t :: ts, us => by rw [List.cons_append, toks, toks, toks_app, List.append_assoc]
theorem deps_app : ∀ {ts us : List Tr}, deps (ts ++ us) = max (deps ts) (deps us)
  | [], us => by rw [List.nil_append, deps]; omega
  | t :: ts, us => by rw [List.cons_append, deps, deps, deps_app]; omega
theorem oks_app : ∀ {ts us : List Tr}, oks (ts ++ us) ↔ oks ts ∧ oks us
  | [], us => by rw [List.nil_append, oks]; exact ⟨fun h => ⟨trivial, h⟩, fun h => h.2⟩
  | t :: ts, us => by rw [List.cons_append, oks, oks, oks_app, and_assoc]
theorem trsD_len : ∀ {ts : List Tr}, (trsD ts).length = ts.length
  | [] => rfl
  | t :: ts => by rw [trsD, List.length_cons, List.length_cons, trsD_len]
theorem trsD_get : ∀ {ts : List Tr} {i : Nat}, (trsD ts)[i]? = (ts[i]?).map Tr.d
  | [], _ => by simp [trsD]
  | t :: ts, 0 => by simp [trsD]
  | t :: ts, i + 1 => by simp [trsD, trsD_get (ts := ts) (i := i)]
theorem trsD_map : ∀ {ts : List Tr}, trsD ts = ts.map Tr.d
  | [] => rfl
  | t :: ts => by rw [trsD, List.map_cons, trsD_map]
theorem d_sh (t : Tr) : isSh t.d = true := by
  cases t with
  | leaf w => rw [Tr.d]; exact item_sh w
  | proc us => rw [Tr.d]; rfl
theorem trsD_sh : ∀ {ts : List Tr}, (trsD ts).all isSh = true
  | [] => rfl
  | t :: ts => by rw [trsD, List.all_cons, d_sh, trsD_sh]; rfl
theorem len_toks : ∀ {ts : List Tr}, ts.length ≤ (toks ts).length
  | [] => Nat.le_refl _
  | t :: ts => by
    have h := len_toks (ts := ts)
    have h1 : 1 ≤ t.tok.length := by
      cases t with
      | leaf w => rw [Tr.tok]; simp
      | proc us => rw [Tr.tok]; simp
    rw [toks, List.length_append, List.length_cons]
    omega
mutual
theorem tok_w : ∀ {t : Tr}, t.ok → ∀ w ∈ t.tok, TokW w
  | .leaf w, h => fun x m => by
    rw [Tr.tok, List.mem_singleton] at m
    rw [Tr.ok] at h
    exact .inr (.inr (m ▸ h))
  | .proc us, h => fun x m => by
    rw [Tr.tok] at m
    rw [Tr.ok] at h
    rcases List.mem_cons.mp m with m | m
    · exact .inl m
    · rcases List.mem_append.mp m with m | m
      · exact toks_w h x m
      · exact .inr (.inl (List.mem_singleton.mp m))
theorem toks_w : ∀ {ts : List Tr}, oks ts → ∀ w ∈ toks ts, TokW w
  | [], _ => fun x m => by rw [toks] at m; cases m
  | t :: ts, h => fun x m => by
    rw [oks] at h
    rw [toks] at m
    rcases List.mem_append.mp m with m | m
    · exact tok_w h.1 x m
    · exact toks_w h.2 x m
end
/-! ### read -/
mutual
theorem tok_run : ∀ {t : Tr} {r : List D} {s : List (List D)}, t.ok → s.length + 1 + t.dep ≤ 21 → rdS (r :: s) t.tok = some ((r ++ [t.d]) :: s)
  | .leaf w, r, s, h, _ => by
    rw [Tr.ok] at h
    rw [Tr.tok, Tr.d, rdS]
    have no := h.no
    have : stp (r :: s) w = some ((r ++ [itemL w]) :: s) := by
      unfold stp
      rw [if_neg no.1, if_neg no.2]
    rw [this]
    rfl
  | .proc us, r, s, h, hd => by
    rw [Tr.ok] at h
    rw [Tr.dep] at hd
    rw [Tr.tok, Tr.d, rdS]
    have : stp (r :: s) [123] = some ([] :: r :: s) := by
      unfold stp
      rw [if_pos rfl, if_pos (by rw [List.length_cons]; omega)]
    rw [this, Option.bind_some, rdS_app, toks_run h (by rw [List.length_cons]; omega), Option.bind_some, List.nil_append]
    rfl
theorem toks_run : ∀ {ts : List Tr} {r : List D} {s : List (List D)}, oks ts → s.length + 1 + deps ts ≤ 21 → rdS (r :: s) (toks ts) = some ((r ++ trsD ts) :: s)
  | [], r, s, _, _ => by rw [toks, trsD, List.append_nil]; rfl
  | t :: ts, r, s, h, hd => by
    rw [oks] at h
    rw [deps] at hd
    rw [toks, trsD, rdS_app, tok_run h.1 (by omega), Option.bind_some, toks_run h.2 (by omega), List.append_assoc]
    rfl
end
/-- rows that are open, as trees -/
def stOk : List (List Tr) → Prop
  | [] => True
  | r :: s => oks r ∧ s.length + 1 + deps r ≤ 21 ∧ stOk s
def stT : List (List Tr) → List (List Nat)
  | [] => []
  | [r] => toks r
  | r :: s => stT s ++ [123] :: toks r
theorem stT_cons {r q : List Tr} {s : List (List Tr)} : stT (r :: q :: s) = stT (q :: s) ++ [123] :: toks r := by rw [stT]; simp
theorem stT_add {r x : List Tr} : ∀ {s : List (List Tr)}, stT ((r ++ x) :: s) = stT (r :: s) ++ toks x
  | [] => by rw [stT, stT, toks_app]
  | q :: s => by rw [stT_cons, stT_cons, toks_app]; simp
theorem parse : ∀ (ws : List (List Nat)) (sf : List (List Tr)) (st' : List (List D)), sf ≠ [] → stOk sf → (∀ w ∈ ws, TokW w) → rdS (sf.map trsD) ws = some st' → ∃ sf', sf' ≠ [] ∧ st' = sf'.map trsD ∧ stOk sf' ∧ stT sf' = stT sf ++ ws
  | [], sf, st', h0, h1, _, e => by
    cases e
    exact ⟨sf, h0, rfl, h1, (List.append_nil _).symm⟩
  | w :: ws, sf, st', h0, h1, hw, e => by
    rw [rdS] at e
    have next : ∀ sg : List (List Tr), stp (sf.map trsD) w = some (sg.map trsD) → sg ≠ [] → stOk sg → stT sg = stT sf ++ [w] → ∃ sf', sf' ≠ [] ∧ st' = sf'.map trsD ∧ stOk sf' ∧ stT sf' = stT sf ++ w :: ws := fun sg q g0 g1 g2 => by
      rw [q, Option.bind_some] at e
      obtain ⟨sf', k0, k1, k2, k3⟩ := parse ws sg st' g0 g1 (fun x m => hw x (List.mem_cons_of_mem _ m)) e
      exact ⟨sf', k0, k1, k2, by rw [k3, g2, List.append_assoc]; rfl⟩
    cases sf with
    | nil => exact absurd rfl h0
    | cons r s =>
      rcases hw w (List.mem_cons_self ..) with rfl | rfl | lw
      · by_cases hl : (r :: s).length ≤ 20
        · refine next ([] :: r :: s) ?_ (by simp) ⟨trivial, by rw [deps]; omega, h1⟩ ?_
          · unfold stp
            rw [if_pos rfl, if_pos (by rw [List.length_map]; exact hl)]
            rfl
          · rw [stT_cons]
            rfl
        · have : stp ((r :: s).map trsD) [123] = none := by
            unfold stp
            rw [if_pos rfl, if_neg (by rw [List.length_map]; exact hl)]
          rw [this] at e
          cases e
      · cases s with
        | nil => cases e
        | cons q s =>
          obtain ⟨o1, o2, o3, o4, o5⟩ := h1
          rw [List.length_cons] at o2
          refine next ((q ++ [.proc r]) :: s) ?_ (by simp) ⟨oks_app.mpr ⟨o3, ?_⟩, ?_, o5⟩ ?_
          · show some ((trsD q ++ [procD (trsD r)]) :: s.map trsD) = _
            rw [List.map_cons, trsD_app, trsD, trsD, Tr.d]
          · rw [oks, oks, Tr.ok]
            exact ⟨o1, trivial⟩
          · rw [deps_app, deps, deps, Tr.dep]
            omega
          · rw [stT_cons, stT_add, toks, toks, Tr.tok]
            simp
      · obtain ⟨o1, o2, o3⟩ := h1
        have no := lw.no
        refine next ((r ++ [.leaf w]) :: s) ?_ (by simp) ⟨oks_app.mpr ⟨o1, ?_⟩, ?_, o3⟩ ?_
        · unfold stp
          rw [if_neg no.1, if_neg no.2, List.map_cons]
          show some ((trsD r ++ [itemL w]) :: s.map trsD) = _
          rw [List.map_cons, trsD_app, trsD, trsD, Tr.d]
        · rw [oks, oks, Tr.ok]
          exact ⟨lw, trivial⟩
        · rw [deps_app, deps, deps, Tr.dep]
          omega
        · rw [stT_add, toks, toks, Tr.tok]
          rfl
/-- a row that can be read is a row of trees -/
theorem tree_of {ws : List (List Nat)} {ds : List D} (hw : ∀ w ∈ ws, TokW w) (h : rdS [[]] ws = some [ds]) : ∃ ts : List Tr, oks ts ∧ toks ts = ws ∧ trsD ts = ds ∧ deps ts ≤ 20 := by
  obtain ⟨sf, k0, k1, k2, k3⟩ := parse ws [[]] [ds] (by simp) ⟨trivial, by rw [deps]; decide, trivial⟩ hw h
  match sf, k1, k2, k3 with
  | [ts], k1, k2, k3 =>
    have e : [ds] = [trsD ts] := k1
    injection e with e _
    refine ⟨ts, k2.1, ?_, e.symm, by have := k2.2.1; simp at this; omega⟩
    rw [stT, stT, toks, List.nil_append] at k3
    exact k3
  | [], k1, _, _ => cases k1
  | _ :: _ :: _, k1, _, _ => simp at k1
end
/-! ### in order: the path, the tree, the first token, the token behind the last -/
abbrev PreT := List Int × Tr × Nat × Nat
mutual
def pre1 (b : List Int) (z k : Nat) : Tr → List PreT
  | .leaf w => [(b ++ [(z : Int)], .leaf w, k, k + 1)]
  | .proc us => (b ++ [(z : Int)], .proc us, k, k + 2 + (toks us).length) :: pre (b ++ [(z : Int)]) 0 (k + 1) us
def pre (b : List Int) (z k : Nat) : List Tr → List PreT
  | [] => []
  | t :: ts => pre1 b z k t ++ pre b (z + 1) (k + t.tok.length) ts
end
abbrev pP (x : PreT) : D := tI x.1
abbrev pI2 (x : PreT) : D := x.2.1.d
abbrev pS (x : PreT) : Int × Int := ((x.2.2.1 : Int), (x.2.2.2 : Int))
theorem foldR_app : ∀ (ws us : List (List Nat)) (k : Nat) (s : RD), foldR k s (ws ++ us) = foldR (k + ws.length) (foldR k s ws) us
  | [], us, k, s => rfl
  | w :: ws, us, k, s => by
    rw [List.cons_append, foldR, foldR, foldR_app ws us, List.length_cons]
    have z : k + 1 + ws.length = k + (ws.length + 1) := by omega
    rw [z]
theorem tok_len_proc {us : List Tr} : (Tr.proc us).tok.length = (toks us).length + 2 := by
  rw [Tr.tok]
  simp
mutual
theorem tok_read : ∀ {t : Tr} {r : List D} {s : List (List D)} {z k : Nat} {ps : List Int} {sp wd : List D} {sn : List (Int × Int)} {lf : List Nat}, t.ok → sn.length = wd.length →
    foldR k ⟨r :: s, (z : Int) :: ps, sp, wd, sn, lf⟩ t.tok = ⟨(r ++ [t.d]) :: s, ((z + 1 : Nat) : Int) :: ps, sp ++ (pre1 ps.reverse z k t).map pP, wd ++ (pre1 ps.reverse z k t).map pI2, sn ++ (pre1 ps.reverse z k t).map pS, lf⟩
  | .leaf w, r, s, z, k, ps, sp, wd, sn, lf, h, _ => by
    rw [Tr.ok] at h
    have no := h.no
    rw [Tr.tok, Tr.d, foldR, foldR, pre1]
    unfold stepR
    rw [if_neg no.1, if_neg no.2]
    simp [pathD, pP, pI2, pS, Tr.d]
  | .proc us, r, s, z, k, ps, sp, wd, sn, lf, h, hl => by
    rw [Tr.ok] at h
    have s1 : stepR k ⟨r :: s, (z : Int) :: ps, sp, wd, sn, lf⟩ [123] = ⟨[] :: r :: s, ((0 : Nat) : Int) :: (z : Int) :: ps, sp ++ [pathD ((z : Int) :: ps)], wd ++ [.tup []], sn ++ [((k : Int), (k : Int) + 1)], wd.length :: lf⟩ := if_pos rfl
    rw [Tr.tok, foldR, s1, foldR_app, toks_read h (by simp [hl]), foldR, foldR]
    have e : ((z : Int) :: ps).reverse = ps.reverse ++ [(z : Int)] := List.reverse_cons
    rw [e]
    generalize hp : pre (ps.reverse ++ [(z : Int)]) 0 (k + 1) us = P
    unfold stepR
    rw [if_neg (by decide), if_pos rfl]
    dsimp only
    rw [Tr.d, pre1, hp]
    have g1 : (wd ++ [D.tup []] ++ P.map pI2).set wd.length (procD ([] ++ trsD us)) = wd ++ procD (trsD us) :: P.map pI2 := by
      rw [List.append_assoc, List.set_append_right _ _ (Nat.le_refl _), Nat.sub_self, List.nil_append]
      rfl
    have g2 : (sn ++ [((k : Int), (k : Int) + 1)] ++ P.map pS).getD wd.length (0, 0) = ((k : Int), (k : Int) + 1) := by
      rw [← hl, List.append_assoc]
      simp [List.getD]
    have g3 : ∀ x, (sn ++ [((k : Int), (k : Int) + 1)] ++ P.map pS).set wd.length x = sn ++ x :: P.map pS := fun x => by
      rw [← hl, List.append_assoc, List.set_append_right _ _ (Nat.le_refl _), Nat.sub_self]
      rfl
    rw [g1, g2, g3]
    have z1 : (((k + 1 + (toks us).length : Nat) : Int) + 1) = ((k + 2 + (toks us).length : Nat) : Int) := by omega
    rw [z1]
    simp [pathD, pP, pI2, pS, Tr.d]
theorem toks_read : ∀ {ts : List Tr} {r : List D} {s : List (List D)} {z k : Nat} {ps : List Int} {sp wd : List D} {sn : List (Int × Int)} {lf : List Nat}, oks ts → sn.length = wd.length →
    foldR k ⟨r :: s, (z : Int) :: ps, sp, wd, sn, lf⟩ (toks ts) = ⟨(r ++ trsD ts) :: s, ((z + ts.length : Nat) : Int) :: ps, sp ++ (pre ps.reverse z k ts).map pP, wd ++ (pre ps.reverse z k ts).map pI2, sn ++ (pre ps.reverse z k ts).map pS, lf⟩
  | [], r, s, z, k, ps, sp, wd, sn, lf, _, _ => by
    rw [toks, foldR, trsD, pre]
    simp
  | t :: ts, r, s, z, k, ps, sp, wd, sn, lf, h, hl => by
    rw [oks] at h
    rw [toks, foldR_app, tok_read h.1 hl, toks_read h.2 (by simp [hl]), trsD, pre]
    have z1 : z + 1 + ts.length = z + (t :: ts).length := by rw [List.length_cons]; omega
    rw [z1]
    simp
end
/-- the law's own reading of a row of trees -/
theorem read_end {ts : List Tr} (h : oks ts) : readAt (toks ts) (toks ts).length = ⟨[trsD ts], [(ts.length : Int)], (pre [] 0 0 ts).map pP, (pre [] 0 0 ts).map pI2, (pre [] 0 0 ts).map pS, []⟩ := by
  unfold readAt
  rw [List.take_length]
  have := toks_read (ts := ts) (r := []) (s := []) (z := 0) (k := 0) (ps := []) (sp := []) (wd := []) (sn := []) (lf := []) h rfl
  have e : rd0 = ⟨[[]], [((0 : Nat) : Int)], [], [], [], []⟩ := rfl
  rw [e, this]
  simp
end DL
end

section
set_option maxRecDepth 100000
set_option maxHeartbeats 1000000
/-! places in trees: what stands there, what is put there, where nothing stands -/
namespace DL
open PySem L2
/-- at the path p, over the rows R, from token a up to token b: t -/
inductive At : List Tr → List Int → List (List Tr) → Nat → Nat → Tr → Prop
  | here (xs : List Tr) (t : Tr) (ys : List Tr) : At (xs ++ t :: ys) [(xs.length : Int)] [xs ++ t :: ys] (toks xs).length ((toks xs).length + t.tok.length) t
  | into (xs us ys : List Tr) {p : List Int} {R : List (List Tr)} {a b : Nat} {t : Tr} (h : At us p R a b t) : At (xs ++ .proc us :: ys) ((xs.length : Int) :: p) ((xs ++ .proc us :: ys) :: R) ((toks xs).length + 1 + a) ((toks xs).length + 1 + b) t
mutual
theorem pre1_at : ∀ {t : Tr} {b : List Int} {z k : Nat} {x : PreT}, x ∈ pre1 b z k t → ∀ (xs ys : List Tr) (k0 : Nat), xs.length = z → k = k0 + (toks xs).length → ∃ p R a c, x.1 = b ++ p ∧ x.2.2.1 = k0 + a ∧ x.2.2.2 = k0 + c ∧ At (xs ++ t :: ys) p R a c x.2.1
  | .leaf w, b, z, k, x, m, xs, ys, k0, hz, hk => by
    rw [pre1, List.mem_singleton] at m
    subst m hz hk
    have := At.here xs (.leaf w) ys
    rw [Tr.tok, List.length_singleton] at this
    exact ⟨_, _, _, _, rfl, rfl, by dsimp only; omega, this⟩
  | .proc us, b, z, k, x, m, xs, ys, k0, hz, hk => by
    rw [pre1] at m
    rcases List.mem_cons.mp m with m | m
    · subst m hz hk
      have := At.here xs (.proc us) ys
      rw [tok_len_proc] at this
      exact ⟨_, _, _, _, rfl, rfl, by dsimp only; omega, this⟩
    · obtain ⟨p, R, a, c, e1, e2, e3, e4⟩ := pre_at m [] (k + 1) rfl (by rw [toks]; simp)
      subst hz hk
      rw [List.nil_append] at e4
      exact ⟨_, _, _, _, by rw [e1, List.append_assoc]; rfl, by rw [e2]; omega, by rw [e3]; omega, At.into xs us ys e4⟩
theorem pre_at : ∀ {ts : List Tr} {b : List Int} {z k : Nat} {x : PreT}, x ∈ pre b z k ts → ∀ (xs : List Tr) (k0 : Nat), xs.length = z → k = k0 + (toks xs).length → ∃ p R a c, x.1 = b ++ p ∧ x.2.2.1 = k0 + a ∧ x.2.2.2 = k0 + c ∧ At (xs ++ ts) p R a c x.2.1
  | [], b, z, k, x, m, _, _, _, _ => by rw [pre] at m; cases m
  | t :: ts, b, z, k, x, m, xs, k0, hz, hk => by
    rw [pre] at m
    rcases List.mem_append.mp m with m | m
    · exact pre1_at m xs ts k0 hz hk
    · have := pre_at m (xs ++ [t]) k0 (by rw [List.length_append, hz]; rfl) (by rw [toks_app, List.length_append, toks, toks, List.append_nil, hk]; omega)
      rw [List.append_assoc] at this
      exact this
end
theorem pre_top {ts : List Tr} {x : PreT} (m : x ∈ pre [] 0 0 ts) : ∃ R, At ts x.1 R x.2.2.1 x.2.2.2 x.2.1 := by
  obtain ⟨p, R, a, c, e1, e2, e3, e4⟩ := pre_at m [] 0 rfl (by rw [toks]; rfl)
  rw [List.nil_append] at e1 e4
  rw [Nat.zero_add] at e2 e3
  exact ⟨R, by rw [e1, e2, e3]; exact e4⟩
/-! ### put there -/
def splice (r : List Tr) (i : Int) (us : List Tr) : List Tr := r.take i.toNat ++ us ++ r.drop (i.toNat + 1)
def exR : List (List Tr) → List Int → List Tr → List Tr
  | [r], [i], us => splice r i us
  | r :: R, i :: p, us => splice r i [.proc (exR R p us)]
  | _, _, us => us
theorem exR_cons {r q : List Tr} {R : List (List Tr)} {i j : Int} {p : List Int} {us : List Tr} : exR (r :: q :: R) (i :: j :: p) us = splice r i [.proc (exR (q :: R) (j :: p) us)] := by rw [exR]; simp
section
variable {ts us xs ys : List Tr} {t u : Tr} {p : List Int} {R : List (List Tr)} {a b : Nat}
theorem At.ne (h : At ts p R a b t) : p ≠ [] ∧ R ≠ [] ∧ p.length = R.length := by
  induction h with
  | here xs t ys => exact ⟨by simp, by simp, rfl⟩
  | into xs us ys h ih => exact ⟨by simp, by simp, by rw [List.length_cons, List.length_cons, ih.2.2]⟩
theorem At.head (h : At ts p R a b t) : ∃ R', R = ts :: R' := by
  cases h with
  | here xs t ys => exact ⟨_, rfl⟩
  | into xs us ys h => exact ⟨_, rfl⟩
theorem splice_mid : splice (xs ++ t :: ys) (xs.length : Int) us = xs ++ us ++ ys := by
  unfold splice
  rw [Int.toNat_natCast, List.take_left]
  have : (xs ++ t :: ys).drop (xs.length + 1) = ys := by
    have e : xs ++ t :: ys = (xs ++ [t]) ++ ys := by simp
    rw [e]
    exact List.drop_left' (by simp)
  rw [this]
theorem exR_into {p : List Int} (h : At us p R a b t) {vs : List Tr} : exR ((xs ++ .proc us :: ys) :: R) ((xs.length : Int) :: p) vs = xs ++ [.proc (exR R p vs)] ++ ys := by
  obtain ⟨h1, h2, _⟩ := h.ne
  cases p with
  | nil => exact absurd rfl h1
  | cons j p => cases R with
    | nil => exact absurd rfl h2
    | cons q R => rw [exR_cons, splice_mid]
theorem cut_tok {x m y z : List (List Nat)} {n k : Nat} (hn : n = x.length) (hk : k = x.length + m.length) : (x ++ m ++ y).take n ++ z ++ (x ++ m ++ y).drop k = x ++ z ++ y := by
  subst hn hk
  have e1 : (x ++ m ++ y).take x.length = x := by rw [List.append_assoc, List.take_left]
  have e2 : (x ++ m ++ y).drop (x.length + m.length) = y := List.drop_left' (by simp)
  rw [e1, e2]
/-- the tokens of what is put -/
theorem At.due (h : At ts p R a b t) {vs : List Tr} : (toks ts).take a ++ toks vs ++ (toks ts).drop b = toks (exR R p vs) ∧ a ≤ b ∧ b ≤ (toks ts).length := by
  induction h with
  | here xs t ys =>
    rw [exR, splice_mid, toks_app, toks_app, toks_app, toks]
    refine ⟨?_, by omega, by simp [toks]⟩
    have := cut_tok (x := toks xs) (m := t.tok) (y := toks ys) (z := toks vs) rfl rfl
    simpa only [List.append_assoc] using this
  | @into xs us ys p R a b t h ih =>
    obtain ⟨i1, i2, i3⟩ := ih
    rw [exR_into h, toks_app, toks_app, toks_app, toks, toks, toks, Tr.tok, Tr.tok, ← i1, List.append_nil]
    refine ⟨?_, by omega, by simp; omega⟩
    have e : toks us = (toks us).take a ++ (((toks us).drop a).take (b - a)) ++ (toks us).drop b := by
      have e2 : (toks us).drop b = ((toks us).drop a).drop (b - a) := by
        rw [List.drop_drop]
        congr 1
        omega
      rw [e2, List.append_assoc, List.take_append_drop, List.take_append_drop]
    have ha : ((toks us).take a).length = a := by rw [List.length_take]; omega
    have hm : (((toks us).drop a).take (b - a)).length = b - a := by rw [List.length_take, List.length_drop]; omega
    have := cut_tok (x := toks xs ++ [[123]] ++ (toks us).take a) (m := ((toks us).drop a).take (b - a)) (y := (toks us).drop b ++ [[125]] ++ toks ys) (z := toks vs) (n := (toks xs).length + 1 + a) (k := (toks xs).length + 1 + b) (by simp; omega) (by simp; omega)
    have l : toks xs ++ ([123] :: (toks us ++ [[125]]) ++ toks ys) = toks xs ++ [[123]] ++ (toks us).take a ++ ((toks us).drop a).take (b - a) ++ ((toks us).drop b ++ [[125]] ++ toks ys) := by
      conv => lhs; rw [e]
      simp
    rw [l, this]
    simp
theorem oks_splice {r us : List Tr} {i : Int} (h : oks r) (k : oks us) : oks (splice r i us) := by
  unfold splice
  refine oks_app.mpr ⟨oks_app.mpr ⟨?_, k⟩, ?_⟩
  · have := List.take_append_drop i.toNat r
    rw [← this] at h
    exact (oks_app.mp h).1
  · have := List.take_append_drop (i.toNat + 1) r
    rw [← this] at h
    exact (oks_app.mp h).2
theorem At.oks (h : At ts p R a b t) {vs : List Tr} (k : oks ts) (k2 : oks vs) : oks (exR R p vs) := by
  induction h with
  | here xs t ys =>
    rw [exR]
    exact oks_splice k k2
  | into xs us ys h ih =>
    rw [exR_into h]
    have k3 := oks_app.mp k
    have k4 : (Tr.proc us).ok ∧ DL.oks ys := by
      have := k3.2
      rw [DL.oks] at this
      exact this
    refine oks_app.mpr ⟨oks_app.mpr ⟨k3.1, ?_⟩, k4.2⟩
    rw [DL.oks, DL.oks, Tr.ok]
    have := k4.1
    rw [Tr.ok] at this
    exact ⟨ih this, trivial⟩
/-- the last row and the last index tell the item -/
theorem At.last (h : At ts p R a b t) : ∃ r i, R[R.length - 1]? = some r ∧ p[p.length - 1]? = some ((i : Nat) : Int) ∧ r[i]? = some t ∧ i < r.length := by
  induction h with
  | here xs t ys => exact ⟨_, xs.length, rfl, rfl, by simp, by simp⟩
  | @into xs us ys p R a b t h ih =>
    obtain ⟨r, i, h1, h2, h3⟩ := ih
    obtain ⟨n1, n2, _⟩ := h.ne
    refine ⟨r, i, ?_, ?_, h3⟩
    · cases R with
      | nil => exact absurd rfl n2
      | cons q R =>
        simp only [List.length_cons, Nat.add_sub_cancel] at h1 ⊢
        rw [List.getElem?_cons_succ]
        exact h1
    · cases p with
      | nil => exact absurd rfl n1
      | cons q p =>
        simp only [List.length_cons, Nat.add_sub_cancel] at h2 ⊢
        rw [List.getElem?_cons_succ]
        exact h2
/-! ### where nothing stands -/
def subT : Tr → List Tr
  | .leaf _ => []
  | .proc us => us
inductive Nw : List Tr → List Int → Prop
  | out (ts : List Tr) (i : Int) (p : List Int) (h : ¬(0 ≤ i ∧ i < ts.length)) : Nw ts (i :: p)
  | into (xs : List Tr) (t : Tr) (ys : List Tr) {p : List Int} (h : Nw (subT t) p) : Nw (xs ++ t :: ys) ((xs.length : Int) :: p)
theorem At.deeper (h : At ts p R a b t) {i : Int} (k : ¬(0 ≤ i ∧ i < (subT t).length)) : Nw ts (p ++ [i]) := by
  induction h with
  | here xs t ys => exact .into xs t ys (.out _ _ _ k)
  | into xs us ys h ih => exact .into xs (.proc us) ys (ih k)
theorem At.beside (h : At ts p R a b t) {i : Int} (k : ∀ r ∈ R, ¬(0 ≤ i ∧ i < (r.length : Int))) : Nw ts (p.dropLast ++ [i]) := by
  induction h with
  | here xs t ys => exact .out _ _ _ (k _ (by simp))
  | into xs us ys h ih =>
    have n := h.ne.1
    rw [List.dropLast_cons_of_ne_nil n]
    exact .into xs (.proc us) ys (ih fun r m => k r (List.mem_cons_of_mem _ m))
theorem At.rows (h : At ts p R a b t) : ∀ r ∈ R, r.length ≤ (toks ts).length := by
  induction h with
  | here xs t ys =>
    intro r m
    rw [List.mem_singleton.mp m]
    exact len_toks
  | into xs us ys h ih =>
    intro r m
    rcases List.mem_cons.mp m with m | m
    · rw [m]
      exact len_toks
    · have := ih r m
      rw [toks_app, toks, Tr.tok]
      simp
      omega
theorem subT_len (h : At ts p R a b t) : (subT t).length ≤ (toks ts).length := by
  induction h with
  | here xs t ys =>
    cases t with
    | leaf w => exact Nat.zero_le _
    | proc us =>
      have := len_toks (ts := us)
      rw [toks_app, toks, Tr.tok]
      simp [subT]
      omega
  | into xs us ys h ih =>
    rw [toks_app, toks, Tr.tok]
    simp
    omega
end
/-! ### the deepest, told by the tokens -/
def dpS (s : Int × Int) (w : List Nat) : Int × Int :=
  let d := if w = [125] then s.1 - 1 else if w = [123] then s.1 + 1 else s.1
  (d, max s.2 d)
mutual
theorem dp_tok : ∀ {t : Tr} {d m : Int}, t.ok → d ≤ m → t.tok.foldl dpS (d, m) = (d, max m (d + (t.dep : Int)))
  | .leaf w, d, m, h, hd => by
    rw [Tr.ok] at h
    have no := h.no
    rw [Tr.tok, Tr.dep, List.foldl_cons, List.foldl_nil]
    unfold dpS
    rw [if_neg no.2, if_neg no.1]
    simp
  | .proc us, d, m, h, hd => by
    rw [Tr.ok] at h
    rw [Tr.tok, Tr.dep, List.foldl_cons]
    have s1 : dpS (d, m) [123] = (d + 1, max m (d + 1)) := by unfold dpS; rw [if_neg (by decide), if_pos rfl]
    rw [s1, List.foldl_append, dp_toks h (by omega), List.foldl_cons, List.foldl_nil]
    unfold dpS
    rw [if_pos rfl]
    dsimp only
    refine Prod.ext (by dsimp only; omega) (by dsimp only; omega)
theorem dp_toks : ∀ {ts : List Tr} {d m : Int}, oks ts → d ≤ m → (toks ts).foldl dpS (d, m) = (d, max m (d + (deps ts : Int)))
  | [], d, m, _, hd => by
    rw [toks, deps, List.foldl_nil]
    refine Prod.ext rfl (by dsimp only; omega)
  | t :: ts, d, m, h, hd => by
    rw [oks] at h
    rw [toks, deps, List.foldl_append, dp_tok h.1 hd, dp_toks h.2 (by omega)]
    refine Prod.ext rfl (by dsimp only; omega)
end
/-! ### chains -/
def nest : Nat → List Tr → List Tr
  | 0, ts => ts
  | n + 1, ts => [.proc (nest n ts)]
theorem nest_toks : ∀ (n : Nat) (ts : List Tr), toks (nest n ts) = List.replicate n [123] ++ toks ts ++ List.replicate n [125]
  | 0, ts => by simp [nest]
  | n + 1, ts => by
    rw [nest, toks, toks, Tr.tok, nest_toks n ts, List.replicate_succ, List.replicate_succ']
    simp
theorem nest_oks : ∀ (n : Nat) {ts : List Tr}, oks ts → oks (nest n ts)
  | 0, _, h => h
  | n + 1, ts, h => by
    rw [nest, oks, oks, Tr.ok]
    exact ⟨nest_oks n h, trivial⟩
theorem nest_deps : ∀ (n : Nat) {ts : List Tr}, deps (nest n ts) = n + deps ts
  | 0, ts => by rw [nest]; omega
  | n + 1, ts => by
    rw [nest, deps, deps, Tr.dep, nest_deps n]
    omega
/-- in a chain over one tree, m deep -/
theorem nest_at : ∀ (m n : Nat) (t : Tr), m ≤ n → ∃ R u, At (nest n [t]) (List.replicate m (0 : Int)  ++ [0]) R m ((toks (nest n [t])).length - m) u ∧ ∀ r ∈ R, r.length = 1
  | 0, n, t, _ => by
    have : ∃ u, nest n [t] = [] ++ u :: [] := by
      cases n with
      | zero => exact ⟨t, rfl⟩
      | succ n => exact ⟨_, rfl⟩
    obtain ⟨u, e⟩ := this
    rw [e]
    refine ⟨[[] ++ u :: []], u, ?_, ?_⟩
    · have h := At.here [] u []
      have e2 : (toks ([] ++ u :: [])).length - 0 = (toks ([] : List Tr)).length + u.tok.length := by
        simp [toks]
      rw [e2]
      exact h
    · intro r m
      rw [List.mem_singleton.mp m]
      rfl
  | m + 1, n + 1, t, h => by
    obtain ⟨R, u, h1, h2⟩ := nest_at m n t (by omega)
    have h3 := At.into [] (nest n [t]) [] h1
    have e1 : (toks [Tr.proc (nest n [t])]).length - (m + 1) = (toks ([] : List Tr)).length + 1 + ((toks (nest n [t])).length - m) := by
      rw [toks, toks, Tr.tok, toks]
      have := h1.due (vs := []).2
      simp
      omega
    have e2 : m + 1 = (toks ([] : List Tr)).length + 1 + m := by rw [toks]; simp; omega
    have goal : At (nest (n + 1) [t]) (List.replicate (m + 1) 0 ++ [0]) (nest (n + 1) [t] :: R) (m + 1) ((toks (nest (n + 1) [t])).length - (m + 1)) u := by
      have e3 : nest (n + 1) [t] = [Tr.proc (nest n [t])] := rfl
      have g : ∀ k, k = (toks ([] : List Tr)).length + 1 + m → At [Tr.proc (nest n [t])] (List.replicate (m + 1) 0 ++ [0]) ([Tr.proc (nest n [t])] :: R) k ((toks ([] : List Tr)).length + 1 + ((toks (nest n [t])).length - m)) u := by
        rintro k rfl
        exact h3
      rw [e3, e1]
      exact g _ e2
    refine ⟨_, u, goal, ?_⟩
    intro r mr
    rcases List.mem_cons.mp mr with mr | mr
    · rw [mr]
      rfl
    · exact h2 r mr
end DL
end

section
set_option maxRecDepth 100000
set_option maxHeartbeats 1000000
/-! the plain side of DL15, DL16; trees compared -/
namespace DL
open PySem L2
section
variable {E : Exn → Env → Prop} {Q : D → Env → Prop} {QF : Fl → Env → Prop} {QL : List D → Env → Prop} {e : Env}
@[simp] theorem wp_range3 {fs : M (List D)} : Wq E (eRange3 fs e) QL = Wq E (fs e) fun ds e1 => Wq E (mopt (rgOf3 ds) e1) QL := by
  unfold eRange3
  rw [wp_mbind]
def rgN (i j : Int) : List D := (List.range (i - j).toNat).map fun n : Nat => D.int (i - (n : Int))
@[simp] theorem wp_rgOf3 {i j : Int} : Wq E (mopt (rgOf3 [.int i, .int j, .int (-1)]) e) QL = ((-1000000 ≤ i ∧ i ≤ 1000000 ∧ -1000000 ≤ j ∧ j ≤ 1000000) ∧ QL (rgN i j) e) := by
  have e0 : rgOf3 [.int i, .int j, .int (-1)] = if -1000000 ≤ i ∧ i ≤ 1000000 ∧ -1000000 ≤ j ∧ j ≤ 1000000 ∧ (-1 : Int) = -1 then some (rgN i j) else none := rfl
  rw [e0]
  by_cases h : -1000000 ≤ i ∧ i ≤ 1000000 ∧ -1000000 ≤ j ∧ j ≤ 1000000
  · have h2 : -1000000 ≤ i ∧ i ≤ 1000000 ∧ -1000000 ≤ j ∧ j ≤ 1000000 ∧ (-1 : Int) = -1 := by omega
    rw [if_pos h2]
    exact propext ⟨fun z => ⟨h, z⟩, fun z => z.2⟩
  · have h2 : ¬(-1000000 ≤ i ∧ i ≤ 1000000 ∧ -1000000 ≤ j ∧ j ≤ 1000000 ∧ (-1 : Int) = -1) := by omega
    rw [if_neg h2]
    exact propext ⟨fun z => (show False from z).elim, fun z => absurd z.1 h⟩
@[simp] theorem wp_callF {n : Nat} {F : List D → Rs D} {fs : M (List D)} : Wq E (eCallF n F fs e) QL = Wq E (fs e) fun ds e1 => (ds.length = n ∧ lfs ds = true) ∧ Wq noE (F ds) fun d _ => (match d with | .lst zs => lfs zs = true ∧ QL zs e1 | _ => False) := by
  unfold eCallF
  rw [wp_mbind]
  refine Wq.ext fun ds e1 => ?_
  rw [wp_ite]
  by_cases h : ds.length = n ∧ lfs ds = true
  · simp only [h, true_implies, not_true_eq_false, false_implies, and_true, true_and]
    cases F ds with
    | no => rfl
    | ex x o => rfl
    | ok d o =>
      rw [wp_ok]
      cases d with
      | lst zs =>
        dsimp only
        by_cases hz : lfs zs = true
        · rw [if_pos hz]
          exact propext ⟨fun z => ⟨hz, z⟩, fun z => z.2⟩
        · rw [if_neg hz]
          exact propext ⟨fun z => (show False from z).elim, fun z => absurd z.1 hz⟩
      | _ => rfl
  · exact propext ⟨fun z => (z.2 h).elim, fun z => absurd z.1 h⟩
@[simp] theorem wp_forO {i : Nat} {t : TgF} {b : M Fl} : Wq E (sForO i t b e) QF = (match e[i]? with
    | some (some (.own ds)) => (ds.all isSh = true ∧ onlySh i e = true) ∧ Wq (fun x e' => (isAlAt i e' = true ∧ onlySh i e' = true) ∧ E x (e'.set i (some (.own ds)))) (forL t b ds (e.set i (some (.al i)))) fun f e' => (isAlAt i e' = true ∧ onlySh i e' = true) ∧ QF f (e'.set i (some (.own ds)))
    | _ => False) := by
  unfold sForO
  cases he : e[i]? with
  | none => rfl
  | some o => cases o with
    | none => rfl
    | some d => cases d with
      | own ds =>
        show Wq E (if ds.all isSh = true ∧ onlySh i e = true then unH i ds (forL t b ds (e.set i (some (.al i)))) else .no) QF = ((ds.all isSh = true ∧ onlySh i e = true) ∧ Wq (fun x e' => (isAlAt i e' = true ∧ onlySh i e' = true) ∧ E x (e'.set i (some (.own ds)))) (forL t b ds (e.set i (some (.al i)))) fun f e' => (isAlAt i e' = true ∧ onlySh i e' = true) ∧ QF f (e'.set i (some (.own ds))))
        by_cases h : ds.all isSh = true ∧ onlySh i e = true
        · rw [if_pos h]
          generalize forL t b ds (e.set i (some (.al i))) = r
          cases r with
          | no => exact propext ⟨fun z => (show False from z).elim, fun z => (show False from z.2).elim⟩
          | ex x e' =>
            show Wq E (if isAlAt i e' = true ∧ onlySh i e' = true then .ex x (e'.set i (some (.own ds))) else .no) QF = _
            by_cases h2 : isAlAt i e' = true ∧ onlySh i e' = true
            · rw [if_pos h2]
              exact propext ⟨fun z => ⟨h, h2, z⟩, fun z => z.2.2⟩
            · rw [if_neg h2]
              exact propext ⟨fun z => (show False from z).elim, fun z => absurd z.2.1 h2⟩
          | ok f e' =>
            show Wq E (if isAlAt i e' = true ∧ onlySh i e' = true then .ok f (e'.set i (some (.own ds))) else .no) QF = _
            by_cases h2 : isAlAt i e' = true ∧ onlySh i e' = true
            · rw [if_pos h2]
              exact propext ⟨fun z => ⟨h, h2, z⟩, fun z => z.2.2⟩
            · rw [if_neg h2]
              exact propext ⟨fun z => (show False from z).elim, fun z => absurd z.2.1 h2⟩
        · rw [if_neg h]
          exact propext ⟨fun z => (show False from z).elim, fun z => absurd z.1 h⟩
      | _ => rfl
theorem onlySh_eq {i : Nat} : onlySh i e = (e.set i none).all isShO := rfl
@[simp] theorem isShO_none : isShO none = true := rfl
@[simp] theorem isShO_some {d : D} : isShO (some d) = isSh d := rfl
theorem isAlAt_eq {i : Nat} : isAlAt i e = (match e[i]? with
  | some (some (.al j)) => decide (j = i)
  | _ => false) := rfl
@[simp] theorem listT_tup {xs : List D} : dListT [.tup xs] = some (.lst xs) := rfl
@[simp] theorem slice_tup {xs : List D} {lo hi : Option Int} : dSlice (.tup xs) lo hi = some (.tup (cutD xs lo hi)) := rfl
@[simp] theorem add_tup {xs ys : List D} : dAdd (.tup xs) (.tup ys) = if xs.length + ys.length ≤ 1000000 then some (.tup (xs ++ ys)) else none := rfl
@[simp] theorem mulB_tup {xs : List D} {k : Int} : dMulB (.tup xs) (.int k) = if 1 ≤ k ∧ k ≤ 1000 ∧ 1 ≤ xs.length ∧ xs.length ≤ 1000 then some (.tup (List.replicate k.toNat xs).flatten) else none := rfl
theorem max2_eq {i j : Int} : dMax2 [.int i, .int j] = some (.int (max i j)) := by
  show some (D.int (if j > i then j else i)) = _
  congr 2
  omega
theorem min2_eq {i j : Int} : dMin2 [.int i, .int j] = some (.int (min i j)) := by
  show some (D.int (if j < i then j else i)) = _
  congr 2
  omega
theorem cut_from_s {xs : List D} {k : Nat} : cutD xs (some ((k : Int) + 1)) none = xs.drop (k + 1) := cut_from (k := k + 1)
theorem cut_from_1 {xs : List D} : cutD xs (some 1) none = xs.drop 1 := cut_from (k := 1)
theorem cut_to_m1 {xs : List D} : cutD xs none (some (-1)) = xs.dropLast := by
  have e : HT.sIx xs.length xs.length (some (-1)) = xs.length - 1 := by
    simp [HT.sIx]
    omega
  unfold cutD
  rw [e, HT.sIx_none, List.drop_zero, Nat.sub_zero, List.dropLast_eq_take]
theorem ne_own {xs ys : List D} (h : xs.all isSh = true) : dNe (.own xs) (.lst ys) = dNe (.lst xs) (.lst ys) := by
  have e : pyOf (.own xs) = pyOf (.lst xs) := by
    show (if (xs.all isSh) = true then toPy (.lst xs) else none) = toPy (.lst xs)
    rw [if_pos h]
  show (dEqG (.own xs) (.lst ys)).map _ = (dEqG (.lst xs) (.lst ys)).map _
  unfold dEqG
  rw [e]
theorem item_two (w : List Nat) : ∃ (k : List Nat) (x : D), itemL w = .tup [sd k, x] ∧ k ≠ kProc ∧ isSh x = true := by
  unfold itemL
  split
  · refine ⟨_, _, rfl, by decide, ?_⟩
    unfold tnD
    split <;> rfl
  · split
    · exact ⟨_, _, rfl, by decide, rfl⟩
    · exact ⟨_, _, rfl, by decide, rfl⟩
end
mutual
theorem cmp_tr : ∀ {t : Tr} {n : Nat}, t.ok → t.dep ≤ n → Cmp (2 + 2 * n) t.d
  | .leaf w, n, h, _ => by
    rw [Tr.ok] at h
    rw [Tr.d]
    exact (Cmp.item h).mono (by omega)
  | .proc us, n, h, hd => by
    rw [Tr.ok] at h
    rw [Tr.dep] at hd
    rw [Tr.d]
    have kp : ∀ c ∈ kProc, c < 128 := by decide
    have h1 : Cmp (2 + 2 * (n - 1) + 1) (.tup (trsD us)) := Cmps.tup (cmp_trs h (by omega))
    exact (Cmps.tup (.cons (.sd kp) (.cons h1 .nil))).mono (by omega)
theorem cmp_trs : ∀ {ts : List Tr} {n : Nat}, oks ts → deps ts ≤ n → Cmps (2 + 2 * n) (trsD ts)
  | [], n, _, _ => by rw [trsD]; exact .nil
  | t :: ts, n, h, hd => by
    rw [oks] at h
    rw [deps] at hd
    rw [trsD]
    exact .cons (cmp_tr h.1 (by omega)) (cmp_trs h.2 (by omega))
end
theorem d_tup (t : Tr) : ∃ xs, t.d = .tup xs := by
  cases t with
  | leaf w =>
    rw [Tr.d]
    obtain ⟨k, x, e, _⟩ := item_two w
    exact ⟨_, e⟩
  | proc us =>
    rw [Tr.d]
    exact ⟨_, rfl⟩
theorem eq_tr {t : Tr} (h : t.ok) (hd : t.dep ≤ 30) : dEq t.d t.d = some (.bl true) ∧ dNe t.d t.d = some (.bl false) := by
  have c := cmp_tr h hd
  obtain ⟨xs, e⟩ := d_tup t
  rw [e] at c ⊢
  exact eq_self (c.mono (by omega)) rfl rfl
theorem eq_trs {ts : List Tr} (h : oks ts) (hd : deps ts ≤ 30) : dEq (.tup (trsD ts)) (.tup (trsD ts)) = some (.bl true) ∧ dNe (.tup (trsD ts)) (.tup (trsD ts)) = some (.bl false) :=
  eq_self ((Cmps.tup (cmp_trs h hd)).mono (by omega)) rfl rfl
/-! ### paths alone -/
mutual
def pth1 (b : List Int) (z : Nat) : Tr → List (List Int)
  | .leaf _ => [b ++ [(z : Int)]]
  | .proc us => (b ++ [(z : Int)]) :: pths (b ++ [(z : Int)]) 0 us
def pths (b : List Int) (z : Nat) : List Tr → List (List Int)
  | [] => []
  | t :: ts => pth1 b z t ++ pths b (z + 1) ts
end
mutual
theorem pre1_pth : ∀ {t : Tr} {b : List Int} {z k : Nat}, (pre1 b z k t).map (·.1) = pth1 b z t
  | .leaf w, b, z, k => by rw [pre1, pth1]; rfl
  | .proc us, b, z, k => by rw [pre1, pth1, List.map_cons, pre_pth]
theorem pre_pth : ∀ {ts : List Tr} {b : List Int} {z k : Nat}, (pre b z k ts).map (·.1) = pths b z ts
  | [], b, z, k => by rw [pre, pths]; rfl
  | t :: ts, b, z, k => by rw [pre, pths, List.map_append, pre1_pth, pre_pth]
end
theorem pths_snoc : ∀ {ts : List Tr} {t : Tr} {b : List Int} {z : Nat}, pths b z (ts ++ [t]) = pths b z ts ++ pth1 b (z + ts.length) t
  | [], t, b, z => by rw [List.nil_append, pths, pths, pths]; simp
  | u :: ts, t, b, z => by
    rw [List.cons_append, pths, pths, pths_snoc, List.length_cons, List.append_assoc]
    have : z + 1 + ts.length = z + (ts.length + 1) := by omega
    rw [this]
mutual
theorem pth1_len : ∀ {t : Tr} {b : List Int} {z : Nat}, (pth1 b z t).length ≤ t.tok.length
  | .leaf w, b, z => by rw [pth1, Tr.tok]; simp
  | .proc us, b, z => by
    have := pths_len (ts := us) (b := b ++ [(z : Int)]) (z := 0)
    rw [pth1, tok_len_proc, List.length_cons]
    omega
theorem pths_len : ∀ {ts : List Tr} {b : List Int} {z : Nat}, (pths b z ts).length ≤ (toks ts).length
  | [], b, z => by rw [pths]; simp
  | t :: ts, b, z => by
    have h1 := pth1_len (t := t) (b := b) (z := z)
    have h2 := pths_len (ts := ts) (b := b) (z := z + 1)
    rw [pths, toks, List.length_append, List.length_append]
    omega
end
theorem dep_mem : ∀ {ts : List Tr} {t : Tr}, t ∈ ts → t.dep ≤ deps ts
  | u :: ts, t, m => by
    rw [deps]
    rcases List.mem_cons.mp m with m | m
    · rw [m]
      omega
    · have := dep_mem m
      omega
theorem tok_mem : ∀ {ts : List Tr} {t : Tr}, t ∈ ts → t.tok.length ≤ (toks ts).length
  | u :: ts, t, m => by
    rw [toks, List.length_append]
    rcases List.mem_cons.mp m with m | m
    · rw [m]
      omega
    · have := tok_mem m
      omega
section
variable {t : Tr} {e : Env} {k : Nat}
@[simp] theorem rs_d : rs e t.d = t.d := by obtain ⟨xs, h⟩ := d_tup t; rw [h]; rfl
@[simp] theorem rsB_d : rsB e t.d = t.d := by obtain ⟨xs, h⟩ := d_tup t; rw [h]; rfl
@[simp] theorem shOnly_d : shOnly t.d = some t.d := by obtain ⟨xs, h⟩ := d_tup t; rw [h]; rfl
@[simp] theorem see_d : seeD k t.d = t.d := by obtain ⟨xs, h⟩ := d_tup t; rw [h]; rfl
@[simp] theorem isSh_d : isSh t.d = true := d_sh t
end
end DL
end

section
set_option maxRecDepth 100000
namespace K03
open PySem L2 DL
@[simp] theorem lit_0 : D.str "0123456789" = sd [48, 49, 50, 51, 52, 53, 54, 55, 56, 57] := by rfl
@[simp] theorem lit_1 : D.str " \n{}" = sd [32, 10, 123, 125] := by rfl
@[simp] theorem lit_2 : D.str "abcdefghijklmnopqrstuvwxyz" = sd [97, 98, 99, 100, 101, 102, 103, 104, 105, 106, 107, 108, 109, 110, 111, 112, 113, 114, 115, 116, 117, 118, 119, 120, 121, 122] := by rfl
@[simp] theorem lit_3 : D.str "drop" = sd [100, 114, 111, 112] := by rfl
@[simp] theorem lit_4 : D.str "twin" = sd [116, 119, 105, 110] := by rfl
@[simp] theorem lit_5 : D.str "swap" = sd [115, 119, 97, 112] := by rfl
@[simp] theorem lit_6 : D.str "over" = sd [111, 118, 101, 114] := by rfl
@[simp] theorem lit_7 : D.str "rot" = sd [114, 111, 116] := by rfl
@[simp] theorem lit_8 : D.str "pick" = sd [112, 105, 99, 107] := by rfl
@[simp] theorem lit_9 : D.str "count" = sd [99, 111, 117, 110, 116] := by rfl
@[simp] theorem lit_10 : D.str "mark" = sd [109, 97, 114, 107] := by rfl
@[simp] theorem lit_11 : D.str "[" = sd [91] := by rfl
@[simp] theorem lit_12 : D.str "]" = sd [93] := by rfl
@[simp] theorem lit_13 : D.str "wipe" = sd [119, 105, 112, 101] := by rfl
@[simp] theorem lit_14 : D.str "add" = sd [97, 100, 100] := by rfl
@[simp] theorem lit_15 : D.str "sub" = sd [115, 117, 98] := by rfl
@[simp] theorem lit_16 : D.str "mul" = sd [109, 117, 108] := by rfl
@[simp] theorem lit_17 : D.str "div" = sd [100, 105, 118] := by rfl
@[simp] theorem lit_18 : D.str "neg" = sd [110, 101, 103] := by rfl
@[simp] theorem lit_19 : D.str "min" = sd [109, 105, 110] := by rfl
@[simp] theorem lit_20 : D.str "max" = sd [109, 97, 120] := by rfl
@[simp] theorem lit_21 : D.str "abs" = sd [97, 98, 115] := by rfl
@[simp] theorem lit_22 : D.str "floor" = sd [102, 108, 111, 111, 114] := by rfl
@[simp] theorem lit_23 : D.str "letter" = sd [108, 101, 116, 116, 101, 114] := by rfl
@[simp] theorem lit_24 : D.str "lt" = sd [108, 116] := by rfl
@[simp] theorem lit_25 : D.str "le" = sd [108, 101] := by rfl
@[simp] theorem lit_26 : D.str "eq" = sd [101, 113] := by rfl
@[simp] theorem lit_27 : D.str "not" = sd [110, 111, 116] := by rfl
@[simp] theorem lit_28 : D.str "and" = sd [97, 110, 100] := by rfl
@[simp] theorem lit_29 : D.str "or" = sd [111, 114] := by rfl
@[simp] theorem lit_30 : D.str "true" = sd [116, 114, 117, 101] := by rfl
@[simp] theorem lit_31 : D.str "false" = sd [102, 97, 108, 115, 101] := by rfl
@[simp] theorem lit_32 : D.str "do" = sd [100, 111] := by rfl
@[simp] theorem lit_33 : D.str "if" = sd [105, 102] := by rfl
@[simp] theorem lit_34 : D.str "choose" = sd [99, 104, 111, 111, 115, 101] := by rfl
@[simp] theorem lit_35 : D.str "times" = sd [116, 105, 109, 101, 115] := by rfl
@[simp] theorem lit_36 : D.str "for" = sd [102, 111, 114] := by rfl
@[simp] theorem lit_37 : D.str "each" = sd [101, 97, 99, 104] := by rfl
@[simp] theorem lit_38 : D.str "def" = sd [100, 101, 102] := by rfl
@[simp] theorem lit_39 : D.str "get" = sd [103, 101, 116] := by rfl
@[simp] theorem lit_40 : D.str "known" = sd [107, 110, 111, 119, 110] := by rfl
@[simp] theorem lit_41 : D.str "begin" = sd [98, 101, 103, 105, 110] := by rfl
@[simp] theorem lit_42 : D.str "end" = sd [101, 110, 100] := by rfl
@[simp] theorem lit_43 : D.str "size" = sd [115, 105, 122, 101] := by rfl
@[simp] theorem lit_44 : D.str "nth" = sd [110, 116, 104] := by rfl
@[simp] theorem lit_45 : D.str "join" = sd [106, 111, 105, 110] := by rfl
@[simp] theorem lit_46 : D.str "spread" = sd [115, 112, 114, 101, 97, 100] := by rfl
@[simp] theorem lit_47 : D.str "save" = sd [115, 97, 118, 101] := by rfl
@[simp] theorem lit_48 : D.str "back" = sd [98, 97, 99, 107] := by rfl
@[simp] theorem lit_49 : D.str "shift" = sd [115, 104, 105, 102, 116] := by rfl
@[simp] theorem lit_50 : D.str "scale" = sd [115, 99, 97, 108, 101] := by rfl
@[simp] theorem lit_51 : D.str "matrix" = sd [109, 97, 116, 114, 105, 120] := by rfl
@[simp] theorem lit_52 : D.str "ink" = sd [105, 110, 107] := by rfl
@[simp] theorem lit_53 : D.str "share" = sd [115, 104, 97, 114, 101] := by rfl
@[simp] theorem lit_54 : D.str "pen" = sd [112, 101, 110] := by rfl
@[simp] theorem lit_55 : D.str "cuts" = sd [99, 117, 116, 115] := by rfl
@[simp] theorem lit_56 : D.str "at" = sd [97, 116] := by rfl
@[simp] theorem lit_57 : D.str "line" = sd [108, 105, 110, 101] := by rfl
@[simp] theorem lit_58 : D.str "by" = sd [98, 121] := by rfl
@[simp] theorem lit_59 : D.str "curve" = sd [99, 117, 114, 118, 101] := by rfl
@[simp] theorem lit_60 : D.str "shut" = sd [115, 104, 117, 116] := by rfl
@[simp] theorem lit_61 : D.str "box" = sd [98, 111, 120] := by rfl
@[simp] theorem lit_62 : D.str "fresh" = sd [102, 114, 101, 115, 104] := by rfl
@[simp] theorem lit_63 : D.str "fill" = sd [102, 105, 108, 108] := by rfl
@[simp] theorem lit_64 : D.str "fillodd" = sd [102, 105, 108, 108, 111, 100, 100] := by rfl
@[simp] theorem lit_65 : D.str "stroke" = sd [115, 116, 114, 111, 107, 101] := by rfl
@[simp] theorem lit_66 : D.str "clip" = sd [99, 108, 105, 112] := by rfl
@[simp] theorem lit_67 : D.str "clipodd" = sd [99, 108, 105, 112, 111, 100, 100] := by rfl
@[simp] theorem lit_68 : D.str "record" = sd [114, 101, 99, 111, 114, 100] := by rfl
@[simp] theorem lit_69 : D.str "put" = sd [112, 117, 116] := by rfl
@[simp] theorem lit_70 : D.str "show" = sd [115, 104, 111, 119] := by rfl
@[simp] theorem lit_71 : D.str "tile" = sd [116, 105, 108, 101] := by rfl
@[simp] theorem lit_72 : D.str "page" = sd [112, 97, 103, 101] := by rfl
@[simp] theorem lit_73 : D.str "clean" = sd [99, 108, 101, 97, 110] := by rfl
@[simp] theorem lit_74 : D.str "0" = sd [48] := by rfl
@[simp] theorem lit_75 : D.str "/" = sd [47] := by rfl
@[simp] theorem lit_76 : D.str "-" = sd [45] := by rfl
@[simp] theorem lit_77 : D.str "" = sd [] := by rfl
@[simp] theorem lit_78 : D.str "{" = sd [123] := by rfl
@[simp] theorem lit_79 : D.str "open" = sd [111, 112, 101, 110] := by rfl
@[simp] theorem lit_80 : D.str "}" = sd [125] := by rfl
@[simp] theorem lit_81 : D.str "close" = sd [99, 108, 111, 115, 101] := by rfl
@[simp] theorem lit_82 : D.str "word" = sd [119, 111, 114, 100] := by rfl
@[simp] theorem lit_83 : D.str "name" = sd [110, 97, 109, 101] := by rfl
@[simp] theorem lit_84 : D.str "number" = sd [110, 117, 109, 98, 101, 114] := by rfl
@[simp] theorem lit_85 : D.str "bad" = sd [98, 97, 100] := by rfl
@[simp] theorem lit_86 : D.str " " = sd [32] := by rfl
@[simp] theorem lit_87 : D.str "proc" = sd [112, 114, 111, 99] := by rfl
@[simp] theorem lit_88 : D.str "drop twin swap over rot pick count mark [ ] wipe add sub mul div neg min max abs" = sd [100, 114, 111, 112, 32, 116, 119, 105, 110, 32, 115, 119, 97, 112, 32, 111, 118, 101, 114, 32, 114, 111, 116, 32, 112, 105, 99, 107, 32, 99, 111, 117, 110, 116, 32, 109, 97, 114, 107, 32, 91, 32, 93, 32, 119, 105, 112, 101, 32, 97, 100, 100, 32, 115, 117, 98, 32, 109, 117, 108, 32, 100, 105, 118, 32, 110, 101, 103, 32, 109, 105, 110, 32, 109, 97, 120, 32, 97, 98, 115] := by rfl
@[simp] theorem lit_89 : D.str " floor letter lt le eq not and or true false do if choose times for each" = sd [32, 102, 108, 111, 111, 114, 32, 108, 101, 116, 116, 101, 114, 32, 108, 116, 32, 108, 101, 32, 101, 113, 32, 110, 111, 116, 32, 97, 110, 100, 32, 111, 114, 32, 116, 114, 117, 101, 32, 102, 97, 108, 115, 101, 32, 100, 111, 32, 105, 102, 32, 99, 104, 111, 111, 115, 101, 32, 116, 105, 109, 101, 115, 32, 102, 111, 114, 32, 101, 97, 99, 104] := by rfl
@[simp] theorem lit_90 : D.str " def get known begin end size nth join spread save back shift scale matrix" = sd [32, 100, 101, 102, 32, 103, 101, 116, 32, 107, 110, 111, 119, 110, 32, 98, 101, 103, 105, 110, 32, 101, 110, 100, 32, 115, 105, 122, 101, 32, 110, 116, 104, 32, 106, 111, 105, 110, 32, 115, 112, 114, 101, 97, 100, 32, 115, 97, 118, 101, 32, 98, 97, 99, 107, 32, 115, 104, 105, 102, 116, 32, 115, 99, 97, 108, 101, 32, 109, 97, 116, 114, 105, 120] := by rfl
@[simp] theorem lit_91 : D.str " ink share pen cuts at line by curve shut box fresh fill fillodd stroke clip" = sd [32, 105, 110, 107, 32, 115, 104, 97, 114, 101, 32, 112, 101, 110, 32, 99, 117, 116, 115, 32, 97, 116, 32, 108, 105, 110, 101, 32, 98, 121, 32, 99, 117, 114, 118, 101, 32, 115, 104, 117, 116, 32, 98, 111, 120, 32, 102, 114, 101, 115, 104, 32, 102, 105, 108, 108, 32, 102, 105, 108, 108, 111, 100, 100, 32, 115, 116, 114, 111, 107, 101, 32, 99, 108, 105, 112] := by rfl
@[simp] theorem lit_92 : D.str " clipodd record put show tile page clean" = sd [32, 99, 108, 105, 112, 111, 100, 100, 32, 114, 101, 99, 111, 114, 100, 32, 112, 117, 116, 32, 115, 104, 111, 119, 32, 116, 105, 108, 101, 32, 112, 97, 103, 101, 32, 99, 108, 101, 97, 110] := by rfl
@[simp] theorem lit_93 : D.str "abcdefghijklmnopqrstuvwxyz0123456789" = sd [97, 98, 99, 100, 101, 102, 103, 104, 105, 106, 107, 108, 109, 110, 111, 112, 113, 114, 115, 116, 117, 118, 119, 120, 121, 122, 48, 49, 50, 51, 52, 53, 54, 55, 56, 57] := by rfl
@[simp] theorem lit_94 : D.str "\n" = sd [10] := by rfl
@[simp] theorem lit_95 : D.str " \n " = sd [32, 10, 32] := by rfl
@[simp] theorem lit_96 : D.str "  " = sd [32, 32] := by rfl
@[simp] theorem lit_97 : D.str " \n" = sd [32, 10] := by rfl
@[simp] theorem lit_98 : D.str "item_at" = sd [105, 116, 101, 109, 95, 97, 116] := by rfl
@[simp] theorem lit_99 : D.str "a" = sd [97] := by rfl
@[simp] theorem lit_100 : D.str "exchanged" = sd [101, 120, 99, 104, 97, 110, 103, 101, 100] := by rfl
end K03
end

section
set_option maxRecDepth 100000
set_option maxHeartbeats 1000000
namespace K03
open PySem L2 DL
theorem low_eq : c_SMALL_LETTERS = sd lowL := by rfl
theorem dig_eq : c_DIGITS = sd digL := by rfl
theorem sep_eq : c_SEPARATORS = sd sepL := by rfl
abbrev nameB : M Fl := sIf (tAndD (tOf (eBin (dInB true) (eVar 1) (eC (sd lowL)))) (tOf (eBin (dInB true) (eVar 1) (eC (sd digL))))) (sRet (eC (.bl false))) sNext
theorem name_loop {l : List Nat} {Q : Fl → DL.Env → Prop} : ∀ (m : List Nat) (o : Option D), (if (m.all fun c => isLo c || isDg c) = true then ∀ o, Q .nx [some (sd l), o] else ∀ o, Q (.rt (.bl false)) [some (sd l), o]) → Wp (forL (gN 1) nameB (m.map fun c => sd [c]) [some (sd l), o]) Q
  | [], o, h => by
    have h : ∀ o, Q .nx [some (sd l), o] := by simpa using h
    exact h o
  | c :: m, o, h => by
    rw [List.all_cons] at h
    have ih := name_loop (l := l) (Q := Q) m (some (sd [c]))
    simp -implicitDefEqProofs -dsimp
    cases h1 : isLo c with
    | true =>
      rw [h1] at h
      simp only [Bool.true_or, Bool.true_and] at h
      simpa using ih h
    | false => cases h2 : isDg c with
      | true =>
        rw [h1, h2] at h
        simp only [Bool.false_or, Bool.true_and] at h
        simpa using ih h
      | false =>
        rw [h1, h2] at h
        simpa using h _
theorem is_name_ok {l : List Nat} (hl : l.length ≤ 1000000) : Wp (F_is_name [sd l]) fun d _ => d = .bl (nameOk l) := by
  unfold F_is_name
  first | rw [wp_runP] | rw [wp_runF]
  cases l with
  | nil => simp -implicitDefEqProofs -dsimp [low_eq, dig_eq, nameOk]
  | cons c r =>
    have hl : r.length + 1 ≤ 1000000 := hl
    simp -implicitDefEqProofs -dsimp [low_eq, dig_eq, -wp_forCons]
    refine ⟨by omega, fun _ => ⟨fun h => ?_, fun h => ⟨by omega, fun h1 => ?_, fun h1 => name_loop (c :: r) _ ?_⟩⟩, fun h => by omega⟩
    · have : ¬(1 ≤ (c :: r).length ∧ (c :: r).length ≤ 8) := by
        rw [List.length_cons]
        omega
      unfold nameOk
      rw [decide_eq_false this]
      rfl
    · simp [nameOk, h1]
    · have e : nameOk (c :: r) = (c :: r).all fun c => isLo c || isDg c := by
        have : (1 ≤ (c :: r).length ∧ (c :: r).length ≤ 8) := by
          rw [List.length_cons]
          omega
        unfold nameOk
        rw [decide_eq_true this, List.head?_cons, Option.any_some, h1, Bool.true_and, Bool.true_and]
      rw [e]
      cases ((c :: r).all fun c => isLo c || isDg c) with
      | true =>
        rw [if_pos rfl]
        intro o
        simp -implicitDefEqProofs -dsimp
      | false =>
        rw [if_neg Bool.false_ne_true]
        intro o
        simp -implicitDefEqProofs -dsimp
/-! digits -/
abbrev digB : M Fl := sIf (tOf (eBin (dInB true) (eVar 1) (eC (sd digL)))) (sRet (eC .non)) sNext
theorem dig_loop {l : List Nat} {Q : Fl → DL.Env → Prop} : ∀ (m : List Nat) (o : Option D), (if (m.all isDg) = true then ∀ o, Q .nx [some (sd l), o] else ∀ o, Q (.rt .non) [some (sd l), o]) → Wp (forL (gN 1) digB (m.map fun c => sd [c]) [some (sd l), o]) Q
  | [], o, h => by
    have h : ∀ o, Q .nx [some (sd l), o] := by simpa using h
    exact h o
  | c :: m, o, h => by
    rw [List.all_cons] at h
    have ih := dig_loop (l := l) (Q := Q) m (some (sd [c]))
    simp -implicitDefEqProofs -dsimp
    cases h2 : isDg c with
    | true =>
      rw [h2] at h
      simp only [Bool.true_and] at h
      simpa using ih h
    | false =>
      rw [h2] at h
      simpa using h _
/-- an option of a number -/
def natD : Option Nat → D
  | some n => .int (n : Int)
  | none => .non
theorem digits_ok {l : List Nat} (hl : l.length ≤ 1000000) : Wp (F_digits_value [sd l]) fun d _ => d = natD (dvO l) := by
  unfold F_digits_value
  first | rw [wp_runP] | rw [wp_runF]
  cases l with
  | nil => simp -implicitDefEqProofs -dsimp [dig_eq, dvO, natD]
  | cons c r =>
    have hl : r.length + 1 ≤ 1000000 := hl
    have key : (c :: r).length ≤ 24 → ¬((c :: r).head? = some 48 ∧ ¬(c :: r) = [48]) → Wp (forL (gN 1) digB ((c :: r).map fun c => sd [c]) [some (sd (c :: r)), none]) (DL.thn noE (sRet (eBlt dIntT (aCons (eVar 0) aNil))) fun f e =>
        borOk [sd (c :: r)] e = true ∧ (match f with | .rt d => d = natD (dvO (c :: r)) | .nx => D.non = natD (dvO (c :: r)) | _ => False)) := fun h1 h2 => by
      refine dig_loop (c :: r) _ ?_
      have h3 : 1 ≤ (c :: r).length ∧ (c :: r).length ≤ 24 := ⟨by simp, h1⟩
      cases e : (c :: r).all isDg with
      | true =>
        have q : dvO (c :: r) = some (NumText.digitsVal (c :: r)) := by
          unfold dvO
          exact if_pos ⟨h3, h2, e⟩
        rw [if_pos rfl, q]
        intro o
        simp -implicitDefEqProofs -dsimp
        rw [wp_intT (digL_of e) (by simp) (by omega)]
        simp -implicitDefEqProofs -dsimp [natD]
      | false =>
        have q : dvO (c :: r) = none := by
          unfold dvO
          exact if_neg fun z => by rw [e] at z; exact Bool.false_ne_true z.2.2
        rw [if_neg Bool.false_ne_true, q]
        intro o
        simp -implicitDefEqProofs -dsimp [natD]
    have no : ¬((1 ≤ (c :: r).length ∧ (c :: r).length ≤ 24) ∧ ¬((c :: r).head? = some 48 ∧ ¬(c :: r) = [48])) → D.non = natD (dvO (c :: r)) := fun h => by
      unfold dvO
      rw [if_neg fun z => h ⟨z.1, z.2.1⟩]
      rfl
    rw [List.length_cons] at key no
    simp -implicitDefEqProofs -dsimp [dig_eq, -wp_forCons]
    refine ⟨by omega, fun _ => ⟨fun h => no fun z => by omega, fun h => ⟨by omega, fun h1 => ⟨fun h2 => no fun z => z.2 ⟨by simp [h1], fun e => ?_⟩, fun h2 h3 => key (by omega) fun z => z.2 (by rw [h2, h3])⟩, fun h1 => key (by omega) fun z => h1 (by simpa using z.1)⟩⟩, fun h => by omega⟩
    simp only [List.cons.injEq] at e
    rcases h2 with h2 | h2
    · exact h2 e.1
    · exact h2 e.2
/-! numbers -/
theorem dvO_len {l : List Nat} {n : Nat} (h : dvO l = some n) : n < 10 ^ 24 := by
  unfold dvO at h
  split at h
  · rename_i z
    cases h
    exact digVal_lt z.2.2 z.1.2
  · cases h
theorem rat_is {n : Int} {q : List Nat} : ratD n [47] q = (match dvO q with
    | some d => if d < 2 ∨ Nat.gcd n.natAbs d ≠ 1 then .non else tI [n, 0, (d : Int)]
    | none => .non) := if_neg (by simp)
theorem token_number_ok {l : List Nat} (hl : l.length ≤ 1000000) : Wp (F_token_number [sd l]) fun d _ => d = tnD l := by
  have neg : ∀ {p s q : List Nat}, p.take 1 = [45] → restD p s q = (match dvO p.tail with | some n => if n = 0 then .non else ratD (-(n : Int)) s q | none => .non) := fun {p s q} h => by
    unfold restD sgnO
    rw [if_pos h]
    cases dvO p.tail with
    | none => rfl
    | some n =>
      rw [Option.bind_some]
      dsimp only
      by_cases z : n = 0
      · rw [if_pos z, if_pos z]
      · rw [if_neg z, if_neg z]
  have pos : ∀ {p s q : List Nat}, ¬p.take 1 = [45] → restD p s q = (match dvO p with | some n => ratD (n : Int) s q | none => .non) := fun {p s q} h => by
    unfold restD sgnO
    rw [if_neg h]
    cases dvO p <;> rfl
  unfold F_token_number
  first | rw [wp_runP] | rw [wp_runF]
  cases h : TL.par [47] [] l with
  | none =>
    rw [tnD_none h]
    simp -implicitDefEqProofs -dsimp [h, hl]
    refine ⟨fun h1 => ?_, fun h1 => ?_⟩
    · rw [neg h1]
      refine (digits_ok (l := l.tail) (by simp; omega)).imp ?_
      rintro _ _ rfl
      simp -implicitDefEqProofs -dsimp
      cases e : dvO l.tail with
      | none => simp -implicitDefEqProofs -dsimp [natD]
      | some n =>
        simp -implicitDefEqProofs -dsimp [natD, h1]
        exact ⟨fun z k => absurd z k, fun z => by rw [if_neg z]; rfl⟩
    · rw [pos h1]
      refine (digits_ok hl).imp ?_
      rintro _ _ rfl
      simp -implicitDefEqProofs -dsimp
      cases e : dvO l with
      | none => simp -implicitDefEqProofs -dsimp [natD]
      | some n =>
        simp -implicitDefEqProofs -dsimp [natD, h1]
        rfl
  | some t =>
    obtain ⟨p, q⟩ := t
    obtain ⟨u, rfl, rfl, _⟩ := par_some _ _ _ _ h
    rw [tnD_some h]
    rw [List.length_append, List.length_cons] at hl
    have hp : p.length ≤ 1000000 := by omega
    have hq : q.length ≤ 1000000 := by omega
    simp -implicitDefEqProofs -dsimp [h, hl, hp, hq]
    refine ⟨fun h1 => ?_, fun h1 => ?_⟩
    · rw [neg h1]
      refine (digits_ok (l := p.tail) (by simp; omega)).imp ?_
      rintro _ _ rfl
      simp -implicitDefEqProofs -dsimp
      cases e : dvO p.tail with
      | none => simp -implicitDefEqProofs -dsimp [natD]
      | some n =>
        simp -implicitDefEqProofs -dsimp [natD, h1]
        refine ⟨fun z k => absurd z k, fun z => ?_⟩
        rw [if_neg z, rat_is]
        refine (digits_ok hq).imp ?_
        rintro _ _ rfl
        simp -implicitDefEqProofs -dsimp
        cases e2 : dvO q with
        | none => simp -implicitDefEqProofs -dsimp [natD]
        | some d =>
          simp -implicitDefEqProofs -dsimp [natD]
          exact ⟨fun h1 h2 => by omega, fun h1 => ⟨fun h2 _ z => h2 (by rw [z]; rfl), fun h2 => by
            rw [if_neg fun z => z.elim (fun a => by omega) fun a => a (by omega)]
            rfl⟩⟩
    · rw [pos h1]
      refine (digits_ok hp).imp ?_
      rintro _ _ rfl
      simp -implicitDefEqProofs -dsimp
      cases e : dvO p with
      | none => simp -implicitDefEqProofs -dsimp [natD]
      | some n =>
        simp -implicitDefEqProofs -dsimp [natD, h1]
        rw [rat_is]
        refine (digits_ok hq).imp ?_
        rintro _ _ rfl
        simp -implicitDefEqProofs -dsimp
        cases e2 : dvO q with
        | none => simp -implicitDefEqProofs -dsimp [natD]
        | some d =>
          simp -implicitDefEqProofs -dsimp [natD]
          exact ⟨fun h1 h2 => by omega, fun h1 => ⟨fun h2 _ z => h2 (by rw [z]; rfl), fun h2 => by
            rw [if_neg fun z => z.elim (fun a => by omega) fun a => a (by omega)]
            rfl⟩⟩
/-! kinds -/
theorem tnD_is {l : List Nat} {n : Int} {d : Nat} (h : tnO l = some (n, d)) : tnD l = tI [n, 0, (d : Int)] := by
  unfold tnD
  rw [h]
theorem tnD_non {l : List Nat} (h : tnO l = none) : tnD l = .non := by
  unfold tnD
  rw [h]
theorem token_kind_ok {l : List Nat} (hl : l.length ≤ 1000000) : Wp (F_token_kind [sd l]) fun d _ => d = sd (kindL l) := by
  unfold F_token_kind
  first | rw [wp_runP] | rw [wp_runF]
  by_cases e1 : l = [123]
  · subst e1
    simp -implicitDefEqProofs -dsimp [kindL]
  by_cases e2 : l = [125]
  · subst e2
    simp -implicitDefEqProofs -dsimp [kindL]
  by_cases e3 : l = [91]
  · subst e3
    simp -implicitDefEqProofs -dsimp [kindL]
  by_cases e4 : l = [93]
  · subst e4
    simp -implicitDefEqProofs -dsimp [kindL]
  have k1 : kindL l = if nameOk l = true then kWord else if l.take 1 = [47] ∧ nameOk l.tail = true then kName else if (tnO l).isSome = true then kNum else kBad := by
    unfold kindL
    rw [if_neg e1, if_neg e2]
    simp only [e3, e4, false_or]
  rw [k1]
  cases hn : nameOk l with
  | true =>
    rw [if_pos rfl]
    simp -implicitDefEqProofs -dsimp [hl, e1, e2, e3, e4]
    refine (is_name_ok hl).imp ?_
    rintro _ _ rfl
    simp -implicitDefEqProofs -dsimp
    simp -implicitDefEqProofs -dsimp [hn]
  | false =>
    rw [if_neg Bool.false_ne_true]
    simp -implicitDefEqProofs -dsimp [hl, e1, e2, e3, e4]
    refine (is_name_ok hl).imp ?_
    rintro _ _ rfl
    simp -implicitDefEqProofs -dsimp
    simp -implicitDefEqProofs -dsimp [hn, hl]
    refine ⟨fun ht => ?_, fun ht => ?_⟩
    · refine (is_name_ok (l := l.tail) (by simp; omega)).imp ?_
      rintro _ _ rfl
      simp -implicitDefEqProofs -dsimp
      cases ht2 : nameOk l.tail with
      | true => simp -implicitDefEqProofs -dsimp [ht, ht2]
      | false =>
        simp -implicitDefEqProofs -dsimp [ht2]
        refine (token_number_ok hl).imp ?_
        rintro _ _ rfl
        simp -implicitDefEqProofs -dsimp
        cases h : tnO l with
        | none =>
          rw [tnD_non h]
          simp -implicitDefEqProofs -dsimp [ht, ht2]
        | some t =>
          obtain ⟨n, d⟩ := t
          rw [tnD_is h]
          simp -implicitDefEqProofs -dsimp [ht, ht2]
    · refine (token_number_ok hl).imp ?_
      rintro _ _ rfl
      simp -implicitDefEqProofs -dsimp
      cases h : tnO l with
      | none =>
        rw [tnD_non h]
        simp -implicitDefEqProofs -dsimp [ht]
      | some t =>
        obtain ⟨n, d⟩ := t
        rw [tnD_is h]
        simp -implicitDefEqProofs -dsimp [ht]
/-! tokens -/
def TokI (t : List Nat) (i : Nat) (e : DL.Env) : Prop := ∃ o3 o4 : Option D, e = [some (sd t), some (.own ((scanAt (t ++ [32]) i).found.map tokD)), some (.int ((i - (scanAt (t ++ [32]) i).pend.length : Nat) : Int)), o3, o4]
theorem tok_sh (l : List (List Nat × Nat)) : (l.map tokD).all isSh = true := by
  induction l with
  | nil => rfl
  | cons a l ih => exact ih
theorem brace_ok {t : List Nat} {f : List (List Nat × Nat)} {j c i : Nat} (hf : f.length < 1000000) :
    Wp (sSeq (sIf (tOrD (tOf (eBin dEq (eVar 4) (eC (sd [123])))) (tOf (eBin dEq (eVar 4) (eC (sd [125]))))) (sApp (eVar 1) (eTup (aCons (eCall 1 F_token_kind (aCons (eVal 4) aNil)) (aCons (eVal 4) (aCons (eVal 3) aNil))))) sNext) (sAsg 2 (eBin dAdd (eVar 3) (eC (.int 1))))
      [some (sd t), some (.own (f.map tokD)), some (.int (j : Nat)), some (.int (i : Nat)), some (sd [c])])
      fun fl e => fl = .nx ∧ e = [some (sd t), some (.own ((f ++ if c = 123 ∨ c = 125 then [([c], i)] else []).map tokD)), some (.int ((i + 1 : Nat) : Int)), some (.int (i : Nat)), some (sd [c])] := by
  by_cases hc : c = 123 ∨ c = 125
  · rw [if_pos hc]
    have go : Wp (F_token_kind [sd [c]]) fun d _ => d = sd (kindL [c]) := token_kind_ok (by simp)
    rcases hc with rfl | rfl
    · simp -implicitDefEqProofs -dsimp
      refine (go).imp ?_
      rintro _ _ rfl
      simp -implicitDefEqProofs -dsimp
      simp -implicitDefEqProofs -dsimp [hf]
      refine ⟨fun x a b _ e => by rw [← e]; rfl, ?_⟩
      first | rfl | exact ⟨hf, rfl⟩
    · simp -implicitDefEqProofs -dsimp
      refine (go).imp ?_
      rintro _ _ rfl
      simp -implicitDefEqProofs -dsimp
      simp -implicitDefEqProofs -dsimp [hf]
      refine ⟨fun x a b _ e => by rw [← e]; rfl, ?_⟩
      first | rfl | exact ⟨hf, rfl⟩
  · rw [if_neg hc]
    have h1 : ¬c = 123 := fun z => hc (.inl z)
    have h2 : ¬c = 125 := fun z => hc (.inr z)
    simp -implicitDefEqProofs -dsimp [h1, h2]
theorem tokens_ok {t : List Nat} (hl : t.length ≤ 300000) : Wp (F_tokens [sd t]) fun d _ => d = .lst ((toksL t).map tokD) := by
  unfold F_tokens
  first | rw [wp_runP] | rw [wp_runF]
  have hl1 : t.length ≤ 999999 := by omega
  have hl2 : t.length ≤ 1000000 := by omega
  simp -implicitDefEqProofs -dsimp [sep_eq, hl1, -List.mapIdx_concat]
  refine wp_forL (TokI t) _ 0 _ ⟨_, _, rfl⟩ ?_ ?_
  · rintro i d e hd ⟨o3, o4, rfl⟩
    have hi := (List.getElem?_eq_some_iff.mp hd).1
    rw [List.length_mapIdx] at hi
    rw [List.getElem?_mapIdx] at hd
    obtain ⟨c, hc, rfl⟩ := Option.map_eq_some_iff.mp hd
    rw [Nat.zero_add]
    obtain ⟨q1, q2, q3, q4⟩ := scanAt_ok (t := t ++ [32]) (i := i) (by omega)
    have st := scanAt_succ hc
    have hi : i ≤ t.length := by
      rw [List.length_append, List.length_singleton] at hi
      omega
    have cut : ∀ w : List Nat, w.length ≤ i → ((t ++ [32]).drop (i - w.length)).take w.length = w → (t.drop (i - w.length)).take w.length = w := fun w hw h => by
      rw [List.drop_append_of_le_length (by omega), List.take_append_of_le_length (by rw [List.length_drop]; omega)] at h
      exact h
    have sl := cut _ q2 q3
    have goal : ∃ o3 o4 : Option D, TokI t (i + 1) [some (sd t), some (.own ((scanAt (t ++ [32]) (i + 1)).found.map tokD)), some (.int ((i + 1 - (scanAt (t ++ [32]) (i + 1)).pend.length : Nat) : Int)), some (.int (i : Nat)), some (sd [c])] := ⟨none, none, _, _, rfl⟩
    obtain ⟨_, _, goal⟩ := goal
    rw [st] at goal
    revert goal q1 q2 q4 sl
    generalize scanAt (t ++ [32]) i = s
    obtain ⟨f, w, p⟩ := s
    intro q1 q2 q4 sl goal
    dsimp only at *
    subst q1
    by_cases hs : c ∈ sepL
    · have sc : stepC ⟨f, w, p⟩ c = ⟨flush ⟨f, w, p⟩ ++ (if c = 123 ∨ c = 125 then [([c], p)] else []), [], p + 1⟩ := if_pos hs
      rw [sc] at goal
      have hf : (flush ⟨f, w, p⟩).length < 1000000 := by
        have := flush_len ⟨f, w, p⟩
        dsimp only at this
        omega
      simp -implicitDefEqProofs -dsimp [hs, -wp_seq]
      (first | rw [wp_seq] | (show Wq noE _ _; rw [wp_seq]))
      by_cases hw : w = []
      · subst hw
        have fl : flush ⟨f, [], p⟩ = f := if_pos rfl
        rw [fl] at goal hf
        simp -implicitDefEqProofs -dsimp [-wp_seq]
        refine (brace_ok hf).imp ?_
        rintro _ _ ⟨rfl, rfl⟩
        exact goal
      · have wl : 0 < w.length := by
          cases w with
          | nil => exact absurd rfl hw
          | cons _ _ => simp
        have fl : flush ⟨f, w, p⟩ = f ++ [(w, p - w.length)] := if_neg hw
        rw [fl] at goal hf
        have lt : p - w.length < p := by omega
        have sub : p - (p - w.length) = w.length := by omega
        have sm : ∀ {Q : D → DL.Env → Prop} {e : DL.Env}, Wq noE (mopt (dSlice (sd t) (some ((p - w.length : Nat) : Int)) (some (p : Int))) e) Q = (t.length ≤ 1000000 ∧ Q (sd w) e) := by
          intro Q e
          rw [wp_sliceMid (by omega) hi, sub, sl]
        simp -implicitDefEqProofs -dsimp [-wp_seq, lt, sm, hl2]
        refine (token_kind_ok (l := w) (by omega)).imp ?_
        rintro _ _ rfl
        simp -implicitDefEqProofs -dsimp
        have hf1 : f.length < 1000000 := by omega
        simp -implicitDefEqProofs -dsimp [-wp_seq, sm, hl2, hf1]
        refine ⟨fun x a b _ e => by rw [← e]; rfl, ?_⟩
        have e1 : f.map tokD ++ [D.tup [sd (kindL w), sd w, D.int ((p - w.length : Nat) : Int)]] = (f ++ [(w, p - w.length)]).map tokD := by
          rw [List.map_append]
          rfl
        rw [e1]
        refine (brace_ok hf).imp ?_
        rintro _ _ ⟨rfl, rfl⟩
        exact goal
    · have sc : stepC ⟨f, w, p⟩ c = ⟨f, w ++ [c], p + 1⟩ := if_neg hs
      rw [sc] at goal
      simp -implicitDefEqProofs -dsimp [hs]
      dsimp only at goal
      rw [List.length_append, List.length_singleton, Nat.add_sub_add_right] at goal
      exact goal
  · rintro e ⟨o3, o4, rfl⟩
    simp -implicitDefEqProofs -dsimp
    rw [toks_end]
end K03
end

section
set_option maxRecDepth 100000
set_option maxHeartbeats 1000000
namespace K03
open PySem L2 DL
theorem log_of {n : Nat} (h : n < 10 ^ 24) : n.log2 < 1920 := by
  by_cases z : n = 0
  · rw [z]
    decide
  · exact Nat.lt_of_lt_of_le ((Nat.log2_lt z).mpr (Nat.lt_of_lt_of_le h (show 10 ^ 24 ≤ 2 ^ 100 by decide))) (by decide)
theorem strI_len {n : Int} (h : n.natAbs < 10 ^ 24) : (strI n).length ≤ 25 := by
  have h1 := TL.numL_len (n := n.natAbs) (k := 24) (by decide) h
  unfold strI
  split
  · rw [List.length_cons]
    omega
  · omega
theorem single_item_ok {w : List Nat} (h : Leaf w) : Wp (F_single_item [sd (kindL w), sd w]) fun r _ => r = itemL w := by
  have hl := h.len
  have hl2 : w.length ≤ 1000000 := by omega
  unfold F_single_item
  first | rw [wp_runP] | rw [wp_runF]
  unfold itemL
  rcases h.kind with e | e | e
  · rw [e, if_pos rfl]
    simp -implicitDefEqProofs -dsimp
    refine (token_number_ok hl2).imp ?_
    rintro _ _ rfl
    simp -implicitDefEqProofs -dsimp
    cases q : tnO w with
    | none =>
      rw [tnD_non q]
      simp -implicitDefEqProofs -dsimp
    | some t =>
      obtain ⟨n, d⟩ := t
      rw [tnD_is q]
      simp -implicitDefEqProofs -dsimp
  · rw [e, if_neg (by decide), if_pos rfl]
    simp -implicitDefEqProofs -dsimp [hl2]
  · rw [e, if_neg (by decide), if_neg (by decide)]
    simp -implicitDefEqProofs -dsimp
end K03
end

section
set_option maxRecDepth 100000
set_option maxHeartbeats 1000000
namespace K03
open PySem L2 DL
theorem deep_eq : c_DEEPEST = .int 20 := by rfl
/-- the rows as the list holds them -/
def rowsE (st : List (List D)) : List D := st.reverse.map D.own
theorem rowsE_cons {r : List D} {s : List (List D)} : rowsE (r :: s) = rowsE s ++ [.own r] := by
  unfold rowsE
  rw [List.reverse_cons, List.map_append]
  rfl
theorem rowsE_len {st : List (List D)} : (rowsE st).length = st.length := by
  unfold rowsE
  rw [List.length_map, List.length_reverse]
/-- the rows hold n more items without harm -/
def RowsOk (n : Nat) (st : List (List D)) : Prop := ∀ r ∈ st, (r.all isSh) = true ∧ r.length + n < 1000000
theorem RowsOk.hd {n : Nat} {r : List D} {s : List (List D)} (h : RowsOk n (r :: s)) : (r.all isSh) = true ∧ r.length + n < 1000000 := h r (List.mem_cons_self ..)
theorem RowsOk.tl {n : Nat} {r : List D} {s : List (List D)} (h : RowsOk n (r :: s)) : RowsOk n s := fun x m => h x (List.mem_cons_of_mem _ m)
theorem RowsOk.less {m n : Nat} {s : List (List D)} (h : RowsOk n s) (k : m ≤ n) : RowsOk m s := fun x q => ⟨(h x q).1, by have := (h x q).2; omega⟩
theorem RowsOk.add {n : Nat} {r : List D} {s : List (List D)} {d : D} (h : RowsOk (n + 1) (r :: s)) (k : isSh d = true) : RowsOk n ((r ++ [d]) :: s) := fun x m => by
  rcases List.mem_cons.mp m with m | m
  · subst m
    obtain ⟨h1, h2⟩ := h.hd
    refine ⟨?_, by rw [List.length_append, List.length_singleton]; omega⟩
    rw [List.all_append, h1]
    simp [k]
  · exact ⟨(h.tl x m).1, by have := (h.tl x m).2; omega⟩
theorem RowsOk.new {n : Nat} {s : List (List D)} (h : RowsOk n s) (k : n < 1000000) : RowsOk n ([] :: s) := fun x m => by
  rcases List.mem_cons.mp m with m | m
  · subst m
    exact ⟨rfl, by simpa using k⟩
  · exact h x m
abbrev rdB : M Fl := sSeq (sIf (tOrD (tOf (eBin dEq (eVar 2) (eC (sd [98, 97, 100])))) (tOrD (tAndD (tOf (eBin dEq (eVar 2) (eC (sd [99, 108, 111, 115, 101])))) (tOf (eBin dEq (eBlt dLen (aCons (eVar 1) aNil)) (eC (.int 1))))) (tAndD (tOf (eBin dEq (eVar 2) (eC (sd [111, 112, 101, 110])))) (tOf (eBin dGt (eBlt dLen (aCons (eVar 1) aNil)) (eC (.int 20))))))) (sRaiseN "BadText" ["place"] (aCons (eVal 4) aNil)) sNext)
  (sIf (tOf (eBin dEq (eVar 2) (eC (sd [111, 112, 101, 110])))) (sAppN 1) (sIf (tOf (eBin dEq (eVar 2) (eC (sd [99, 108, 111, 115, 101])))) (sSeq (sAsg 5 (ePop 1))
  (sAppR 1 (-1) (eTup (aCons (eC (sd [112, 114, 111, 99])) (aCons (eBlt dTuple (aCons (eVar 5) aNil)) aNil))))) (sAppR 1 (-1) (eCall 2 F_single_item (aCons (eVal 2) (aCons (eVal 3) aNil))))))
abbrev rdG : TgF := gT 3 (gsCons (gN 2) (gsCons (gN 3) (gsCons (gN 4) gsNil)))
theorem read_turn {E : Exn → DL.Env → Prop} {t : List Nat} {w : List Nat} {p n d : Nat} {st st' : List (List D)} {o2 o3 o4 o5 : Option D} (hw : TokX w) (hs : st.length = d + 1) (hd : d ≤ 20) (nw : ¬wrong d w) (e : stp st w = some st') (ok : RowsOk (n + 1) st) (hn : n < 1000000) :
    Op (rdG (tokD (w, p)) [some (sd t), some (.own (rowsE st)), o2, o3, o4, o5]) fun e => Wq E (rdB e) fun f e1 => f = .nx ∧ RowsOk n st' ∧ ∃ o2 o3 o4 o5 : Option D, e1 = [some (sd t), some (.own (rowsE st')), o2, o3, o4, o5] := by
  have len := rowsE_len (st := st)
  unfold stp at e
  unfold wrong at nw
  have hw := hw.tok fun z => nw (.inl z)
  rcases hw with rfl | rfl | hw
  · rw [if_pos rfl] at e
    split at e
    · rename_i hl
      cases e
      have k : kindL [123] = kOpen := rfl
      unfold tokD
      simp -implicitDefEqProofs -dsimp [k, len]
      exact ⟨by omega, fun _ => ⟨by omega, (ok.less (by omega)).new hn, rowsE_cons.symm⟩⟩
    · cases e
  · rw [if_neg (by decide), if_pos rfl] at e
    have k : kindL [125] = kClose := rfl
    split at e
    · rename_i r q s
      cases e
      unfold tokD
      rw [rowsE_cons]
      have hq := ok.tl.hd
      have l1 : (rowsE (q :: s)).length = s.length + 1 := by rw [rowsE_len, List.length_cons]
      have sh : isSh (procD r) = true := rfl
      have ok2 : RowsOk n ((q ++ [procD r]) :: s) := RowsOk.add ok.tl sh
      simp -implicitDefEqProofs -dsimp [k, popD_own ok.hd.1, l1]
      refine ⟨by omega, fun _ => ?_⟩
      rw [rowsE_cons]
      have ap : appR (rowsE s ++ [.own q]) (-1) (.tup [sd [112, 114, 111, 99], .tup r]) = some (rowsE s ++ [.own (q ++ [.tup [sd [112, 114, 111, 99], .tup r]])]) := appR_last hq.1 rfl (by omega)
      simp -implicitDefEqProofs -dsimp [isRow_last, ap]
      exact ⟨ok2, rowsE_cons.symm⟩
    · cases e
  · rw [if_neg hw.no.1, if_neg hw.no.2] at e
    split at e
    · rename_i r s
      cases e
      unfold tokD
      rw [rowsE_cons]
      have hr := ok.hd
      have ok2 : RowsOk n ((r ++ [itemL w]) :: s) := RowsOk.add ok (item_sh w)
      have ap : appR (rowsE s ++ [.own r]) (-1) (itemL w) = some (rowsE s ++ [.own (r ++ [itemL w])]) := appR_last hr.1 (item_sh w) (by omega)
      have go := (single_item_ok hw)
      have fin : rowsE s ++ [.own (r ++ [itemL w])] = rowsE ((r ++ [itemL w]) :: s) := rowsE_cons.symm
      rcases hw.kind with e | e | e
      · rw [e] at go ⊢
        simp -implicitDefEqProofs -dsimp [isRow_last]
        refine Wq.imp go ?_ (fun _ _ z => z.elim)
        rintro _ _ rfl
        simp -implicitDefEqProofs -dsimp [ap]
        exact ⟨ok2, fin⟩
      · rw [e] at go ⊢
        simp -implicitDefEqProofs -dsimp [isRow_last]
        refine Wq.imp go ?_ (fun _ _ z => z.elim)
        rintro _ _ rfl
        simp -implicitDefEqProofs -dsimp [ap]
        exact ⟨ok2, fin⟩
      · rw [e] at go ⊢
        simp -implicitDefEqProofs -dsimp [isRow_last]
        refine Wq.imp go ?_ (fun _ _ z => z.elim)
        rintro _ _ rfl
        simp -implicitDefEqProofs -dsimp [ap]
        exact ⟨ok2, fin⟩
    · cases e
abbrev badX (p : Int) : Exn := ⟨"BadText", [("place", .int p)]⟩
/-- a wrong token ends the reading -/
theorem read_stop {E : Exn → DL.Env → Prop} {QF : Fl → DL.Env → Prop} {t : List Nat} {w : List Nat} {p d : Nat} {st : List (List D)} {o2 o3 o4 o5 : Option D} (hs : st.length = d + 1) (hd : d ≤ 20) (nw : wrong d w) (hE : ∀ e, E (badX (p : Int)) e) :
    Op (rdG (tokD (w, p)) [some (sd t), some (.own (rowsE st)), o2, o3, o4, o5]) fun e => Wq E (rdB e) QF := by
  have len := rowsE_len (st := st)
  unfold tokD
  unfold wrong at nw
  by_cases k1 : kindL w = [98, 97, 100]
  · simp -implicitDefEqProofs -dsimp [k1]
    exact hE _
  · rcases nw with k | ⟨k, z⟩ | ⟨k, z⟩
    · exact absurd k k1
    · have l2 : st.length = 21 := by omega
      simp -implicitDefEqProofs -dsimp [k, len, l2]
      exact hE _
    · have l2 : st.length = 1 := by omega
      simp -implicitDefEqProofs -dsimp [k, len, l2]
      exact hE _
theorem read_loop {E : Exn → DL.Env → Prop} {t : List Nat} {Q : Fl → DL.Env → Prop} : ∀ (ts : List (List Nat × Nat)) (st : List (List D)) (d : Nat) (o2 o3 o4 o5 : Option D) (n : Nat), (∀ x ∈ ts, TokX x.1) → st.length = d + 1 → d ≤ 20 → RowsOk (n + ts.length) st → n + ts.length < 1000000 →
    (∀ p : Nat, frA d ts = .inl p → ∀ e, E (badX (p : Int)) e) → (∀ (d' : Nat) (st' : List (List D)) (o2 o3 o4 o5 : Option D), frA d ts = .inr d' → rdS st (ts.map (·.1)) = some st' → st'.length = d' + 1 → RowsOk n st' → Q .nx [some (sd t), some (.own (rowsE st')), o2, o3, o4, o5]) →
    Wq E (forL rdG rdB (ts.map tokD) [some (sd t), some (.own (rowsE st)), o2, o3, o4, o5]) Q
  | [], st, d, o2, o3, o4, o5, n, _, hs, _, ok, _, _, hQ => hQ d st _ _ _ _ rfl rfl hs ok
  | (w, p) :: ts, st, d, o2, o3, o4, o5, n, hw, hs, hd, ok, hn, hE, hQ => by
    rw [List.length_cons] at ok hn
    show Wq E (forL rdG rdB (tokD (w, p) :: ts.map tokD) _) Q
    rw [wp_forCons]
    by_cases nw : wrong d w
    · have hE : ∀ e, E (badX (p : Int)) e := hE p (by rw [frA, if_pos nw])
      exact read_stop hs hd nw hE
    · obtain ⟨s1, e1, l1, l2⟩ := stp_ok hs hd nw
      have ef : frA d ((w, p) :: ts) = frA (nxd d w) ts := by rw [frA, if_neg nw]
      obtain ⟨e2, h1, he⟩ := Op.get (read_turn (E := E) (t := t) (w := w) (p := p) (n := n + ts.length) (o2 := o2) (o3 := o3) (o4 := o4) (o5 := o5) (hw _ (List.mem_cons_self ..)) hs hd nw e1 ok (by omega))
      rw [h1, op_some]
      refine Wq.imp he ?_ (fun _ _ z => z)
      rintro f e3 ⟨rfl, ok1, o2', o3', o4', o5', rfl⟩
      refine read_loop ts s1 (nxd d w) o2' o3' o4' o5' n (fun x m => hw x (List.mem_cons_of_mem _ m)) l1 l2 ok1 (by omega) (fun q hq => hE q (by rw [ef]; exact hq)) fun d' st' o2 o3 o4 o5 h1 h2 => hQ d' st' o2 o3 o4 o5 (by rw [ef]; exact h1) ?_
      rw [List.map_cons, rdS, e1]
      exact h2
/-- what read_items tells -/
theorem read_items_any {E : Exn → DL.Env → Prop} {Q : D → DL.Env → Prop} {t : List Nat} (hl : t.length ≤ 300000) (hs : (toksL t).length < 900000) (hw : ∀ x ∈ toksL t, TokX x.1)
    (bad : ∀ q : Int, frst t.length (toksL t) = q → 0 ≤ q → ∀ e, E (badX q) e) (good : ∀ ds e, frst t.length (toksL t) = -1 → (∀ x ∈ toksL t, TokW x.1) → rdS [[]] ((toksL t).map (·.1)) = some [ds] → Q (.tup ds) e) : Wq E (F_read_items [sd t]) Q := by
  have ok : RowsOk ((toksL t).length) [[]] := fun r m => by
    rw [List.mem_singleton] at m
    subst m
    exact ⟨rfl, by simp; omega⟩
  unfold F_read_items
  first | rw [wp_runP] | rw [wp_runF]
  simp -implicitDefEqProofs -dsimp [deep_eq]
  refine Wq.imp (tokens_ok hl) ?_ (fun _ _ z => z.elim)
  rintro _ _ rfl
  simp -implicitDefEqProofs -dsimp
  refine read_loop (toksL t) [[]] 0 none none none none 0 hw rfl (by omega) (by rw [Nat.zero_add]; exact ok) (by omega) (fun p hp e => ?_) fun d' st' o2 o3 o4 o5 hf hr hl' ok2 => ?_
  · exact ⟨by cases e <;> rfl, bad (p : Int) (by unfold frst; rw [hp]) (by omega) _⟩
  · have len := rowsE_len (st := st')
    obtain ⟨_, kb⟩ := frA_good (st := [[]]) (d := 0) rfl (by omega) hf
    by_cases z : d' = 0
    · subst z
      obtain ⟨ds, rfl⟩ : ∃ ds, st' = [ds] := match st', hl' with
        | [ds], _ => ⟨ds, rfl⟩
      have r1 : rowsE [ds] = [.own ds] := rfl
      have sh := ok2.hd.1
      rw [r1]
      simp -implicitDefEqProofs -dsimp [rowD_one sh]
      exact good ds _ (by unfold frst; rw [hf]; rfl) (fun x m => (hw x m).tok (kb x m)) hr
    · have l2 : (rowsE st').length = d' + 1 := by rw [len, hl']
      have gt : (1 : Int) < ((d' + 1 : Nat) : Int) := by omega
      have hb := bad (t.length : Int) (by unfold frst; rw [hf]; exact if_neg z) (by omega)
      have tl : t.length ≤ 1000000 := by omega
      simp -implicitDefEqProofs -dsimp [l2, tl]
      exact ⟨fun _ => hb _, fun q => absurd q (by omega)⟩
end K03
end

section
set_option maxRecDepth 100000
set_option maxHeartbeats 1000000
namespace K03
open PySem L2 DL
/-- a tape read at most c times -/
def Tp (c : Nat) (xs : List D) : Prop := ∃ (row : List Int) (n : Nat), xs = [lI row, .int n] ∧ n ≤ c ∧ row.length ≤ 2000
/-- a call that reads the tape -/
def TpQ (c : Nat) (R : D → Prop) : D → DL.Env → Prop := fun d e => R d ∧ ∃ tp, e[0]? = some (some (.bor tp)) ∧ Tp c tp
theorem at_int {row : List Int} {i : Int} (h0 : 0 ≤ i) (h1 : i < row.length) : ∃ v, atI (row.map D.int) i = some (.int v) ∧ v ∈ row := by
  obtain ⟨k, rfl⟩ := Int.eq_ofNat_of_zero_le h0
  have hk : k < row.length := by omega
  refine ⟨row[k], ?_, List.getElem_mem hk⟩
  rw [DL.atI_nat]
  simp [hk]
theorem fmod_range {i m : Int} (h : 0 < m) : 0 ≤ i.fmod m ∧ i.fmod m < m := ⟨Int.fmod_nonneg_of_pos i h, Int.fmod_lt_of_pos i h⟩
theorem bd_nat {k n : Nat} (h : n < 2 ^ k) : Bd k (n : Int) := by
  unfold Bd
  simpa using h
theorem next_ok {c : Nat} {tp : List D} {m : Int} (h : Tp c tp) (hc : c < 100000) (hm : 0 < m) : Wp (F__law_next [.bor tp, .int m]) (TpQ (c + 1) fun d => ∃ n, d = .int n ∧ 0 ≤ n ∧ n < m) := by
  obtain ⟨row, n, rfl, h1, h2⟩ := h
  have hn : Bd 20 (n : Int) := bd_nat (by omega)
  have hl : row.length ≠ 0 → DivOk (row.length : Int) := fun z => DivOk.of (n := 20) (bd_nat (by omega)) (by omega) (by omega)
  unfold F__law_next
  first | rw [wp_runP] | rw [wp_runF]
  simp -implicitDefEqProofs -dsimp
  refine ⟨fun z => ⟨MulOk.of hn (n := 20) (by decide) (by decide), DivOk.of (n := 20) (by decide) (by decide) (by decide), by omega, ?_⟩, fun z => ⟨hl (by simpa using z), ?_⟩⟩
  · exact ⟨⟨_, rfl, fmod_range hm⟩, _, rfl, row, n + 1, by simp, by omega, h2⟩
  · have lp : 0 < (row.length : Int) := by
      have : row.length ≠ 0 := by simpa using z
      omega
    have hs : MulOk ((n : Int).fdiv row.length) 7 := MulOk.of (m := 20) (n := 20) (Bd.le hn (by
      rw [Int.fdiv_eq_ediv_of_nonneg _ (by omega)]
      rw [show ((n : Int) / row.length) = ((n / row.length : Nat) : Int) from rfl]
      simp
      exact Nat.div_le_self _ _)) (by decide) (by decide)
    obtain ⟨h3, h4⟩ := fmod_range (i := n) lp
    obtain ⟨v, h5, _⟩ := at_int h3 h4
    refine ⟨hs, ?_⟩
    have z2 : ¬row = [] := z
    simp -implicitDefEqProofs -dsimp [h5, z2]
    exact ⟨by omega, ⟨_, rfl, fmod_range hm⟩, _, rfl, row, n + 1, by simp, by omega, h2⟩
/-! gcd -/
abbrev gcdB : M Fl := sSeq (sIf (tOf (eBin dEq (eVar 1) (eC (.int 0)))) sBreak sNext) (sPar 0 1 (aCons (eVal 1) (aCons (eBin dMod (eBlt dToInt (aCons (eVar 0) aNil)) (eVar 1)) aNil)))
theorem gcd_turn {Q : Fl → DL.Env → Prop} {i j : Int} {x : D} {xs : List D} {y : Option D} (h : j ≠ 0) : Wp (forL (gN 2) gcdB (x :: xs) [some (.int i), some (.int j), y]) Q = Wp (forL (gN 2) gcdB xs [some (.int j), some (.int (i.fmod j)), some x]) Q := by
  simp -implicitDefEqProofs -dsimp [h]
theorem gcd_stop {Q : Fl → DL.Env → Prop} {i : Int} {xs : List D} {y : Option D} (hQ : ∀ y, Q .nx [some (.int i), some (.int 0), y]) : Wp (forL (gN 2) gcdB xs [some (.int i), some (.int 0), y]) Q := by
  cases xs with
  | nil => exact hQ y
  | cons x xs =>
    simp -implicitDefEqProofs -dsimp
    exact hQ _
theorem gcd_loop {Q : Fl → DL.Env → Prop} : ∀ (k a b : Nat) (xs : List D) (y : Option D), b < 2 ^ k → 2 * k ≤ xs.length → (∀ y, Q .nx [some (.int (Nat.gcd a b)), some (.int 0), y]) →
    Wp (forL (gN 2) gcdB xs [some (.int a), some (.int b), y]) Q := by
  intro k
  induction k with
  | zero =>
    intro a b xs y hb hl hQ
    have : b = 0 := by omega
    subst this
    rw [Nat.gcd_zero_right] at hQ
    exact gcd_stop hQ
  | succ k ih =>
    intro a b xs y hb hl hQ
    by_cases z : b = 0
    · subst z
      rw [Nat.gcd_zero_right] at hQ
      exact gcd_stop hQ
    · match xs, hl with
      | x :: x' :: xs, hl =>
        have e1 : Int.fmod (a : Int) (b : Int) = ((a % b : Nat) : Int) := by
          rw [Int.fmod_eq_emod_of_nonneg _ (by omega)]
          rfl
        rw [gcd_turn (by omega), e1]
        have g1 : Nat.gcd a b = Nat.gcd b (a % b) := by
          rw [Nat.gcd_comm a b, Nat.gcd_rec b a, Nat.gcd_comm]
        by_cases z2 : a % b = 0
        · rw [g1, z2, Nat.gcd_zero_right] at hQ
          rw [z2]
          exact gcd_stop hQ
        · have e2 : Int.fmod (b : Int) ((a % b : Nat) : Int) = ((b % (a % b) : Nat) : Int) := by
            rw [Int.fmod_eq_emod_of_nonneg _ (by omega)]
            rfl
          have g2 : Nat.gcd b (a % b) = Nat.gcd (a % b) (b % (a % b)) := by
            rw [Nat.gcd_comm b, Nat.gcd_rec (a % b) b, Nat.gcd_comm]
          have lt1 : a % b < b := Nat.mod_lt _ (by omega)
          have lt2 : b % (a % b) < a % b := Nat.mod_lt _ (by omega)
          have lt3 : b % (a % b) + a % b ≤ b := by
            have h := Nat.div_add_mod b (a % b)
            have h2 : 1 ≤ b / (a % b) := Nat.div_pos (by omega) (by omega)
            have h3 : (a % b) * 1 ≤ (a % b) * (b / (a % b)) := Nat.mul_le_mul_left _ h2
            omega
          rw [gcd_turn (by omega), e2]
          exact ih (a % b) (b % (a % b)) xs _ (by rw [Nat.pow_succ] at hb; omega) (by simp only [List.length_cons] at hl; omega) (fun y => by rw [← g2, ← g1]; exact hQ y)
theorem gcd_ok {a b : Int} {n : Nat} (hb : Bd n b) (hn : n ≤ 2000) : Wp (F__law_gcd [.int a, .int b]) fun d _ => d = .int (Nat.gcd a.natAbs b.natAbs) := by
  unfold F__law_gcd
  first | rw [wp_runP] | rw [wp_runF]
  simp -implicitDefEqProofs -dsimp
  refine gcd_loop n a.natAbs b.natAbs _ _ hb ?_ (fun y => ?_)
  · show 2 * n ≤ ((List.range (4000 - 0 : Int).toNat).map _).length
    rw [List.length_map, List.length_range]
    show 2 * n ≤ 4000
    omega
  · simp -implicitDefEqProofs -dsimp
/-! the script, the tape -/
def RowI (ns : List Int) (y : Int) (i : Nat) (e : DL.Env) : Prop := ∃ (row : List Int) (z : Int) (o4 : Option D), e = [some (.klst (ns.map D.int)), some (.own (row.map D.int)), some (.int y), some (.int z), o4] ∧ row.length ≤ i
def RowO (ns : List Int) (i : Nat) (e : DL.Env) : Prop := ∃ (row : List Int) (o2 o3 o4 : Option D), e = [some (.klst (ns.map D.int)), some (.own (row.map D.int)), o2, o3, o4] ∧ row.length ≤ 30 * i
theorem row_ok {ns : List Int} (h : ns.length ≤ 63) : Wp (F__law_row [.klst (ns.map D.int)]) fun d _ => ∃ row : List Int, d = lI row ∧ row.length ≤ 2000 := by
  obtain ⟨ys, hy, hl, _⟩ := cutD_map (f := D.int) (xs := ns) (lo := none) (hi := some 63)
  unfold F__law_row
  first | rw [wp_runP] | rw [wp_runF]
  simp -implicitDefEqProofs -dsimp [hy]
  refine wp_forL (RowO ns) _ 0 _ ⟨[], _, _, _, rfl, by simp⟩ ?_ ?_
  · rintro i d e hd ⟨row, o2, o3, o4, rfl, hr⟩
    have hi : i < ys.length := by
      have := (List.getElem?_eq_some_iff.mp hd).1
      simpa using this
    obtain ⟨y, _, rfl⟩ := List.mem_map.mp (List.mem_of_getElem? hd)
    simp -implicitDefEqProofs -dsimp
    refine wp_forL (fun j => RowI ns y (30 * i + j)) _ 0 _ ⟨row, _, _, rfl, by omega⟩ ?_ ?_
    · rintro j d e hd ⟨row, z, o4, rfl, hr⟩
      have hj : j < 30 := by
        have := (List.getElem?_eq_some_iff.mp hd).1
        simpa [rg] using this
      simp -implicitDefEqProofs -dsimp
      exact ⟨by omega, DivOk.of (n := 20) (by decide) (by decide) (by decide), fun _ => ⟨row ++ [z.fmod 60], _, _, _, by rw [List.map_append]; rfl, by simp; omega⟩, fun _ => ⟨row ++ [z.fmod 60], _, _, by rw [List.map_append]; rfl, by simp; omega⟩⟩
    · rintro e ⟨row, z, o4, rfl, hr⟩
      have : (rg 0 30).length = 30 := by simp [rg]
      exact ⟨row, _, _, _, rfl, by omega⟩
  · rintro e ⟨row, o2, o3, o4, rfl, hr⟩
    have : (ys.map D.int).length ≤ 63 := by
      rw [List.length_map]
      omega
    simp -implicitDefEqProofs -dsimp
    exact ⟨row, rfl, by omega⟩
end K03
end

section
set_option maxRecDepth 100000
set_option maxHeartbeats 4000000
namespace K03
open PySem L2 DL
theorem Tp.mono {m n : Nat} {xs : List D} (h : Tp m xs) (k : m ≤ n) : Tp n xs := by
  obtain ⟨row, j, e, h1, h2⟩ := h
  exact ⟨row, j, e, by omega, h2⟩
theorem at_mem {α : Type} {xs : List α} {i : Int} (h0 : 0 ≤ i) (h1 : i < xs.length) : ∃ x, x ∈ xs ∧ atI xs i = some x := by
  obtain ⟨k, rfl⟩ := Int.eq_ofNat_of_zero_le h0
  have hk : k < xs.length := by omega
  exact ⟨xs[k], List.getElem_mem hk, by rw [DL.atI_nat]; simp [hk]⟩
def signL : List Nat := [97, 98, 99, 100, 101, 102, 103, 104, 105, 106, 107, 108, 109, 110, 111, 112, 113, 114, 115, 116, 117, 118, 119, 120, 121, 122, 48, 49, 50, 51, 52, 53, 54, 55, 56, 57]
theorem sign_at {i : Int} (h0 : 0 ≤ i) (h1 : i < 36) : ∃ c, atI signL i = some c ∧ (isLo c || isDg c) = true := by
  obtain ⟨c, m, e⟩ := at_mem (xs := signL) h0 (by simpa [signL] using h1)
  have : ∀ c ∈ signL, (isLo c || isDg c) = true := by decide
  exact ⟨c, e, this c m⟩
theorem sign_lo {i : Int} (h0 : 0 ≤ i) (h1 : i < 26) : ∃ c, atI signL i = some c ∧ isLo c = true := by
  obtain ⟨k, rfl⟩ := Int.eq_ofNat_of_zero_le h0
  have hk : k < 26 := by omega
  have : ∀ k, k < 26 → ∃ c, signL[k]? = some c ∧ isLo c = true := by decide
  obtain ⟨c, h, l⟩ := this k hk
  exact ⟨c, by rw [DL.atI_nat, h], l⟩
def NI (c : Nat) (i : Nat) (e : DL.Env) : Prop := ∃ (tp : List D) (a : Nat) (r : List Nat) (o3 : Option D), Tp (c + 2 + i) tp ∧ isLo a = true ∧ (r.all fun c => isLo c || isDg c) = true ∧ r.length = i ∧ e = [some (.bor tp), some (sd signL), some (sd (a :: r)), o3]
theorem sigE : [97, 98, 99, 100, 101, 102, 103, 104, 105, 106, 107, 108, 109, 110, 111, 112, 113, 114, 115, 116, 117, 118, 119, 120, 121, 122, 48, 49, 50, 51, 52, 53, 54, 55, 56, 57] = signL := rfl
theorem name_ok {c : Nat} {tp : List D} (h : Tp c tp) (hc : c < 80000) : Wp (F__law_name [.bor tp]) (TpQ (c + 10) fun d => ∃ w, d = sd w ∧ nameOk w = true) := by
  unfold F__law_name b__law_name
  first | rw [wp_runP] | rw [wp_runF]
  simp -implicitDefEqProofs -dsimp [-wp_seq, sigE]
  (first | rw [wp_seq] | (show Wq noE _ _; rw [wp_seq]))
  simp -implicitDefEqProofs -dsimp [-wp_seq]
  (first | rw [wp_seq] | (show Wq noE _ _; rw [wp_seq]))
  simp -implicitDefEqProofs -dsimp [-wp_seq]
  refine (next_ok h (by omega) (by decide)).imp ?_
  rintro _ outs ⟨⟨q, rfl, q_0, q_1⟩, tp_T1, ho, T1⟩
  simp -implicitDefEqProofs -dsimp [putO_one ho]
  obtain ⟨a, ha, la⟩ := sign_lo q_0 q_1
  have sl : signL.length ≤ 1000000 := by decide
  simp -implicitDefEqProofs -dsimp [ha, sl]
  refine (next_ok T1 (by omega) (by decide)).imp ?_
  rintro _ outs ⟨⟨n, rfl, n_0, n_1⟩, tp_T2, ho, T2⟩
  simp -implicitDefEqProofs -dsimp [putO_one ho]
  refine ⟨⟨by omega, by omega⟩, ?_⟩
  refine wp_forL (NI c) _ 0 _ ⟨tp_T2, a, [], none, T2, la, rfl, rfl, rfl⟩ ?_ ?_
  · rintro i d e hd ⟨tp, a, r, o3, T, la, ra, hl, rfl⟩
    rw [Nat.zero_add] at T hl
    have hi : i < 7 := by
      have := (List.getElem?_eq_some_iff.mp hd).1
      simp [rg] at this
      omega
    obtain ⟨v, _, rfl⟩ := List.mem_map.mp (List.mem_of_getElem? hd)
    simp -implicitDefEqProofs -dsimp [-wp_seq]
    refine (next_ok T (by omega) (by decide)).imp ?_
    rintro _ outs ⟨⟨m, rfl, m_0, m_1⟩, tp_T3, ho, T3⟩
    simp -implicitDefEqProofs -dsimp [putO_one ho]
    obtain ⟨b, hb, lb⟩ := sign_at m_0 m_1
    simp -implicitDefEqProofs -dsimp [hb, sl]
    refine ⟨by omega, tp_T3, a, r ++ [b], _, T3.mono (by omega), la, ?_, by simp [hl], rfl⟩
    rw [List.all_append, ra]
    simpa using lb
  · rintro e ⟨tp, a, r, o3, T, la, ra, hl, rfl⟩
    have hr : r.length ≤ 7 := by
      simp [rg] at hl
      omega
    have hT : (rg 0 n).length ≤ 7 := by
      simp [rg]
      omega
    simp -implicitDefEqProofs -dsimp
    refine ⟨⟨a :: r, rfl, ?_⟩, tp, rfl, T.mono (by omega)⟩
    have h8 : 1 ≤ (a :: r).length ∧ (a :: r).length ≤ 8 := by
      rw [List.length_cons]
      omega
    unfold nameOk
    rw [decide_eq_true h8, List.head?_cons, Option.any_some, la, List.all_cons, la, ra]
    rfl
/-! numbers -/
theorem bd_60 {n : Int} {i : Nat} (h0 : 0 ≤ n) (h : n < 60 ^ i) (hi : i ≤ 20) : Bd 120 n := by
  have h1 : (60 : Int) ^ i ≤ 60 ^ 20 := by
    have := Nat.pow_le_pow_right (n := 60) (by decide) hi
    exact_mod_cast this
  have h2 : (60 : Int) ^ 20 < 2 ^ 120 := by decide
  have h3 : n < 2 ^ 120 := by omega
  have h4 : (n.natAbs : Int) < ((2 ^ 120 : Nat) : Int) := by
    rw [Int.natAbs_of_nonneg h0]
    exact h3
  unfold Bd
  exact_mod_cast h4
def daI (c : Nat) (x : Option D) (i : Nat) (e : DL.Env) : Prop := ∃ (tp : List D) (n : Int) (o3 o4 : Option D), Tp (c + i) tp ∧ 0 ≤ n ∧ n < 60 ^ i ∧ e = [some (.bor tp), some (.int n), x, o3, o4]
theorem da_ok {c : Nat} {tp : List D} {x : Int} {k : Nat} {o3 o4 : Option D} (h : Tp c tp) (hc : c < 90000) (hk : k ≤ 14) :
    Wp (forL (gN 3) (sAsg 1 (eBin dAdd (eBin dMulI (eVar 1) (eC (.int 60))) (eCall 2 F__law_next (aCons (eVar 0) (aCons (eC (.int 60)) aNil))))) (rg 0 (k : Int)) [some (.bor tp), some (.int 0), some (.int x), o3, o4])
      fun f e => f = .nx ∧ ∃ (tp : List D) (n : Int) (o3 o4 : Option D), Tp (c + 14) tp ∧ 0 ≤ n ∧ Bd 120 n ∧ e = [some (.bor tp), some (.int n), some (.int x), o3, o4] := by
  refine wp_forL (daI c (some (.int x))) _ 0 _ ⟨tp, 0, o3, o4, h, by decide, by decide, rfl⟩ ?_ ?_
  · rintro i d e hd ⟨tp, n, o3, o4, T, h0, h1, rfl⟩
    rw [Nat.zero_add] at T h1
    have hi : i < k := by
      have := (List.getElem?_eq_some_iff.mp hd).1
      simpa [rg] using this
    obtain ⟨v, _, rfl⟩ := List.mem_map.mp (List.mem_of_getElem? hd)
    have b := bd_60 h0 h1 (by omega)
    simp -implicitDefEqProofs -dsimp [-wp_seq]
    refine ⟨MulOk.of b (n := 20) (by decide) (by decide), ?_⟩
    refine (next_ok T (by omega) (by decide)).imp ?_
    rintro _ outs ⟨⟨m, rfl, m_0, m_1⟩, tp_T2, ho, T2⟩
    simp -implicitDefEqProofs -dsimp [putO_one ho]
    refine ⟨tp_T2, _, _, _, T2.mono (by omega), ?_, ?_, rfl⟩
    · omega
    · rw [Int.pow_succ]
      omega
  · rintro e ⟨tp, n, o3, o4, T, h0, h1, rfl⟩
    have hl : (rg 0 (k : Int)).length = k := by simp [rg]
    rw [hl, Nat.zero_add] at T h1
    exact ⟨rfl, tp, n, o3, o4, T.mono (by omega), h0, bd_60 h0 h1 (by omega), rfl⟩
def dbI (c : Nat) (x : Option D) (i : Nat) (e : DL.Env) : Prop := ∃ (tp : List D) (n : Int) (o3 o4 : Option D), Tp (c + i) tp ∧ 0 ≤ n ∧ n < 60 ^ i ∧ e = [some (.bor tp), x, some (.int n), o3, o4]
theorem db_ok {c : Nat} {tp : List D} {x : Int} {k : Nat} {o3 o4 : Option D} (h : Tp c tp) (hc : c < 90000) (hk : k ≤ 14) :
    Wp (forL (gN 3) (sAsg 2 (eBin dAdd (eBin dMulI (eVar 2) (eC (.int 60))) (eCall 2 F__law_next (aCons (eVar 0) (aCons (eC (.int 60)) aNil))))) (rg 0 (k : Int)) [some (.bor tp), some (.int x), some (.int 0), o3, o4])
      fun f e => f = .nx ∧ ∃ (tp : List D) (n : Int) (o3 o4 : Option D), Tp (c + 14) tp ∧ 0 ≤ n ∧ Bd 120 n ∧ e = [some (.bor tp), some (.int x), some (.int n), o3, o4] := by
  refine wp_forL (dbI c (some (.int x))) _ 0 _ ⟨tp, 0, o3, o4, h, by decide, by decide, rfl⟩ ?_ ?_
  · rintro i d e hd ⟨tp, n, o3, o4, T, h0, h1, rfl⟩
    rw [Nat.zero_add] at T h1
    have hi : i < k := by
      have := (List.getElem?_eq_some_iff.mp hd).1
      simpa [rg] using this
    obtain ⟨v, _, rfl⟩ := List.mem_map.mp (List.mem_of_getElem? hd)
    have b := bd_60 h0 h1 (by omega)
    simp -implicitDefEqProofs -dsimp [-wp_seq]
    refine ⟨MulOk.of b (n := 20) (by decide) (by decide), ?_⟩
    refine (next_ok T (by omega) (by decide)).imp ?_
    rintro _ outs ⟨⟨m, rfl, m_0, m_1⟩, tp_T2, ho, T2⟩
    simp -implicitDefEqProofs -dsimp [putO_one ho]
    refine ⟨tp_T2, _, _, _, T2.mono (by omega), ?_, ?_, rfl⟩
    · omega
    · rw [Int.pow_succ]
      omega
  · rintro e ⟨tp, n, o3, o4, T, h0, h1, rfl⟩
    have hl : (rg 0 (k : Int)).length = k := by simp [rg]
    rw [hl, Nat.zero_add] at T h1
    exact ⟨rfl, tp, n, o3, o4, T.mono (by omega), h0, bd_60 h0 h1 (by omega), rfl⟩
theorem pick5 {q : Int} {a b d e f : Nat} (h0 : 0 ≤ q) (h1 : q < 5) (h : a ≤ 14 ∧ b ≤ 14 ∧ d ≤ 14 ∧ e ≤ 14 ∧ f ≤ 14) : ∃ k : Nat, k ≤ 14 ∧ atI [D.int a, D.int b, D.int d, D.int e, D.int f] q = some (.int k) := by
  obtain ⟨x, m, e⟩ := at_mem (xs := [D.int a, D.int b, D.int d, D.int e, D.int f]) h0 (by simpa using h1)
  simp only [List.mem_cons, List.not_mem_nil, or_false] at m
  rcases m with rfl | rfl | rfl | rfl | rfl
  · exact ⟨a, h.1, e⟩
  · exact ⟨b, h.2.1, e⟩
  · exact ⟨d, h.2.2.1, e⟩
  · exact ⟨_, h.2.2.2.1, e⟩
  · exact ⟨f, h.2.2.2.2, e⟩
theorem still_fin {a b : Int} (ha : a.natAbs < 10 ^ 24) (h1 : 1 ≤ b) (hb : b < 10 ^ 24) : DivOk ((Nat.gcd a.natAbs b.natAbs : Nat) : Int) ∧ ∃ (n : Int) (m : Nat), a.fdiv (Nat.gcd a.natAbs b.natAbs : Nat) = n ∧ b.fdiv (Nat.gcd a.natAbs b.natAbs : Nat) = (m : Int) ∧ Still n m := by
  obtain ⟨k, rfl⟩ := Int.eq_ofNat_of_zero_le (show 0 ≤ b by omega)
  have hk : 1 ≤ k := by omega
  have hk2 : k < 10 ^ 24 := by omega
  rw [Int.natAbs_natCast]
  generalize hg : Nat.gcd a.natAbs k = g
  have gp : 0 < g := by rw [← hg]; exact Nat.gcd_pos_of_pos_right _ (by omega)
  have gk : g ≤ k := by rw [← hg]; exact Nat.gcd_le_right _ (by omega)
  have da : g ∣ a.natAbs := by rw [← hg]; exact Nat.gcd_dvd_left _ _
  have dk : g ∣ k := by rw [← hg]; exact Nat.gcd_dvd_right _ _
  have bg : Bd 90 (g : Int) := bd_nat (Nat.lt_of_le_of_lt gk (Nat.lt_of_lt_of_le hk2 (by decide)))
  refine ⟨DivOk.of bg (by omega) (by decide), a.fdiv g, k / g, rfl, ?_, ?_⟩
  · rw [Int.fdiv_eq_ediv_of_nonneg _ (by omega)]
    rfl
  · have e : (a.fdiv g).natAbs = a.natAbs / g := by
      rw [Int.fdiv_eq_ediv_of_nonneg _ (by omega)]
      obtain ⟨c, hc⟩ := Int.natAbs_dvd_natAbs.mp (show (g : Int).natAbs ∣ a.natAbs from da)
      rw [hc, Int.mul_ediv_cancel_left _ (by omega), Int.natAbs_mul, Int.natAbs_natCast, Nat.mul_div_cancel_left _ gp]
    refine ⟨?_, ?_, ?_, ?_⟩
    · rw [e]
      exact Nat.lt_of_le_of_lt (Nat.div_le_self _ _) ha
    · exact Nat.lt_of_le_of_lt (Nat.div_le_self _ _) hk2
    · exact Nat.div_pos gk gp
    · rw [e, ← hg]
      exact Nat.coprime_div_gcd_div_gcd (by rw [hg]; exact gp)
theorem still_ok {c : Nat} {tp : List D} (h : Tp c tp) (hc : c < 80000) : Wp (F__law_still [.bor tp]) (TpQ (c + 40) fun d => ∃ n m, d = tI [n, 0, ((m : Nat) : Int)] ∧ Still n m) := by
  unfold F__law_still b__law_still
  first | rw [wp_runP] | rw [wp_runF]
  simp -implicitDefEqProofs -dsimp [-wp_seq]
  (first | rw [wp_seq] | (show Wq noE _ _; rw [wp_seq]))
  simp -implicitDefEqProofs -dsimp [-wp_seq]
  (first | rw [wp_seq] | (show Wq noE _ _; rw [wp_seq]))
  simp -implicitDefEqProofs -dsimp [-wp_seq]
  (first | rw [wp_seq] | (show Wq noE _ _; rw [wp_seq]))
  simp -implicitDefEqProofs -dsimp [-wp_seq]
  refine (next_ok h (by omega) (by decide)).imp ?_
  rintro _ outs ⟨⟨q, rfl, q_0, q_1⟩, tp_T1, ho, T1⟩
  simp -implicitDefEqProofs -dsimp [putO_one ho]
  obtain ⟨k, hk, ek⟩ := pick5 (a := 1) (b := 1) (d := 2) (e := 3) (f := 14) q_0 q_1 (by decide)
  have ek : atI [D.int 1, D.int 1, D.int 2, D.int 3, D.int 14] q = some (.int k) := ek
  simp -implicitDefEqProofs -dsimp [ek, -wp_seq]
  refine ⟨by omega, ?_⟩
  refine (da_ok T1 (by omega) hk).imp ?_
  rintro _ _ ⟨rfl, tp2, n, o3, o4, T2, n0, nb, rfl⟩
  simp -implicitDefEqProofs -dsimp [-wp_seq]
  (first | rw [wp_seq] | (show Wq noE _ _; rw [wp_seq]))
  simp -implicitDefEqProofs -dsimp [-wp_seq]
  refine (next_ok T2 (by omega) (by decide)).imp ?_
  rintro _ outs ⟨⟨r, rfl, r_0, r_1⟩, tp_T3, ho, T3⟩
  simp -implicitDefEqProofs -dsimp [putO_one ho]
  obtain ⟨j, hj, ej⟩ := pick5 (a := 0) (b := 0) (d := 1) (e := 1) (f := 14) r_0 r_1 (by decide)
  have ej : atI [D.int 0, D.int 0, D.int 1, D.int 1, D.int 14] r = some (.int j) := ej
  simp -implicitDefEqProofs -dsimp [ej, -wp_seq]
  refine ⟨by omega, ?_⟩
  refine (db_ok T3 (by omega) hj).imp ?_
  rintro _ _ ⟨rfl, tp4, m, o3', o4', T4, m0, mb, rfl⟩
  simp -implicitDefEqProofs -dsimp
  obtain ⟨N0, N1⟩ := fmod_range (i := n) (m := 1000000000000000000000000) (by decide)
  obtain ⟨M0, M1⟩ := fmod_range (i := m) (m := 100000000000000000000000) (by decide)
  revert N0 N1 M0 M1
  generalize n.fmod 1000000000000000000000000 = N
  generalize m.fmod 100000000000000000000000 = M
  intro N0 N1 M0 M1
  have bM : Bd 90 (1 + M) := by
    have h4 : ((1 + M).natAbs : Int) < ((2 ^ 90 : Nat) : Int) := by
      rw [Int.natAbs_of_nonneg (by omega)]
      have : ((2 ^ 90 : Nat) : Int) = 1237940039285380274899124224 := by decide
      omega
    unfold Bd
    exact_mod_cast h4
  have aN : N.natAbs < 10 ^ 24 := by
    have : ((10 ^ 24 : Nat) : Int) = 1000000000000000000000000 := by decide
    omega
  have bN : 1 + M < 10 ^ 24 := by
    have : (10 : Int) ^ 24 = 1000000000000000000000000 := by decide
    omega
  refine (next_ok T4 (by omega) (by decide)).imp ?_
  rintro _ outs ⟨⟨s, rfl, s_0, s_1⟩, tp_T5, ho, T5⟩
  simp -implicitDefEqProofs -dsimp [putO_one ho]
  refine ⟨fun _ => ?_, fun _ => ?_⟩
  · refine (gcd_ok (n := 90) bM (by decide)).imp ?_
    rintro _ _ rfl
    obtain ⟨dk, n', m', e1, e2, st⟩ := still_fin (a := -N) (b := 1 + M) (by rw [Int.natAbs_neg]; exact aN) (by omega) bN
    simp -implicitDefEqProofs -dsimp
    simp only [Int.natAbs_neg] at dk e1 e2
    refine ⟨dk, ?_⟩
    rw [e1, e2]
    exact ⟨⟨n', m', rfl, st⟩, _, rfl, T5.mono (by omega)⟩
  · refine (gcd_ok (n := 90) bM (by decide)).imp ?_
    rintro _ _ rfl
    obtain ⟨dk, n', m', e1, e2, st⟩ := still_fin (a := N) (b := 1 + M) aN (by omega) bN
    simp -implicitDefEqProofs -dsimp
    refine ⟨dk, ?_⟩
    rw [e1, e2]
    exact ⟨⟨n', m', rfl, st⟩, _, rfl, T5.mono (by omega)⟩
theorem still_text_ok {n : Int} {d : Nat} (h : Still n d) : Wp (F__law_still_text [tI [n, 0, (d : Int)]]) fun r _ => r = sd (numT n d) := by
  unfold F__law_still_text
  first | rw [wp_runP] | rw [wp_runF]
  have h1 := log_of h.ln
  have h2 := log_of h.ld
  have h3 := strI_len h.ln
  have h4 := strI_len (n := (d : Int)) h.ld
  unfold numT
  by_cases k : d = 1
  · rw [if_pos k]
    subst k
    simp -implicitDefEqProofs -dsimp [h1]
  · rw [if_neg k]
    have k2 : ¬(d : Int) = 1 := by omega
    simp -implicitDefEqProofs -dsimp [h1, h2, k2, k]
    rw [strI_nat] at h4 ⊢
    exact ⟨by omega, by omega, rfl⟩
end K03
end

section
set_option maxRecDepth 100000
set_option maxHeartbeats 4000000
namespace K03
open PySem L2 DL
def WdB (w : List Nat) : Bool := nameOk w || w == [91] || w == [93]
theorem wd_leaf {w : List Nat} (h : WdB w = true) : Leaf w := by
  unfold WdB at h
  rw [Bool.or_eq_true, Bool.or_eq_true] at h
  rcases h with (h | h) | h
  · exact .word h
  · rw [eq_of_beq h]
    exact .op
  · rw [eq_of_beq h]
    exact .cl
theorem wd_kind {w : List Nat} (h : WdB w = true) : kindL w = kWord := by
  unfold WdB at h
  rw [Bool.or_eq_true, Bool.or_eq_true] at h
  rcases h with (h | h) | h
  · exact kind_word h
  · rw [eq_of_beq h]
    rfl
  · rw [eq_of_beq h]
    rfl
theorem words_ok : Wp (F__law_words []) fun d _ => ∃ ls : List (List Nat), d = .lst (ls.map sd) ∧ ls.length = 71 ∧ ls.all WdB = true := by
  unfold F__law_words
  first | rw [wp_runP] | rw [wp_runF]
  simp -implicitDefEqProofs -dsimp
  rw [split_sd (by decide +kernel) (by decide)]
  simp -implicitDefEqProofs -dsimp
  refine ⟨_, rfl, by decide +kernel, by decide +kernel⟩
/-- a drawn leaf -/
theorem leaf_ok {c : Nat} {tp : List D} (h : Tp c tp) (hc : c < 70000) : Wp (F__law_leaf [.bor tp]) (TpQ (c + 60) fun d => ∃ w, d = ltD w ∧ Leaf w) := by
  have lt : ∀ {w : List Nat} {k : List Nat}, kindL w = k → w ≠ [123] → w ≠ [125] → ltD w = .lst [sd k, sd w, itemL w] := fun {w k} e h1 h2 => by
    unfold ltD
    rw [e, if_neg fun z => z.elim h1 h2]
  unfold F__law_leaf b__law_leaf
  first | rw [wp_runP] | rw [wp_runF]
  simp -implicitDefEqProofs -dsimp [-wp_seq]
  (first | rw [wp_seq] | (show Wq noE _ _; rw [wp_seq]))
  simp -implicitDefEqProofs -dsimp [-wp_seq]
  refine (next_ok h (by omega) (by decide)).imp ?_
  rintro _ outs ⟨⟨q, rfl, q_0, q_1⟩, tp_T1, ho, T1⟩
  simp -implicitDefEqProofs -dsimp [putO_one ho]
  refine ⟨fun _ => ?_, fun _ => ?_⟩
  · refine (still_ok T1 (by omega)).imp ?_
    rintro _ outs ⟨⟨n, m, rfl, st⟩, tp2, ho, T2⟩
    simp -implicitDefEqProofs -dsimp [putO_one ho]
    refine (still_text_ok st).imp ?_
    rintro _ _ rfl
    simp -implicitDefEqProofs -dsimp
    have no := (Leaf.num st).no
    refine ⟨⟨_, ?_, .num st⟩, tp2, rfl, T2.mono (by omega)⟩
    rw [lt (kind_num st) no.1 no.2, item_num st]
    rfl
  · refine (name_ok T1 (by omega)).imp ?_
    rintro _ outs ⟨⟨w, rfl, hw⟩, tp2, ho, T2⟩
    have wl := name_len hw
    simp -implicitDefEqProofs -dsimp [putO_one ho]
    refine ⟨fun _ => ?_, fun _ => ⟨fun _ => ?_, fun _ => ?_⟩⟩
    · have no := (Leaf.name hw).no
      refine ⟨by omega, ⟨_, ?_, .name hw⟩, tp2, rfl, T2.mono (by omega)⟩
      rw [lt (kind_name hw) no.1 no.2, item_name hw]
      rfl
    · refine words_ok.imp ?_
      rintro _ _ ⟨ls, rfl, ll, la⟩
      simp -implicitDefEqProofs -dsimp
      refine (next_ok T2 (by omega) (by decide)).imp ?_
      rintro _ outs ⟨⟨a, rfl, a_0, a_1⟩, tp_T3, ho, T3⟩
      simp -implicitDefEqProofs -dsimp [putO_one ho]
      refine (next_ok T3 (by omega) (by decide)).imp ?_
      rintro _ outs ⟨⟨b, rfl, b_0, b_1⟩, tp_T4, ho, T4⟩
      simp -implicitDefEqProofs -dsimp [putO_one ho]
      have mo : MulOk 11 b := MulOk.of (m := 20) (n := 20) (by decide) (show b.natAbs < 1048576 by omega) (by decide)
      obtain ⟨x, mx, ex⟩ := at_mem (xs := ls.map sd) (i := a + 11 * b) (by omega) (by rw [List.length_map]; omega)
      obtain ⟨v, mv, rfl⟩ := List.mem_map.mp mx
      have vb := List.all_eq_true.mp la v mv
      have hv := wd_leaf vb
      have no := hv.no
      simp -implicitDefEqProofs -dsimp [mo, ex]
      refine ⟨⟨_, ?_, hv⟩, tp_T4, rfl, T4.mono (by omega)⟩
      rw [lt (wd_kind vb) no.1 no.2, item_of (wd_kind vb)]
      rfl
    · have no := (Leaf.word hw).no
      refine ⟨⟨_, ?_, .word hw⟩, tp2, rfl, T2.mono (by omega)⟩
      rw [lt (kind_word hw) no.1 no.2, item_of (kind_word hw)]
      rfl
/-! rows -/
structure RowW (n : Nat) (ws : List (List Nat)) : Prop where
  tok : ∀ w ∈ ws, TokW w
  run : ∃ ds, rdS [[]] ws = some [ds]
  few : ws.length ≤ n
theorem close_run : ∀ (n : Nat) (st : List (List D)), st.length = n + 1 → ∃ ds, rdS st (List.replicate n [125]) = some [ds]
  | 0, [r], _ => ⟨r, rfl⟩
  | n + 1, r :: q :: s, h => by
    rw [List.replicate_succ, rdS]
    have : stp (r :: q :: s) [125] = some ((q ++ [procD r]) :: s) := rfl
    rw [this, Option.bind_some]
    exact close_run n _ (by simp at h ⊢; omega)
theorem open_run : ∀ (n : Nat) (st : List (List D)), st.length + n ≤ 21 → rdS st (List.replicate n [123]) = some (List.replicate n [] ++ st)
  | 0, st, _ => rfl
  | n + 1, st, h => by
    rw [List.replicate_succ, rdS]
    have : stp st [123] = some ([] :: st) := by
      unfold stp
      rw [if_pos rfl, if_pos (by omega)]
    rw [this, Option.bind_some, open_run n _ (by simp; omega), List.replicate_succ']
    simp
theorem leaf_run : ∀ (ws : List (List Nat)) (r : List D) (s : List (List D)), (∀ w ∈ ws, Leaf w) → ∃ r', rdS (r :: s) ws = some (r' :: s)
  | [], r, s, _ => ⟨r, rfl⟩
  | w :: ws, r, s, h => by
    have no := (h w (List.mem_cons_self ..)).no
    have : stp (r :: s) w = some ((r ++ [itemL w]) :: s) := by
      unfold stp
      rw [if_neg no.1, if_neg no.2]
    rw [rdS, this, Option.bind_some]
    exact leaf_run ws _ s fun x m => h x (List.mem_cons_of_mem _ m)
def chainL (n : Nat) (inner : List (List Nat)) : List (List Nat) := List.replicate n [123] ++ inner ++ List.replicate n [125]
theorem chain_run {n : Nat} {inner : List (List Nat)} {ds : List D} (hn : n ≤ 20) (h : ∀ w ∈ inner, Leaf w) : ∃ ds', rdS [ds] (chainL n inner) = some [ds'] := by
  unfold chainL
  rw [rdS_app, rdS_app, open_run n _ (by simp; omega), Option.bind_some]
  cases n with
  | zero =>
    obtain ⟨r', e⟩ := leaf_run inner ds [] h
    have e : rdS (List.replicate 0 [] ++ [ds]) inner = some [r'] := e
    rw [e]
    exact ⟨r', rfl⟩
  | succ n =>
    rw [List.replicate_succ, List.cons_append]
    obtain ⟨r', e⟩ := leaf_run inner [] (List.replicate n [] ++ [ds]) h
    rw [e, Option.bind_some]
    exact close_run (n + 1) _ (by simp)
theorem RowW.chain {m n : Nat} {ws inner : List (List Nat)} (h : RowW m ws) (hn : n ≤ 20) (hi : ∀ w ∈ inner, Leaf w) : RowW (m + 2 * n + inner.length) (ws ++ chainL n inner) := by
  obtain ⟨h1, ⟨ds, h2⟩, h3⟩ := h
  obtain ⟨ds', e⟩ := chain_run (ds := ds) hn hi
  refine ⟨fun w mw => ?_, ⟨ds', by rw [rdS_app, h2]; exact e⟩, ?_⟩
  · rcases List.mem_append.mp mw with mw | mw
    · exact h1 w mw
    · unfold chainL at mw
      rcases List.mem_append.mp mw with mw | mw
      · rcases List.mem_append.mp mw with mw | mw
        · exact .inl (List.eq_of_mem_replicate mw)
        · exact .inr (.inr (hi w mw))
      · exact .inr (.inl (List.eq_of_mem_replicate mw))
  · unfold chainL
    simp
    omega
theorem lt_sh {ws : List (List Nat)} : (ws.map ltD).all isSh = true := by
  induction ws with
  | nil => rfl
  | cons w ws ih => exact ih
theorem lt_open : ltD [123] = .lst [sd [111, 112, 101, 110], sd [123], .tup []] := rfl
theorem lt_close : ltD [125] = .lst [sd [99, 108, 111, 115, 101], sd [125], .tup []] := rfl
/-- n times the same -/
theorem rep_comp {d : D} {n : Nat} {e0 : DL.Env} {k : Nat} {fe : M D} {P : List D → DL.Env → Prop} (I : DL.Env → Prop) (hn : n ≤ 100000) (h0 : I e0) (hk : ∀ v e, I e → I (e.set k (some v))) (hi : ∀ e, I e → I (e.set k none)) (hf : ∀ e, I e → Wp (fe e) fun y e1 => y = d ∧ isSh d = true ∧ I e1)
    (fin : ∀ e, I e → P (List.replicate n d) e) : Wp (compL [k] (gN k) tYesD fe (rg 0 (n : Int)) [] e0) P := by
  have hl : (rg 0 (n : Int)).length = n := by simp [rg]
  refine wp_compL (fun i acc e => acc = List.replicate i d ∧ I e) _ 0 [] e0 ⟨rfl, h0⟩ (by rw [hl, List.length_nil]; omega) ?_ ?_
  · rintro i v acc e hd ⟨rfl, he⟩
    simp -implicitDefEqProofs -dsimp
    refine (hf _ (hk v e he)).imp ?_
    rintro y e1 ⟨rfl, hs, h1⟩
    refine ⟨hs, ?_, hi _ h1⟩
    rw [Nat.zero_add, List.replicate_succ']
  · rintro acc e ⟨rfl, he⟩
    rw [hl, Nat.zero_add]
    exact fin e he
end K03
end

section
set_option maxRecDepth 100000
set_option maxHeartbeats 4000000
namespace K03
open PySem L2 DL
theorem lt_rep {n : Nat} {w : List Nat} : List.replicate n (ltD w) = (List.replicate n w).map ltD := by
  rw [List.map_replicate]
theorem chain_ok {n : Nat} {inner : List (List Nat)} (hn : n ≤ 1000) (hi : inner.length ≤ 100000) : Wp (F__law_chain [.int (n : Int), .lst (inner.map ltD)]) fun d _ => d = .lst ((chainL n inner).map ltD) := by
  unfold F__law_chain
  first | rw [wp_runP] | rw [wp_runF]
  simp -implicitDefEqProofs -dsimp [-wp_seq]
  (first | rw [wp_seq] | (show Wq noE _ _; rw [wp_seq]))
  simp -implicitDefEqProofs -dsimp [-wp_seq]
  refine ⟨by omega, ?_⟩
  refine rep_comp (d := ltD [123]) (fun e => ∃ o3 : Option D, e = [some (.int (n : Int)), some (.lst (inner.map ltD)), none, o3]) (by omega) ⟨_, rfl⟩ ?_ ?_ ?_ ?_
  · rintro v e ⟨o3, rfl⟩
    exact ⟨_, rfl⟩
  · rintro e ⟨o3, rfl⟩
    exact ⟨_, rfl⟩
  · rintro e ⟨o3, rfl⟩
    simp -implicitDefEqProofs -dsimp
    exact rfl
  · rintro e ⟨o3, rfl⟩
    have sh : ((List.replicate n (ltD [123])).all isSh) = true := by rw [lt_rep]; exact lt_sh
    simp -implicitDefEqProofs -dsimp
    rw [add_own sh]
    simp -implicitDefEqProofs -dsimp
    refine ⟨by omega, by omega, ?_⟩
    refine rep_comp (d := ltD [125]) (fun e => ∃ o3 : Option D, e = [some (.int (n : Int)), some (.lst (inner.map ltD)), some (.own (List.replicate n (ltD [123]))), o3]) (by omega) ⟨_, rfl⟩ ?_ ?_ ?_ ?_
    · rintro v e ⟨o3, rfl⟩
      exact ⟨_, rfl⟩
    · rintro e ⟨o3, rfl⟩
      exact ⟨_, rfl⟩
    · rintro e ⟨o3, rfl⟩
      simp -implicitDefEqProofs -dsimp
      exact rfl
    · rintro e ⟨o3, rfl⟩
      simp -implicitDefEqProofs -dsimp
      refine ⟨by omega, ?_⟩
      unfold chainL
      rw [lt_rep, lt_rep, List.map_append, List.map_append]
      simp
def TreeI (c most : Nat) (x : Option D) (i : Nat) (e : DL.Env) : Prop := ∃ (tp : List D) (ws : List (List Nat)) (st : List (List D)) (k : Nat) (o5 o6 : Option D), Tp (c + 61 * i) tp ∧ (∀ w ∈ ws, TokW w) ∧ rdS [[]] ws = some st ∧ st.length = k + 1 ∧ k ≤ most ∧ ws.length = i ∧
  e = [some (.bor tp), x, some (.int (most : Int)), some (.own (ws.map ltD)), some (.int (k : Int)), o5, o6]
theorem tree_ok {c many most : Nat} {tp : List D} (h : Tp c tp) (hc : c + 61 * many < 60000) (hm : most ≤ 4) (hk : many ≤ 200) : Wp (F__law_tree [.bor tp, .int (many : Int), .int (most : Int)]) (TpQ (c + 61 * many) fun d => ∃ ws, d = .lst (ws.map ltD) ∧ RowW (many + 4) ws) := by
  unfold F__law_tree b__law_tree
  first | rw [wp_runP] | rw [wp_runF]
  simp -implicitDefEqProofs -dsimp [-wp_seq]
  (first | rw [wp_seq] | (show Wq noE _ _; rw [wp_seq]))
  simp -implicitDefEqProofs -dsimp [-wp_seq]
  (first | rw [wp_seq] | (show Wq noE _ _; rw [wp_seq]))
  simp -implicitDefEqProofs -dsimp [-wp_seq]
  (first | rw [wp_seq] | (show Wq noE _ _; rw [wp_seq]))
  simp -implicitDefEqProofs -dsimp [-wp_seq]
  refine ⟨by omega, ?_⟩
  refine wp_forL (TreeI c most (some (.int (many : Int)))) _ 0 _ ⟨tp, [], [[]], 0, none, none, h, by simp, rfl, rfl, by omega, rfl, rfl⟩ ?_ ?_
  · rintro i d e hd ⟨tp, ws, st, k, o5, o6, T, hw, hr, hl, hk, hi, rfl⟩
    rw [Nat.zero_add] at T hi
    have hi2 : i < many := by
      have := (List.getElem?_eq_some_iff.mp hd).1
      simpa [rg] using this
    obtain ⟨v, _, rfl⟩ := List.mem_map.mp (List.mem_of_getElem? hd)
    have len : (ws.map ltD).length < 1000000 := by
      rw [List.length_map]
      omega
    have step : ∀ {w : List Nat} {st' : List (List D)} {k' : Nat} {tp' : List D} {o5 o6 : Option D}, TokW w → stp st w = some st' → st'.length = k' + 1 → k' ≤ most → Tp (c + 61 * i + 61) tp' →
        TreeI c most (some (.int (many : Int))) (0 + i + 1) [some (.bor tp'), some (.int (many : Int)), some (.int (most : Int)), some (.own (ws.map ltD ++ [ltD w])), some (.int (k' : Int)), o5, o6] := by
      intro w st' k' tp' o5 o6 t1 t2 t3 t4 t5
      refine ⟨tp', ws ++ [w], st', k', o5, o6, t5.mono (by omega), fun x m => ?_, ?_, t3, t4, by simp [hi], ?_⟩
      · rcases List.mem_append.mp m with m | m
        · exact hw x m
        · rw [List.mem_singleton.mp m]
          exact t1
      · rw [rdS_app, hr, Option.bind_some, rdS, t2]
        rfl
      · rw [List.map_append]
        rfl
    have sh := lt_sh (ws := ws)
    rw [List.all_eq_true] at sh
    have wl : ws.length < 1000000 := by omega
    simp -implicitDefEqProofs -dsimp [-wp_seq]
    (first | rw [wp_seq] | (show Wq noE _ _; rw [wp_seq]))
    simp -implicitDefEqProofs -dsimp [-wp_seq]
    refine (next_ok T (by omega) (by decide)).imp ?_
    rintro _ outs ⟨⟨q, rfl, q_0, q_1⟩, tp_T2, ho, T2⟩
    simp -implicitDefEqProofs -dsimp [putO_one ho]
    rw [Nat.zero_add] at step
    have e1 : ((k + 1 : Nat) : Int) = (k : Int) + 1 := by omega
    have T3 : Tp (c + 61 * i + 61) tp_T2 := T2.mono (by omega)
    have op : k < most → ∀ o5 o6, TreeI c most (some (.int (many : Int))) (i + 1) [some (.bor tp_T2), some (.int (many : Int)), some (.int (most : Int)), some (.own (ws.map ltD ++ [D.lst [sd [111, 112, 101, 110], sd [123], D.tup []]])), some (.int ((k : Int) + 1)), o5, o6] := fun h o5 o6 => by
      rw [← e1]
      exact step (w := [123]) (st' := [] :: st) (.inl rfl) (by
        unfold stp
        rw [if_pos rfl, if_pos (by omega)]) (by simp [hl]) (by omega) T3
    have cl : 0 < k → ∀ o5 o6, TreeI c most (some (.int (many : Int))) (i + 1) [some (.bor tp_T2), some (.int (many : Int)), some (.int (most : Int)), some (.own (ws.map ltD ++ [D.lst [sd [99, 108, 111, 115, 101], sd [125], D.tup []]])), some (.int ((k : Int) - 1)), o5, o6] := fun h o5 o6 => by
      have e2 : (k : Int) - 1 = ((k - 1 : Nat) : Int) := by omega
      rw [e2]
      cases st with
      | nil => simp at hl
      | cons r s1 => cases s1 with
        | nil =>
          simp at hl
          omega
        | cons q s => exact step (w := [125]) (st' := (q ++ [procD r]) :: s) (.inr (.inl rfl)) rfl (by simp at hl ⊢; omega) (by omega) T3
    have lf : ∀ {w : List Nat} {tp' : List D} {o5 o6 : Option D}, Leaf w → Tp (c + 61 * i + 1 + 60) tp' → TreeI c most (some (.int (many : Int))) (i + 1) [some (.bor tp'), some (.int (many : Int)), some (.int (most : Int)), some (.own (ws.map ltD ++ [ltD w])), some (.int (k : Int)), o5, o6] := fun {w tp' o5 o6} h t => by
      cases st with
      | nil => simp at hl
      | cons r s =>
        refine step (w := w) (st' := (r ++ [itemL w]) :: s) (.inr (.inr h)) ?_ (by simpa using hl) hk (t.mono (by omega))
        unfold stp
        rw [if_neg h.no.1, if_neg h.no.2]
    refine ⟨fun _ => ⟨fun h => ⟨wl, op h _ _⟩, fun _ => ⟨fun _ => ⟨fun h => ⟨wl, cl h _ _⟩, fun _ => ?_⟩, fun _ => ?_⟩⟩, fun _ => ⟨fun _ => ⟨fun h => ⟨wl, cl h _ _⟩, fun _ => ?_⟩, fun _ => ?_⟩⟩
    all_goals
      refine (leaf_ok T2 (by omega)).imp ?_
      rintro _ outs ⟨⟨w, rfl, hw'⟩, tp3, ho, T4⟩
      simp -implicitDefEqProofs -dsimp [putO_one ho]
      exact ⟨wl, lf hw' T4⟩
  · rintro e ⟨tp, ws, st, k, o5, o6, T, hw, hr, hl, hk, hi, rfl⟩
    have hm : (rg 0 (many : Int)).length = many := by simp [rg]
    rw [hm, Nat.zero_add] at T hi
    simp -implicitDefEqProofs -dsimp
    refine ⟨by omega, ?_⟩
    refine rep_comp (d := ltD [125]) (fun e => ∃ o5 o6 : Option D, e = [some (.bor tp), some (.int (many : Int)), some (.int (most : Int)), some (.own (ws.map ltD)), some (.int (k : Int)), o5, o6]) (by omega) ⟨_, _, rfl⟩ ?_ ?_ ?_ ?_
    · rintro v e ⟨o5, o6, rfl⟩
      exact ⟨_, _, rfl⟩
    · rintro e ⟨o5, o6, rfl⟩
      exact ⟨_, _, rfl⟩
    · rintro e ⟨o5, o6, rfl⟩
      simp -implicitDefEqProofs -dsimp
      exact rfl
    · rintro e ⟨o5, o6, rfl⟩
      simp -implicitDefEqProofs -dsimp
      rw [add_own lt_sh]
      simp -implicitDefEqProofs -dsimp
      obtain ⟨ds, e⟩ := close_run k st hl
      refine ⟨by omega, ⟨ws ++ List.replicate k [125], ?_, ?_, ⟨ds, ?_⟩, ?_⟩, tp, rfl, T⟩
      · rw [List.map_append, ← lt_rep]
      · intro w m
        rcases List.mem_append.mp m with m | m
        · exact hw w m
        · exact .inr (.inl (List.eq_of_mem_replicate m))
      · rw [rdS_app, hr]
        exact e
      · simp
        omega
end K03
end

section
set_option maxRecDepth 100000
set_option maxHeartbeats 4000000
namespace K03
open PySem L2 DL
abbrev prD (p : Int × Int) : D := .lst [.int p.1, .int p.2]
abbrev natI (n : Nat) : D := .int (n : Int)
abbrev envR (ws : List (List Nat)) (s : RD) (o7 o8 : Option D) : DL.Env := [some (.lst (ws.map ltD)), some (.own (rowsE s.st)), some (.own (s.ps.reverse.map D.int)), some (.own s.sp), some (.own s.wd), some (.own (s.sn.map prD)), some (.own (s.lf.reverse.map natI)), o7, o8]
def ReadI (ws : List (List Nat)) (i : Nat) (e : DL.Env) : Prop := ∃ o7 o8 : Option D, e = envR ws (readAt ws i) o7 o8
theorem pr_sh {l : List (Int × Int)} : (l.map prD).all isSh = true := by
  induction l with
  | nil => rfl
  | cons w ws ih => exact ih
theorem nat_sh {l : List Nat} : (l.map natI).all isSh = true := by
  induction l with
  | nil => rfl
  | cons w ws ih => exact ih
theorem read_ok {ws : List (List Nat)} {ds : List D} (hl : ws.length ≤ 200000) (hw : ∀ w ∈ ws, TokW w) (hr : rdS [[]] ws = some [ds]) :
    Wp (F__law_read [.lst (ws.map ltD)]) fun d _ => d = .lst [.tup ds, .lst (readAt ws ws.length).sp, .lst (readAt ws ws.length).wd, .lst ((readAt ws ws.length).sn.map prD)] := by
  unfold F__law_read b__law_read
  first | rw [wp_runP] | rw [wp_runF]
  simp -implicitDefEqProofs -dsimp [-wp_seq]
  (first | rw [wp_seq] | (show Wq noE _ _; rw [wp_seq]))
  simp -implicitDefEqProofs -dsimp [-wp_seq]
  (first | rw [wp_seq] | (show Wq noE _ _; rw [wp_seq]))
  simp -implicitDefEqProofs -dsimp [-wp_seq]
  (first | rw [wp_seq] | (show Wq noE _ _; rw [wp_seq]))
  simp -implicitDefEqProofs -dsimp [-wp_seq]
  (first | rw [wp_seq] | (show Wq noE _ _; rw [wp_seq]))
  simp -implicitDefEqProofs -dsimp [-wp_seq]
  (first | rw [wp_seq] | (show Wq noE _ _; rw [wp_seq]))
  simp -implicitDefEqProofs -dsimp [-wp_seq]
  (first | rw [wp_seq] | (show Wq noE _ _; rw [wp_seq]))
  simp -implicitDefEqProofs -dsimp [-wp_seq]
  (first | rw [wp_seq] | (show Wq noE _ _; rw [wp_seq]))
  simp -implicitDefEqProofs -dsimp [-wp_seq]
  refine ⟨by omega, ?_⟩
  refine wp_forL (ReadI ws) _ 0 _ ⟨none, none, rfl⟩ ?_ ?_
  · rintro i d e hd ⟨o7, o8, rfl⟩
    rw [Nat.zero_add] at *
    obtain ⟨hi, rfl⟩ := rg_get hd
    obtain ⟨w, hwi⟩ : ∃ w, ws[i]? = some w := ⟨ws[i], by simp [hi]⟩
    have tw := hw w (List.mem_of_getElem? hwi)
    obtain ⟨ok, s2, g2⟩ := readAt_ok hw hr hwi
    have suc := readAt_succ hwi
    have rl : ∀ r ∈ (readAt ws i).st, (r.all isSh) = true ∧ r.length < 900000 := by
      obtain ⟨s1, s2', h1, h2⟩ := rdS_take hr hwi
      have := RdOk.fold (ws.take i) 0 rd0 s1 RdOk.init (fun x m => hw x (List.mem_of_mem_take m)) h1
      have e1 : (readAt ws i).st = s1 := this.2
      rw [e1]
      have r2 := row_len (ws.take i) [[]] s1 0 (by simp) (fun x m => hw x (List.mem_of_mem_take m)) h1
      intro r m
      have := r2 r m
      rw [List.length_take] at this
      exact ⟨this.1, by omega⟩
    have ix : atI (ws.map ltD) (i : Int) = some (ltD w) := by
      rw [DL.atI_nat, List.getElem?_map, hwi]
      rfl
    have goal : ReadI ws (i + 1) (envR ws (stepR i (readAt ws i) w) (some (.int (i : Int))) o8) := ⟨_, _, by rw [suc]⟩
    have goal2 : ∀ x, ReadI ws (i + 1) (envR ws (stepR i (readAt ws i) w) (some (.int (i : Int))) x) := fun x => ⟨_, _, by rw [suc]⟩
    clear suc goal
    revert ok g2 rl goal2
    generalize readAt ws i = s
    obtain ⟨st, ps, sp, wd, sn, lf⟩ := s
    rintro ⟨h1, h2, h3, h4, h5, h6, h6', h7, h8⟩ g2 rl goal2
    dsimp only at h1 h2 h3 h4 h5 h6 h6' h7 h8 g2 rl
    have li : i < 200000 := by omega
    have tu : dTuple [.own (ps.reverse.map D.int)] = some (pathD ps) := tuple_own sh_ints
    have pl : (ps.reverse.map D.int).length = ps.length := by rw [List.length_map, List.length_reverse]
    have psh : (ps.reverse.map D.int).all isSh = true := sh_ints
    have lsh : (lf.reverse.map natI).all isSh = true := nat_sh
    have ll : (lf.reverse.map natI).length = lf.length := by rw [List.length_map, List.length_reverse]
    have nsh : (sn.map prD).all isSh = true := pr_sh
    have nl : (sn.map prD).length = sn.length := by rw [List.length_map]
    rcases tw with rfl | rfl | tw
    · have k : kindL [123] = kOpen := rfl
      have sl : st.length ≤ 20 := by
        unfold stp at g2
        rw [if_pos rfl] at g2
        by_cases z : st.length ≤ 20
        · exact z
        · rw [if_neg z] at g2
          cases g2
      have G : ∀ x, ReadI ws (i + 1) [some (.lst (ws.map ltD)), some (.own (rowsE st ++ [.own []])), some (.own (ps.reverse.map D.int ++ [.int 0])), some (.own (sp ++ [pathD ps])), some (.own (wd ++ [.tup []])), some (.own (sn.map prD ++ [.lst [.int (i : Int), .int ((i : Int) + 1)]])), some (.own (lf.reverse.map natI ++ [.int (wd.length : Int)])), some (.int (i : Int)), x] := fun x => by
        have sr : stepR i ⟨st, ps, sp, wd, sn, lf⟩ [123] = ⟨[] :: st, 0 :: ps, sp ++ [pathD ps], wd ++ [.tup []], sn ++ [((i : Int), (i : Int) + 1)], wd.length :: lf⟩ := if_pos rfl
        have := goal2 x
        rw [sr] at this
        simp only [envR, rowsE_cons, List.reverse_cons, List.map_append, List.map_cons, List.map_nil] at this
        exact this
      clear goal2
      dsimp only [envR]
      have rln := rowsE_len (st := st)
      revert tu psh lsh nsh pl ll nl G
      generalize ps.reverse.map D.int = P
      generalize lf.reverse.map natI = L
      generalize sn.map prD = N
      intro tu pl psh lsh ll nsh nl G
      rw [List.all_eq_true] at psh lsh nsh h4 h5
      have b1 : sp.length < 1000000 := by omega
      have b2 : wd.length < 1000000 := by omega
      have b3 : N.length < 1000000 := by omega
      have b4 : L.length < 1000000 := by omega
      have b5 : P.length < 1000000 := by omega
      have b6 : (rowsE st).length < 1000000 := by omega
      simp -implicitDefEqProofs -dsimp [ix, k, tu, b1, b2, b3, b4, b5, b6]
      exact ⟨h4, nsh, h5, lsh, psh, G _⟩
    · have k : kindL [125] = kClose := rfl
      unfold stp at g2
      rw [if_neg (by decide), if_pos rfl] at g2
      cases st with
      | nil => exact absurd rfl h1
      | cons r st => cases st with
        | nil => cases g2
        | cons q t => cases ps with
          | nil => simp at h2
          | cons y ps => cases ps with
            | nil => simp at h2
            | cons z ps => cases lf with
              | nil => simp at h3
              | cons x lf =>
                have hx : x < wd.length := h8 x (by simp)
                have hx2 : x < sn.length := by omega
                have rr := rl r (by simp)
                have rq := rl q (by simp)
                have G : ∀ o, ReadI ws (i + 1) [some (.lst (ws.map ltD)), some (.own (rowsE t ++ [.own (q ++ [procD r])])), some (.own (ps.reverse.map D.int ++ [.int (z + 1)])), some (.own sp), some (.own (wd.set x (procD r))), some (.own ((sn.map prD).set x (.lst [.int (sn[x]).1, .int ((i : Int) + 1)]))), some (.own (lf.reverse.map natI)), some (.int (i : Int)), o] := fun o => by
                  have sr : stepR i ⟨r :: q :: t, y :: z :: ps, sp, wd, sn, x :: lf⟩ [125] = ⟨(q ++ [procD r]) :: t, (z + 1) :: ps, sp, wd.set x (procD r), sn.set x ((sn.getD x (0, 0)).1, (i : Int) + 1), lf⟩ := rfl
                  have := goal2 o
                  rw [sr] at this
                  have e1 : sn.getD x (0, 0) = sn[x] := by simp [List.getD, hx2]
                  rw [e1] at this
                  simp only [envR, rowsE_cons, List.reverse_cons, List.map_append, List.map_cons, List.map_nil, List.map_set] at this
                  exact this
                clear goal2
                have nx : (sn.map prD)[x]? = some (prD sn[x]) := by simp [hx2]
                dsimp only [envR]
                simp only [List.reverse_cons, List.map_append, List.map_cons, List.map_nil, rowsE_cons] at psh lsh pl ll ⊢
                revert psh lsh nsh pl ll nl nx G
                generalize ps.reverse.map D.int = P
                generalize lf.reverse.map natI = L
                generalize sn.map prD = N
                generalize sn[x] = pr
                intro nsh nl G nx psh lsh pl ll
                have wx : ixN wd.length (x : Int) = some x := ixN_nat hx
                have nxi : ixN N.length (x : Int) = some x := ixN_nat (by omega)
                have nat : atI N (x : Int) = some (prD pr) := by rw [DL.atI_nat, nx]
                have wat : atI (wd.set x (.tup [sd [112, 114, 111, 99], .tup r])) (x : Int) = some (.tup [sd [112, 114, 111, 99], .tup r]) := by
                  rw [DL.atI_nat]
                  simp [hx]
                have psh2 : (P.all isSh) = true := by
                  rw [List.all_append, List.all_append, Bool.and_eq_true, Bool.and_eq_true] at psh
                  exact psh.1.1
                have w5 : ((wd.set x (procD r)).all isSh) = true := all_set h5 rfl
                rw [List.all_eq_true] at h5 nsh psh2
                have ap : appR (rowsE t ++ [.own q]) (-1) (.tup [sd [112, 114, 111, 99], .tup r]) = some (rowsE t ++ [.own (q ++ [.tup [sd [112, 114, 111, 99], .tup r]])]) := appR_last rq.1 rfl (by omega)
                have pp : popD (P ++ [.int z, .int y]) = some (.int y, P ++ [.int z]) := by
                  have := popD_int (ds := P ++ [.int z]) (i := y)
                  simpa using this
                have pw : popD (rowsE t ++ [.own q, .own r]) = some (.lst r, rowsE t ++ [.own q]) := by
                  have := popD_own (ds := rowsE t ++ [.own q]) rr.1
                  simpa using this
                simp -implicitDefEqProofs -dsimp [ix, k, popD_int, pp, pw, wx, nxi, nat, wat, isRow_last, ap, at_last, set_last]
                exact ⟨h5, nsh, fun x m => m.elim (psh2 x) (fun e => by rw [e]; rfl), G _⟩
    · have no := tw.no
      unfold stp at g2
      rw [if_neg no.1, if_neg no.2] at g2
      cases st with
      | nil => exact absurd rfl h1
      | cons r t => cases ps with
        | nil => simp at h2
        | cons z ps =>
          have rr := rl r (by simp)
          have G : ∀ o, ReadI ws (i + 1) [some (.lst (ws.map ltD)), some (.own (rowsE t ++ [.own (r ++ [itemL w])])), some (.own (ps.reverse.map D.int ++ [.int (z + 1)])), some (.own (sp ++ [pathD (z :: ps)])), some (.own (wd ++ [itemL w])), some (.own (sn.map prD ++ [.lst [.int (i : Int), .int ((i : Int) + 1)]])), some (.own (lf.reverse.map natI)), some (.int (i : Int)), o] := fun o => by
            have sr : stepR i ⟨r :: t, z :: ps, sp, wd, sn, lf⟩ w = ⟨(r ++ [itemL w]) :: t, (z + 1) :: ps, sp ++ [pathD (z :: ps)], wd ++ [itemL w], sn ++ [((i : Int), (i : Int) + 1)], lf⟩ := by
              unfold stepR
              rw [if_neg no.1, if_neg no.2]
            have := goal2 o
            rw [sr] at this
            simp only [envR, rowsE_cons, List.reverse_cons, List.map_append, List.map_cons, List.map_nil] at this
            exact this
          clear goal2
          dsimp only [envR]
          simp only [List.reverse_cons, List.map_append, List.map_cons, List.map_nil, rowsE_cons] at psh pl tu ⊢
          revert psh lsh nsh pl ll nl G tu
          generalize ps.reverse.map D.int = P
          generalize lf.reverse.map natI = L
          generalize sn.map prD = N
          intro lsh ll nsh nl G psh pl tu
          have psh2 : (P.all isSh) = true := by
            rw [List.all_append, Bool.and_eq_true] at psh
            exact psh.1
          have ap : appR (rowsE t ++ [.own r]) (-1) (itemL w) = some (rowsE t ++ [.own (r ++ [itemL w])]) := appR_last rr.1 (item_sh w) (by omega)
          rw [List.all_eq_true] at psh2 lsh nsh h4 h5
          have b1 : sp.length < 1000000 := by omega
          have b2 : wd.length < 1000000 := by omega
          have b3 : N.length < 1000000 := by omega
          rcases tw.kind with k | k | k
          · simp -implicitDefEqProofs -dsimp [ix, k, tu, b1, b2, b3, no.1, no.2, isRow_last, ap, at_last, set_last]
            exact ⟨h4, nsh, h5, fun x m => m.elim (psh2 x) (fun e => by rw [e]; rfl), G _⟩
          · simp -implicitDefEqProofs -dsimp [ix, k, tu, b1, b2, b3, no.1, no.2, isRow_last, ap, at_last, set_last]
            exact ⟨h4, nsh, h5, fun x m => m.elim (psh2 x) (fun e => by rw [e]; rfl), G _⟩
          · simp -implicitDefEqProofs -dsimp [ix, k, tu, b1, b2, b3, no.1, no.2, isRow_last, ap, at_last, set_last]
            exact ⟨h4, nsh, h5, fun x m => m.elim (psh2 x) (fun e => by rw [e]; rfl), G _⟩
  · rintro e ⟨o7, o8, rfl⟩
    have hm : (rg 0 (ws.length : Int)).length = ws.length := by simp [rg]
    rw [hm, Nat.zero_add]
    obtain ⟨ok, e1⟩ := readAt_end hw hr
    have sh : (ds.all isSh) = true := (row_len ws [[]] [ds] 0 (by simp) hw hr ds (by simp)).1
    have r1 : rowsE [ds] = [.own ds] := rfl
    have s1 := ok.sp
    have s2 := ok.wd
    have s3 := pr_sh (l := (readAt ws ws.length).sn)
    dsimp only [envR]
    rw [e1, r1]
    revert s3
    generalize (readAt ws ws.length).sn.map prD = N
    intro s3
    rw [List.all_eq_true] at s1 s2 s3
    simp -implicitDefEqProofs -dsimp [rowD_one sh]
    exact ⟨s1, s2, s3⟩
end K03
end

section
set_option maxRecDepth 100000
set_option maxHeartbeats 4000000
namespace K03
open PySem L2 DL
theorem blk_pick {bs : List (List Nat)} {q : Int} (h0 : 0 ≤ q) (h1 : q < bs.length) (hb : ∀ b ∈ bs, Blk b ∧ b.length ≤ 3) : ∃ b, b ∈ bs ∧ Blk b ∧ b.length ≤ 3 ∧ atI (bs.map sd) q = some (sd b) := by
  obtain ⟨x, m, e⟩ := at_mem (xs := bs.map sd) h0 (by rw [List.length_map]; exact h1)
  obtain ⟨b, mb, rfl⟩ := List.mem_map.mp m
  exact ⟨b, mb, (hb b mb).1, (hb b mb).2, e⟩
instance (b : List Nat) : Decidable (Blk b) := inferInstanceAs (Decidable (∀ c ∈ b, c = 32 ∨ c = 10))
/-- a written text: its tokens are those that were told -/
def TxI (c : Nat) (ws : List (List Nat)) (i : Nat) (e : DL.Env) : Prop := ∃ (tp : List D) (t : List Nat) (k : List Nat) (o5 o6 : Option D), Tp (c + 1 + i) tp ∧ (toksL t).map (·.1) = ws.take i ∧ t.length ≤ 3 + 53 * i ∧ (k = kOpen ∨ k = kClose → (scanT t).pend = []) ∧
  e = [some (.bor tp), some (.lst (ws.map ltD)), some (sd t), some (.own ((toksL t).map tokD)), some (sd k), o5, o6]
theorem text_ok {c : Nat} {tp : List D} {ws : List (List Nat)} (h : Tp c tp) (hc : c + ws.length < 70000) (hl : ws.length ≤ 5000) (hw : ∀ w ∈ ws, TokW w) :
    Wp (F__law_text [.bor tp, .lst (ws.map ltD)]) (TpQ (c + ws.length + 2) fun d => ∃ t, d = .lst [sd t, .lst ((toksL t).map tokD)] ∧ (toksL t).map (·.1) = ws ∧ t.length ≤ 10 + 53 * ws.length) := by
  unfold F__law_text b__law_text
  first | rw [wp_runP] | rw [wp_runF]
  simp -implicitDefEqProofs -dsimp [-wp_seq]
  (first | rw [wp_seq] | (show Wq noE _ _; rw [wp_seq]))
  simp -implicitDefEqProofs -dsimp [-wp_seq]
  refine (next_ok h (by omega) (by decide)).imp ?_
  rintro _ outs ⟨⟨q, rfl, q_0, q_1⟩, tp_T1, ho, T1⟩
  simp -implicitDefEqProofs -dsimp [putO_one ho]
  obtain ⟨b, _, bb, bl, eb⟩ := blk_pick (bs := [[], [32], [], [10]]) q_0 (by simpa using q_1) (by decide)
  have eb : atI [sd [], sd [32], sd [], sd [10]] q = some (sd b) := eb
  simp -implicitDefEqProofs -dsimp [-wp_seq, eb]
  (first | rw [wp_seq] | (show Wq noE _ _; rw [wp_seq]))
  simp -implicitDefEqProofs -dsimp [-wp_seq]
  (first | rw [wp_seq] | (show Wq noE _ _; rw [wp_seq]))
  simp -implicitDefEqProofs -dsimp [-wp_seq]
  (first | rw [wp_seq] | (show Wq noE _ _; rw [wp_seq]))
  simp -implicitDefEqProofs -dsimp [-wp_seq]
  obtain ⟨tb1, tb2⟩ := tok_blk (t := []) bb
  rw [List.nil_append] at tb1 tb2
  refine wp_forL (TxI c ws) _ 0 _ ⟨tp_T1, b, kOpen, none, none, T1, by rw [tb1]; rfl, by omega, fun _ => tb2 (.inr rfl), by rw [tb1]; rfl⟩ ?_ ?_
  · rintro i d e hd ⟨tp, t, k, o5, o6, T, ht, hl', hp, rfl⟩
    rw [Nat.zero_add] at *
    have hi := (List.getElem?_eq_some_iff.mp hd).1
    rw [List.length_map] at hi
    rw [List.getElem?_map] at hd
    obtain ⟨w, hwi, rfl⟩ := Option.map_eq_some_iff.mp hd
    have tw := hw w (List.mem_of_getElem? hwi)
    have wl := tw.len
    have brace : kindL w = kOpen ∨ kindL w = kClose → w = [123] ∨ w = [125] := fun z => by
      rcases tw with h | h | h
      · exact .inl h
      · exact .inr h
      · rcases h.kind with e | e | e <;> rw [e] at z <;> exact absurd z (by decide)
    have fin : ∀ {b : List Nat} {tp' : List D} {o5 o6 : Option D}, Blk b → b.length ≤ 3 → (b ≠ [] ∨ (k = kOpen ∨ k = kClose) ∨ kindL w = kOpen ∨ kindL w = kClose) → Tp (c + 1 + i + 1) tp' →
        TxI c ws (i + 1) [some (.bor tp'), some (.lst (ws.map ltD)), some (sd (t ++ (b ++ w))), some (.own ((toksL t).map tokD ++ [.tup [sd (kindL w), sd w, .int ((t.length + b.length : Nat) : Int)]])), some (sd (kindL w)), o5, o6] := by
      intro b tp' o5 o6 bb bl hb T'
      obtain ⟨b1, b2⟩ := tok_blk (t := t) bb
      have hp2 : (scanT (t ++ b)).pend = [] ∨ w = [123] ∨ w = [125] := by
        rcases hb with z | z | z
        · exact .inl (b2 (.inl z))
        · exact .inl (b2 (.inr (hp z)))
        · exact .inr (brace z)
      obtain ⟨a1, a2⟩ := tok_add tw hp2
      rw [b1, List.append_assoc] at a1
      rw [List.append_assoc] at a2
      refine ⟨tp', t ++ (b ++ w), kindL w, o5, o6, T'.mono (by omega), ?_, by simp; omega, fun z => a2 (brace z), ?_⟩
      · rw [a1, List.map_append, ht, List.take_succ, hwi]
        rfl
      · rw [a1, List.map_append, List.length_append]
        rfl
    have tl : t.length ≤ 290000 := by omega
    have dl : (toksL t).length < 1000000 := by
      have := congrArg List.length ht
      rw [List.length_map, List.length_take] at this
      omega
    have dsh : ∀ (a : List Nat) (n : Nat), (a, n) ∈ toksL t → isSh (tokD (a, n)) = true := fun _ _ _ => rfl
    simp -implicitDefEqProofs -dsimp [-wp_seq]
    (first | rw [wp_seq] | (show Wq noE _ _; rw [wp_seq]))
    simp -implicitDefEqProofs -dsimp [-wp_seq]
    (first | rw [wp_seq] | (show Wq noE _ _; rw [wp_seq]))
    simp -implicitDefEqProofs -dsimp [-wp_seq]
    refine ⟨fun z => ?_, fun _ => ⟨fun z => ?_, fun _ => ⟨fun z => ?_, fun _ => ⟨fun z => ?_, fun _ => ?_⟩⟩⟩⟩
    · refine (next_ok T (by omega) (by decide)).imp ?_
      rintro _ outs ⟨⟨n, rfl, n_0, n_1⟩, tp_T2, ho, T2⟩
      simp -implicitDefEqProofs -dsimp [putO_one ho]
      obtain ⟨b, mb, bb, bl, eb⟩ := blk_pick (bs := [[], [32], [], [10], [32, 10, 32]]) n_0 (by simpa using n_1) (by decide)
      have eb : atI [sd [], sd [32], sd [], sd [10], sd [32, 10, 32]] n = some (sd b) := eb
      have G := fun o5 o6 => fin (o5 := o5) (o6 := o6) bb bl (.inr (.inl (.inl z))) T2
      simp -implicitDefEqProofs -dsimp [eb, dl]
      refine ⟨by omega, fun x a n _ e => by rw [← e]; rfl, by omega, ?_⟩
      have cs : ((t.length + b.length : Nat) : Int) = (t.length : Int) + b.length := by omega
      rw [cs] at G
      exact G _ _
    · refine (next_ok T (by omega) (by decide)).imp ?_
      rintro _ outs ⟨⟨n, rfl, n_0, n_1⟩, tp_T2, ho, T2⟩
      simp -implicitDefEqProofs -dsimp [putO_one ho]
      obtain ⟨b, mb, bb, bl, eb⟩ := blk_pick (bs := [[], [32], [], [10], [32, 10, 32]]) n_0 (by simpa using n_1) (by decide)
      have eb : atI [sd [], sd [32], sd [], sd [10], sd [32, 10, 32]] n = some (sd b) := eb
      have G := fun o5 o6 => fin (o5 := o5) (o6 := o6) bb bl (.inr (.inl (.inr z))) T2
      simp -implicitDefEqProofs -dsimp [eb, dl]
      refine ⟨by omega, fun x a n _ e => by rw [← e]; rfl, by omega, ?_⟩
      have cs : ((t.length + b.length : Nat) : Int) = (t.length : Int) + b.length := by omega
      rw [cs] at G
      exact G _ _
    · refine (next_ok T (by omega) (by decide)).imp ?_
      rintro _ outs ⟨⟨n, rfl, n_0, n_1⟩, tp_T2, ho, T2⟩
      simp -implicitDefEqProofs -dsimp [putO_one ho]
      obtain ⟨b, mb, bb, bl, eb⟩ := blk_pick (bs := [[], [32], [], [10], [32, 10, 32]]) n_0 (by simpa using n_1) (by decide)
      have eb : atI [sd [], sd [32], sd [], sd [10], sd [32, 10, 32]] n = some (sd b) := eb
      have G := fun o5 o6 => fin (o5 := o5) (o6 := o6) bb bl (.inr (.inr (.inl z))) T2
      simp -implicitDefEqProofs -dsimp [eb, dl]
      refine ⟨by omega, fun x a n _ e => by rw [← e]; rfl, by omega, ?_⟩
      have cs : ((t.length + b.length : Nat) : Int) = (t.length : Int) + b.length := by omega
      rw [cs] at G
      exact G _ _
    · refine (next_ok T (by omega) (by decide)).imp ?_
      rintro _ outs ⟨⟨n, rfl, n_0, n_1⟩, tp_T2, ho, T2⟩
      simp -implicitDefEqProofs -dsimp [putO_one ho]
      obtain ⟨b, mb, bb, bl, eb⟩ := blk_pick (bs := [[], [32], [], [10], [32, 10, 32]]) n_0 (by simpa using n_1) (by decide)
      have eb : atI [sd [], sd [32], sd [], sd [10], sd [32, 10, 32]] n = some (sd b) := eb
      have G := fun o5 o6 => fin (o5 := o5) (o6 := o6) bb bl (.inr (.inr (.inr z))) T2
      simp -implicitDefEqProofs -dsimp [eb, dl]
      refine ⟨by omega, fun x a n _ e => by rw [← e]; rfl, by omega, ?_⟩
      have cs : ((t.length + b.length : Nat) : Int) = (t.length : Int) + b.length := by omega
      rw [cs] at G
      exact G _ _
    · refine (next_ok T (by omega) (by decide)).imp ?_
      rintro _ outs ⟨⟨n, rfl, n_0, n_1⟩, tp_T2, ho, T2⟩
      simp -implicitDefEqProofs -dsimp [putO_one ho]
      obtain ⟨b, mb, bb, bl, eb⟩ := blk_pick (bs := [[32], [10], [32, 32], [32, 10]]) n_0 (by simpa using n_1) (by decide)
      have eb : atI [sd [32], sd [10], sd [32, 32], sd [32, 10]] n = some (sd b) := eb
      have bn : b ≠ [] := by
        have : ∀ b ∈ [[32], [10], [32, 32], [32, 10]], b ≠ ([] : List Nat) := by decide
        exact this b mb
      have G := fun o5 o6 => fin (o5 := o5) (o6 := o6) bb bl (.inl bn) T2
      simp -implicitDefEqProofs -dsimp [eb, dl]
      refine ⟨by omega, fun x a n _ e => by rw [← e]; rfl, by omega, ?_⟩
      have cs : ((t.length + b.length : Nat) : Int) = (t.length : Int) + b.length := by omega
      rw [cs] at G
      exact G _ _
  · rintro e ⟨tp, t, k, o5, o6, T, ht, hl', hp, rfl⟩
    rw [List.length_map, Nat.zero_add] at *
    rw [List.take_length] at ht
    simp -implicitDefEqProofs -dsimp
    refine (next_ok T (by omega) (by decide)).imp ?_
    rintro _ outs ⟨⟨n, rfl, n_0, n_1⟩, tp_T2, ho, T2⟩
    simp -implicitDefEqProofs -dsimp [putO_one ho]
    obtain ⟨b, mb, bb, bl, eb⟩ := blk_pick (bs := [[], [32], [], [10]]) n_0 (by simpa using n_1) (by decide)
    have eb : atI [sd [], sd [32], sd [], sd [10]] n = some (sd b) := eb
    obtain ⟨b1, b2⟩ := tok_blk (t := t) bb
    simp -implicitDefEqProofs -dsimp [eb]
    exact ⟨by omega, ⟨t ++ b, by rw [b1], by rw [b1]; exact ht, by simp; omega⟩, tp_T2, rfl, T2.mono (by omega)⟩
end K03
end

section
set_option maxRecDepth 100000
set_option maxHeartbeats 4000000
namespace K03
open PySem L2 DL
theorem spliced_ok {r us : List Tr} {i : Nat} (h1 : r.length ≤ 100000) (h2 : us.length ≤ 100000) : Wp (F_spliced [.tup (trsD r), .int (i : Int), .tup (trsD us)]) fun d _ => d = .tup (trsD (splice r (i : Int) us)) := by
  have l1 := trsD_len (ts := r)
  have l2 := trsD_len (ts := us)
  have e : trsD (splice r (i : Int) us) = (trsD r).take i ++ trsD us ++ (trsD r).drop (i + 1) := by
    unfold splice
    rw [Int.toNat_natCast, trsD_app, trsD_app, trsD_map, trsD_map, trsD_map, trsD_map, List.map_take, List.map_drop]
  have lt : ((trsD r).take i).length ≤ r.length := by rw [List.length_take]; omega
  have ld : ((trsD r).drop (i + 1)).length ≤ r.length := by rw [List.length_drop]; omega
  unfold F_spliced
  first | rw [wp_runP] | rw [wp_runF]
  simp -implicitDefEqProofs -dsimp [cut_to, cut_from_s]
  revert lt ld e l1 l2
  generalize (trsD r).take i = A
  generalize (trsD r).drop (i + 1) = B
  intro l1 l2 e lt ld
  refine ⟨by omega, by omega, ?_⟩
  rw [e, List.append_assoc]
/-! ### depths -/
abbrev pdG : TgF := gT 2 (gsCons (gN 2) (gsCons (gN 3) gsNil))
abbrev pdB (R : List D → Rs D) : M Fl := sIf (tOf (eBin dEq (eVar 2) (eC (sd [112, 114, 111, 99])))) (sAsg 1 (eBlt dMax2 (aCons (eVar 1) (aCons (eBin dAdd (eC (.int 1)) (eCall 1 R (aCons (eVal 3) aNil))) aNil)))) sNext
theorem pd_turn {R : List D → Rs D} {t : Tr} {x : Option D} {n : Int} {o2 o3 : Option D} (hR : ∀ us, t = .proc us → Wp (R [.tup (trsD us)]) fun d _ => d = .int (deps us : Int)) :
    0 ≤ n → Op (pdG t.d [x, some (.int n), o2, o3]) fun e => Wp (pdB R e) fun f e1 => f = .nx ∧ ∃ o2 o3 : Option D, e1 = [x, some (.int (max n (t.dep : Int))), o2, o3] := by
  intro hn
  cases t with
  | leaf w =>
    obtain ⟨k, y, e, hk, hy⟩ := item_two w
    have hk : ¬k = [112, 114, 111, 99] := hk
    rw [Tr.d, Tr.dep, e]
    have e0 : max n ((0 : Nat) : Int) = n := by omega
    rw [e0]
    simp -implicitDefEqProofs -dsimp [hk]
  | proc us =>
    rw [Tr.d, Tr.dep]
    have go := hR us rfl
    unfold procD
    simp -implicitDefEqProofs -dsimp
    refine go.imp ?_
    rintro _ _ rfl
    simp -implicitDefEqProofs -dsimp [max2_eq]
theorem pd_loop {R : List D → Rs D} {x : Option D} {Q : Fl → DL.Env → Prop} : ∀ (ts : List Tr) (n : Int) (o2 o3 : Option D), 0 ≤ n → (∀ t ∈ ts, ∀ us, t = .proc us → Wp (R [.tup (trsD us)]) fun d _ => d = .int (deps us : Int)) →
    (∀ o2 o3, Q .nx [x, some (.int (max n (deps ts : Int))), o2, o3]) → Wp (forL pdG (pdB R) (trsD ts) [x, some (.int n), o2, o3]) Q
  | [], n, o2, o3, hn, _, hQ => by
    have := hQ o2 o3
    have e0 : max n ((deps [] : Nat) : Int) = n := by rw [deps]; omega
    rw [e0] at this
    exact this
  | t :: ts, n, o2, o3, hn, hR, hQ => by
    rw [trsD]
    show Wq noE (forL pdG (pdB R) (_ :: _) _) Q
    rw [wp_forCons]
    obtain ⟨e1, q1, he⟩ := Op.get (pd_turn (R := R) (x := x) (o2 := o2) (o3 := o3) (hR t (List.mem_cons_self ..)) hn)
    rw [q1, op_some]
    refine Wp.imp he ?_
    rintro f e2 ⟨rfl, o2', o3', rfl⟩
    refine pd_loop ts (max n (t.dep : Int)) o2' o3' (by omega) (fun u m => hR u (List.mem_cons_of_mem _ m)) fun a b => ?_
    have := hQ a b
    rw [deps] at this
    have e3 : max (max n (t.dep : Int)) (deps ts : Int) = max n ((max t.dep (deps ts) : Nat) : Int) := by omega
    rw [e3]
    exact this
theorem pd_ok : ∀ (m : Nat) (ts : List Tr), deps ts < m → Wp (G_proc_depth m [.tup (trsD ts)]) fun d _ => d = .int (deps ts : Int)
  | 0, ts, h => by omega
  | m + 1, ts, h => by
    unfold G_proc_depth
    first | rw [wp_runP] | rw [wp_runF]
    simp -implicitDefEqProofs -dsimp
    refine pd_loop (R := G_proc_depth m) (x := some (.tup (trsD ts))) ts 0 none none (by omega) (fun t mt us e => pd_ok m us ?_) fun o2 o3 => ?_
    · subst e
      have : (Tr.proc us).dep ≤ deps ts := dep_mem mt
      rw [Tr.dep] at this
      omega
    · have e0 : max 0 (deps ts : Int) = (deps ts : Int) := by omega
      simp -implicitDefEqProofs -dsimp [e0]
theorem proc_depth_ok {ts : List Tr} (h : deps ts < 40) : Wp (F_proc_depth [.tup (trsD ts)]) fun d _ => d = .int (deps ts : Int) := pd_ok 40 ts h
end K03
end

section
set_option maxRecDepth 100000
set_option maxHeartbeats 4000000
namespace K03
open PySem L2 DL
theorem tIs_sh {l : List (List Int)} : (l.map tI).all isSh = true := by
  induction l with
  | nil => rfl
  | cons w ws ih => exact ih
/-! ### places -/
def PbI (b : List Int) (ts : List Tr) (i : Nat) (e : DL.Env) : Prop := ∃ o3 o4 o5 o6 : Option D, e = [some (tI b), some (.tup (trsD ts)), some (.own ((pths b 0 (ts.take i)).map tI)), o3, o4, o5, o6]
theorem pb_ok : ∀ (m : Nat) (b : List Int) (ts : List Tr), deps ts < m → b.length + m ≤ 1000 → (toks ts).length ≤ 100000 → Wp (G_places_behind m [tI b, .tup (trsD ts)]) fun d _ => d = .lst ((pths b 0 ts).map tI)
  | 0, b, ts, h, _, _ => by omega
  | m + 1, b, ts, h, hb, hl => by
    have ll := trsD_len (ts := ts)
    have lt := len_toks (ts := ts)
    unfold G_places_behind
    first | rw [wp_runP] | rw [wp_runF]
    simp -implicitDefEqProofs -dsimp
    refine ⟨by omega, ?_⟩
    rw [ll]
    refine wp_forL (PbI b ts) _ 0 _ ⟨none, none, none, none, by rw [List.take_zero, pths]; rfl⟩ ?_ ?_
    · rintro i d e hd ⟨o3, o4, o5, o6, rfl⟩
      rw [Nat.zero_add] at *
      obtain ⟨hi, rfl⟩ := rg_get hd
      obtain ⟨t, ht⟩ : ∃ t, ts[i]? = some t := ⟨ts[i], by simp [hi]⟩
      have ix : atI (trsD ts) (i : Int) = some t.d := by rw [DL.atI_nat, trsD_get, ht]; rfl
      have tk : ts.take (i + 1) = ts.take i ++ [t] := by rw [List.take_succ, ht]; rfl
      have ti : (ts.take i).length = i := by rw [List.length_take]; omega
      have pl := pths_len (ts := ts.take i) (b := b) (z := 0)
      have pl2 : (toks (ts.take i)).length + t.tok.length ≤ (toks ts).length := by
        have e1 : ts = ts.take i ++ t :: ts.drop (i + 1) := by
          obtain ⟨hi2, rfl⟩ := List.getElem?_eq_some_iff.mp ht
          rw [← List.drop_eq_getElem_cons hi2, List.take_append_drop]
        have e2 : (toks ts).length = (toks (ts.take i)).length + (t.tok.length + (toks (ts.drop (i + 1))).length) := by
          conv => lhs; rw [e1]
          rw [toks_app, toks, List.length_append, List.length_append]
        omega
      obtain ⟨q, hq⟩ : ∃ q : List Int, q = b ++ [(i : Int)] := ⟨_, rfl⟩
      have hp : dAdd (.tup (b.map D.int)) (.tup [.int (i : Int)]) = some (.tup (q.map D.int)) := by
        rw [hq, add_tup, if_pos (by simp; omega)]
        simp
      have ql : q.length = b.length + 1 := by rw [hq]; simp
      have goal : ∀ o3 o4 o5 o6 : Option D, PbI b ts (i + 1) [some (tI b), some (.tup (trsD ts)), some (.own ((pths b 0 (ts.take i)).map tI ++ (pth1 b i t).map tI)), o3, o4, o5, o6] := fun o3 o4 o5 o6 => ⟨o3, o4, o5, o6, by rw [tk, pths_snoc, ti, Nat.zero_add, List.map_append]⟩
      have ml : ((pths b 0 (ts.take i)).map tI).length < 1000000 := by rw [List.length_map]; omega
      have ms := tIs_sh (l := pths b 0 (ts.take i))
      have md : ∀ us, t = .proc us → Wp (G_places_behind m [tI q, .tup (trsD us)]) fun d _ => d = .lst ((pths q 0 us).map tI) := fun us e => by
        have h1 := dep_mem (List.mem_of_getElem? ht)
        have h2 := tok_mem (List.mem_of_getElem? ht)
        subst e
        rw [Tr.dep] at h1
        rw [tok_len_proc] at h2
        exact pb_ok m q us (by omega) (by omega) (by omega)
      clear pl tk ti ht hd
      have ln : (pths b 0 (ts.take i)).length + t.tok.length ≤ 200000 := by
        rw [List.length_map] at ml
        have := pths_len (ts := ts.take i) (b := b) (z := 0)
        omega
      have lm : ((pths b 0 (ts.take i)).map tI).length = (pths b 0 (ts.take i)).length := List.length_map ..
      revert goal ml ms ln lm
      generalize (pths b 0 (ts.take i)).map tI = P
      generalize (pths b 0 (ts.take i)).length = pq
      intro goal ml ms ln lm
      rw [List.all_eq_true] at ms
      have bl : b.length + 1 ≤ 1000000 := by omega
      have pl1 : P.length + 1 ≤ 1000000 := by omega
      cases t with
      | leaf w =>
        obtain ⟨k, y, e, hk, hy⟩ := item_two w
        have hk : ¬k = [112, 114, 111, 99] := hk
        have g := goal
        rw [pth1, ← hq] at g
        rw [Tr.d, e] at ix
        simp -implicitDefEqProofs -dsimp [-add_tup, hp, ix, hk, ml]
        exact ⟨ms, g _ _ _ _⟩
      | proc us =>
        have g := goal
        rw [pth1, ← hq] at g
        rw [Tr.d] at ix
        unfold procD at ix
        have us_sh := tIs_sh (l := pths q 0 us)
        have us_len := pths_len (ts := us) (b := q) (z := 0)
        rw [tok_len_proc] at ln
        simp -implicitDefEqProofs -dsimp [-add_tup, hp, ix, ml]
        refine ⟨ms, ?_⟩
        refine (md us rfl).imp ?_
        rintro _ _ rfl
        have gg := g (some (.int (i : Int))) (some (tI q)) (some (sd [112, 114, 111, 99])) (some (.tup (trsD us)))
        revert us_sh us_len gg
        simp only [List.map_cons]
        generalize hm : (pths q 0 us).map tI = U
        have hu : U.length = (pths q 0 us).length := by rw [← hm, List.length_map]
        intro us_sh us_len gg
        rw [List.all_eq_true] at us_sh
        simp -implicitDefEqProofs -dsimp
        refine ⟨⟨fun x m => ?_, us_sh, by omega⟩, by simpa using gg⟩
        rcases m with m | rfl
        · exact ms x m
        · rfl
    · rintro e ⟨o3, o4, o5, o6, rfl⟩
      have hm : (rg 0 (ts.length : Int)).length = ts.length := by simp [rg]
      rw [hm, Nat.zero_add, List.take_length]
      have ms := tIs_sh (l := pths b 0 ts)
      generalize (pths b 0 ts).map tI = P at ms ⊢
      rw [List.all_eq_true] at ms
      simp -implicitDefEqProofs -dsimp
      exact ms
theorem places_ok {ts : List Tr} (h : deps ts < 40) (hl : (toks ts).length ≤ 100000) : Wp (F_places [.tup (trsD ts)]) fun d _ => d = .lst ((pths [] 0 ts).map tI) := by
  have go : Wp (F_places_behind [.tup [], .tup (trsD ts)]) fun d _ => d = .lst ((pths [] 0 ts).map tI) := pb_ok 40 [] ts h (by simp) hl
  unfold F_places
  first | rw [wp_runP] | rw [wp_runF]
  simp -implicitDefEqProofs -dsimp
  refine go.imp ?_
  rintro _ _ rfl
  simp -implicitDefEqProofs -dsimp
end K03
end

section
set_option maxRecDepth 100000
set_option maxHeartbeats 4000000
namespace K03
open PySem L2 DL
abbrev rwD (r : List Tr) : D := .tup (trsD r)
theorem rw_sh {R : List (List Tr)} : (R.map rwD).all isSh = true := by
  induction R with
  | nil => rfl
  | cons w ws ih => exact ih
abbrev noX (p : List Int) : Exn := ⟨"NoPlace", [("place", tI p)]⟩
abbrev raG : TgF := gN 4
abbrev raB : M Fl := sSeq (sIf (tNotD (tOf (eChain dLe dLt (eC (.int 0)) (eVar 4) (eBlt dLen (aCons (eVar 3) aNil))))) (sRaiseN "NoPlace" ["place"] (aCons (eVal 1) aNil)) sNext)
  (sSeq (sApp (eVar 2) (eVal 3))
  (sSeq (sUnp (gT 2 (gsCons (gN 5) (gsCons (gN 6) gsNil))) (eBin dIdx (eVar 3) (eVar 4)))
  (sAsg 3 (eIf (tOf (eBin dEq (eVar 5) (eC (sd [112, 114, 111, 99])))) (eVal 6) (eTup aNil)))))
theorem ra_turn {E : Exn → DL.Env → Prop} {x : Option D} {p0 : List Int} {acc : List (List Tr)} {r : List Tr} {t : Tr} {i : Nat} {o4 o5 o6 : Option D} (ht : r[i]? = some t) (ha : acc.length < 1000000) :
    Op (raG (.int (i : Int)) [x, some (tI p0), some (.own (acc.map rwD)), some (rwD r), o4, o5, o6]) fun e => Wq E (raB e) fun f e1 => f = .nx ∧ ∃ o4 o5 o6 : Option D, e1 = [x, some (tI p0), some (.own ((acc ++ [r]).map rwD)), some (rwD (subT t)), o4, o5, o6] := by
  have hi := (List.getElem?_eq_some_iff.mp ht).1
  have ll := trsD_len (ts := r)
  have ix : atI (trsD r) (i : Int) = some t.d := by rw [DL.atI_nat, trsD_get, ht]; rfl
  have sh := rw_sh (R := acc)
  have la : (acc.map rwD).length < 1000000 := by rw [List.length_map]; exact ha
  have fin : (acc ++ [r]).map rwD = acc.map rwD ++ [.tup (trsD r)] := by rw [List.map_append]; rfl
  rw [fin]
  revert sh la
  generalize acc.map rwD = A
  intro sh la
  rw [List.all_eq_true] at sh
  have c1 : (0 : Int) ≤ (i : Int) := by omega
  have c2 : (i : Int) < ((trsD r).length : Int) := by rw [ll]; omega
  cases t with
  | leaf w =>
    obtain ⟨k, y, e, hk, hy⟩ := item_two w
    have hk : ¬k = [112, 114, 111, 99] := hk
    rw [Tr.d, e] at ix
    have e2 : trsD (subT (.leaf w)) = [] := rfl
    rw [show rwD (subT (.leaf w)) = .tup [] from rfl]
    simp -implicitDefEqProofs -dsimp [c1, c2, ix, hk, la]
    exact sh
  | proc us =>
    rw [Tr.d] at ix
    unfold procD at ix
    rw [show rwD (subT (.proc us)) = .tup (trsD us) from rfl]
    simp -implicitDefEqProofs -dsimp [c1, c2, ix, la]
    exact sh
theorem ra_stop {E : Exn → DL.Env → Prop} {QF : Fl → DL.Env → Prop} {x : Option D} {p0 : List Int} {A : List D} {r : List Tr} {i : Int} {o4 o5 o6 : Option D} (h : ¬(0 ≤ i ∧ i < (r.length : Int))) (hE : ∀ e, E (noX p0) e) :
    Op (raG (.int i) [x, some (tI p0), some (.own A), some (rwD r), o4, o5, o6]) fun e => Wq E (raB e) QF := by
  have ll := trsD_len (ts := r)
  by_cases c1 : 0 ≤ i
  · have c2 : ¬ i < ((trsD r).length : Int) := by rw [ll]; exact fun z => h ⟨c1, z⟩
    simp -implicitDefEqProofs -dsimp [c1, c2]
    exact hE _
  · simp -implicitDefEqProofs -dsimp [c1]
    exact hE _
theorem ra_loop {E : Exn → DL.Env → Prop} {Q : Fl → DL.Env → Prop} {x : Option D} {p0 : List Int} {ts : List Tr} {q : List Int} {R : List (List Tr)} {a b : Nat} {t : Tr} (h : At ts q R a b t) : ∀ (acc : List (List Tr)) (o4 o5 o6 : Option D), acc.length + R.length < 1000000 →
    (∀ (z : D) (o4 o5 o6 : Option D), isSh z = true → Q .nx [x, some (tI p0), some (.own ((acc ++ R).map rwD)), some z, o4, o5, o6]) → Wq E (forL raG raB (q.map D.int) [x, some (tI p0), some (.own (acc.map rwD)), some (rwD ts), o4, o5, o6]) Q := by
  induction h with
  | here xs t ys =>
    intro acc o4 o5 o6 hl hQ
    rw [List.length_singleton] at hl
    show Wq E (forL raG raB (D.int _ :: []) _) Q
    rw [wp_forCons]
    obtain ⟨e1, q1, he⟩ := Op.get (ra_turn (E := E) (x := x) (p0 := p0) (acc := acc) (r := xs ++ t :: ys) (t := t) (i := xs.length) (o4 := o4) (o5 := o5) (o6 := o6) (by simp) (by omega))
    rw [q1, op_some]
    refine Wq.imp he ?_ (fun _ _ z => z)
    rintro f e2 ⟨rfl, o4', o5', o6', rfl⟩
    exact hQ _ _ _ _ rfl
  | @into xs us ys p R a b t h ih =>
    intro acc o4 o5 o6 hl hQ
    rw [List.length_cons] at hl
    show Wq E (forL raG raB (D.int _ :: p.map D.int) _) Q
    rw [wp_forCons]
    obtain ⟨e1, q1, he⟩ := Op.get (ra_turn (E := E) (x := x) (p0 := p0) (acc := acc) (r := xs ++ .proc us :: ys) (t := .proc us) (i := xs.length) (o4 := o4) (o5 := o5) (o6 := o6) (by simp) (by omega))
    rw [q1, op_some]
    refine Wq.imp he ?_ (fun _ _ z => z)
    rintro f e2 ⟨rfl, o4', o5', o6', rfl⟩
    refine ih (acc ++ [xs ++ .proc us :: ys]) o4' o5' o6' (by rw [List.length_append, List.length_singleton]; omega) fun z o4 o5 o6 hz => ?_
    have := hQ z o4 o5 o6 hz
    rw [List.append_assoc]
    exact this
theorem rows_ok {E : Exn → DL.Env → Prop} {ts : List Tr} {p : List Int} {R : List (List Tr)} {a b : Nat} {t : Tr} (h : At ts p R a b t) (hl : p.length ≤ 1000) : Wq E (F_rows_around [rwD ts, tI p]) fun d _ => d = .lst (R.map rwD) := by
  obtain ⟨h1, h2, h3⟩ := h.ne
  unfold F_rows_around
  first | rw [wp_runP] | rw [wp_runF]
  simp -implicitDefEqProofs -dsimp
  refine ra_loop (p0 := p) h [] none none none (by simp; omega) fun z o4 o5 o6 hz => ?_
  have rl : ¬((R.map rwD).length : Int) = 0 := by
    rw [List.length_map]
    have : R.length ≠ 0 := fun z => h2 (List.eq_nil_of_length_eq_zero z)
    omega
  have sh := rw_sh (R := R)
  rw [List.nil_append]
  revert rl sh
  generalize R.map rwD = A
  intro rl sh
  rw [List.all_eq_true] at sh
  have rl2 : ¬A = [] := fun z => rl (by rw [z]; rfl)
  simp -implicitDefEqProofs -dsimp [rl, rl2]
  exact sh
theorem ra_bad {E : Exn → DL.Env → Prop} {Q : Fl → DL.Env → Prop} {x : Option D} {p0 : List Int} (hE : ∀ e, E (noX p0) e) {ts : List Tr} {q : List Int} (h : Nw ts q) : ∀ (acc : List (List Tr)) (o4 o5 o6 : Option D), acc.length + q.length < 1000000 → Wq E (forL raG raB (q.map D.int) [x, some (tI p0), some (.own (acc.map rwD)), some (rwD ts), o4, o5, o6]) Q := by
  induction h with
  | out ts i p h =>
    intro acc o4 o5 o6 _
    show Wq E (forL raG raB (D.int i :: p.map D.int) _) Q
    rw [wp_forCons]
    exact ra_stop h hE
  | @into xs t ys p h ih =>
    intro acc o4 o5 o6 hl
    rw [List.length_cons] at hl
    show Wq E (forL raG raB (D.int _ :: p.map D.int) _) Q
    rw [wp_forCons]
    obtain ⟨e1, q1, he⟩ := Op.get (ra_turn (E := E) (x := x) (p0 := p0) (acc := acc) (r := xs ++ t :: ys) (t := t) (i := xs.length) (o4 := o4) (o5 := o5) (o6 := o6) (by simp) (by omega))
    rw [q1, op_some]
    refine Wq.imp he ?_ (fun _ _ z => z)
    rintro f e2 ⟨rfl, o4', o5', o6', rfl⟩
    exact ih (acc ++ [xs ++ t :: ys]) o4' o5' o6' (by rw [List.length_append, List.length_singleton]; omega)
theorem rows_bad {E : Exn → DL.Env → Prop} {Q : D → DL.Env → Prop} {ts : List Tr} {p : List Int} (h : p = [] ∨ Nw ts p) (hl : p.length ≤ 1000) (hE : ∀ e, E (noX p) e) : Wq E (F_rows_around [rwD ts, tI p]) Q := by
  unfold F_rows_around
  first | rw [wp_runP] | rw [wp_runF]
  rcases h with rfl | h
  · simp -implicitDefEqProofs -dsimp
    exact hE _
  · simp -implicitDefEqProofs -dsimp
    exact ra_bad (p0 := p) (fun e => ⟨by cases e with
      | nil => rfl
      | cons a e => cases e <;> rfl, hE e⟩) h [] none none none (by simp; omega)
/-! ### the item at a place -/
theorem at_m1 {α : Type} {xs : List α} {x : α} (h : xs[xs.length - 1]? = some x) : atI xs (-1) = some x := by
  have hl := (List.getElem?_eq_some_iff.mp h).1
  have e : xs = xs.take (xs.length - 1) ++ [x] := by
    have h2 := List.getElem?_eq_some_iff.mp h
    obtain ⟨h3, rfl⟩ := h2
    have := List.take_append_drop (xs.length - 1) xs
    rw [List.drop_eq_getElem_cons h3, List.drop_of_length_le (by omega)] at this
    exact this.symm
  rw [e]
  exact at_last
theorem item_at_ok {ts : List Tr} {p : List Int} {R : List (List Tr)} {a b : Nat} {t : Tr} (h : At ts p R a b t) (hl : p.length ≤ 1000) : Wp (F_item_at [rwD ts, tI p]) fun d _ => d = t.d := by
  obtain ⟨r, i, h1, h2, h3, h4⟩ := h.last
  have a1 : atI (R.map rwD) (-1) = some (.tup (trsD r)) := at_m1 (by rw [List.length_map, List.getElem?_map, h1]; rfl)
  have a2 : atI (p.map D.int) (-1) = some (.int (i : Int)) := at_m1 (by rw [List.length_map, List.getElem?_map, h2]; rfl)
  have a3 : atI (trsD r) (i : Int) = some t.d := by rw [DL.atI_nat, trsD_get, h3]; rfl
  unfold F_item_at
  first | rw [wp_runP] | rw [wp_runF]
  simp -implicitDefEqProofs -dsimp
  refine Wq.imp (rows_ok (E := noE) h hl) ?_ (fun _ _ z => z.elim)
  rintro _ _ rfl
  revert a1
  generalize R.map rwD = A
  intro a1
  simp -implicitDefEqProofs -dsimp [a1, a2, a3, d_sh]
theorem item_at_bad {E : Exn → DL.Env → Prop} {Q : D → DL.Env → Prop} {ts : List Tr} {p : List Int} (h : p = [] ∨ Nw ts p) (hl : p.length ≤ 1000) (hE : ∀ e, E (noX p) e) : Wq E (F_item_at [rwD ts, tI p]) Q := by
  unfold F_item_at
  first | rw [wp_runP] | rw [wp_runF]
  simp -implicitDefEqProofs -dsimp
  exact rows_bad h hl fun e => by
    simp -implicitDefEqProofs -dsimp
    exact hE _
end K03
end

section
set_option maxRecDepth 100000
set_option maxHeartbeats 4000000
namespace K03
open PySem L2 DL
abbrev tooX : Exn := ⟨"TooDeep", [("limit", .int 20)]⟩
theorem At.nat {ts : List Tr} {p : List Int} {R : List (List Tr)} {a b : Nat} {t : Tr} (h : At ts p R a b t) : ∀ j ∈ p, ∃ n : Nat, j = (n : Int) := by
  induction h with
  | here xs t ys =>
    intro j m
    exact ⟨_, List.mem_singleton.mp m⟩
  | into xs us ys h ih =>
    intro j m
    rcases List.mem_cons.mp m with m | m
    · exact ⟨_, m⟩
    · exact ih j m
def inn (R : List (List Tr)) (p : List Int) (us : List Tr) (l : Nat) : List Tr := if l = R.length then us else [.proc (exR (R.drop l) (p.drop l) us)]
theorem inn_step {R : List (List Tr)} {p : List Int} {us r : List Tr} {l : Nat} {j : Int} (hl : p.length = R.length) (hr : R[l]? = some r) (hj : p[l]? = some j) : exR (R.drop l) (p.drop l) us = splice r j (inn R p us (l + 1)) := by
  obtain ⟨h1, e1⟩ := List.getElem?_eq_some_iff.mp hr
  obtain ⟨h2, e2⟩ := List.getElem?_eq_some_iff.mp hj
  rw [List.drop_eq_getElem_cons h1, List.drop_eq_getElem_cons h2, e1, e2]
  unfold inn
  by_cases z : l + 1 = R.length
  · rw [if_pos z, List.drop_of_length_le (by omega), List.drop_of_length_le (by omega), exR]
  · rw [if_neg z]
    obtain ⟨q, R', eR⟩ : ∃ q R', R.drop (l + 1) = q :: R' := ⟨_, _, List.drop_eq_getElem_cons (by omega)⟩
    obtain ⟨k, p', ep⟩ : ∃ k p', p.drop (l + 1) = k :: p' := ⟨_, _, List.drop_eq_getElem_cons (by omega)⟩
    rw [eR, ep, exR_cons]
theorem rgN_get {i j : Int} {k : Nat} {d : D} (h : (rgN i j)[k]? = some d) : (k : Int) < i - j ∧ d = .int (i - (k : Int)) := by
  unfold rgN at h
  rw [List.getElem?_map] at h
  obtain ⟨m, hm, rfl⟩ := Option.map_eq_some_iff.mp h
  obtain ⟨h1, h2⟩ := List.getElem?_eq_some_iff.mp hm
  rw [List.length_range] at h1
  rw [List.getElem_range] at h2
  subst h2
  exact ⟨by omega, rfl⟩
def ExI (x y z : Option D) (R : List (List Tr)) (p : List Int) (us : List Tr) (i : Nat) (e : DL.Env) : Prop := ∃ o5 : Option D, e = [x, some (tI p), y, z, some (rwD (inn R p us (R.length - i))), o5, none]
theorem exchanged_ok {E : Exn → DL.Env → Prop} {Q : D → DL.Env → Prop} {ts us : List Tr} {p : List Int} {R : List (List Tr)} {a b : Nat} {t : Tr} (h : At ts p R a b t) (hl : p.length ≤ 1000) (hs : (toks ts).length ≤ 100000) (hu : us.length ≤ 100000) (hd : deps (exR R p us) < 40)
    (ok : deps (exR R p us) ≤ 20 → ∀ e, Q (rwD (exR R p us)) e) (bad : ¬deps (exR R p us) ≤ 20 → ∀ e, E tooX e) : Wq E (F_exchanged [rwD ts, tI p, rwD us]) Q := by
  obtain ⟨n1, n2, n3⟩ := h.ne
  have hrl := h.rows
  have hnat := At.nat h
  have n0 : 1 ≤ R.length := by
    have : R.length ≠ 0 := fun z => n2 (List.eq_nil_of_length_eq_zero z)
    omega
  have il : ∀ l, (inn R p us l).length ≤ 100000 := fun l => by
    unfold inn
    split
    · exact hu
    · simp
  have cell : ∀ l, l < R.length → ∃ r j, R[l]? = some r ∧ p[l]? = some ((j : Nat) : Int) ∧ r.length ≤ 100000 ∧ atI (R.map rwD) (l : Int) = some (.tup (trsD r)) ∧ atI (p.map D.int) (l : Int) = some (.int (j : Int)) ∧ exR (R.drop l) (p.drop l) us = splice r (j : Int) (inn R p us (l + 1)) := fun l hlt => by
    obtain ⟨r, hr⟩ : ∃ r, R[l]? = some r := ⟨R[l], by simp [hlt]⟩
    obtain ⟨q, hq⟩ : ∃ q, p[l]? = some q := ⟨p[l]'(by omega), by simp [n3, hlt]⟩
    obtain ⟨j, rfl⟩ := hnat q (List.mem_of_getElem? hq)
    have := hrl r (List.mem_of_getElem? hr)
    refine ⟨r, j, hr, hq, by omega, by rw [DL.atI_nat, List.getElem?_map, hr]; rfl, by rw [DL.atI_nat, List.getElem?_map, hq]; rfl, inn_step n3 hr hq⟩
  have i0 : inn R p us R.length = us := if_pos rfl
  have sR := rw_sh (R := R)
  unfold F_exchanged
  first | rw [wp_runP] | rw [wp_runF]
  simp -implicitDefEqProofs -dsimp [-wp_seq]
  (first | rw [wp_seq] | (show Wq noE _ _; rw [wp_seq]))
  simp -implicitDefEqProofs -dsimp [-wp_seq]
  refine Wq.imp (rows_ok (E := noE) h hl) ?_ (fun _ _ z => z.elim)
  rintro _ _ rfl
  simp -implicitDefEqProofs -dsimp [-wp_seq]
  (first | rw [wp_seq] | (show Wq noE _ _; rw [wp_seq]))
  simp -implicitDefEqProofs -dsimp [-wp_seq]
  (first | rw [wp_seq] | (show Wq noE _ _; rw [wp_seq]))
  simp -implicitDefEqProofs -dsimp [-wp_seq]
  refine ⟨by omega, ?_⟩
  refine wp_forL (ExI (some (rwD ts)) (some (rwD us)) (some (.lst (R.map rwD))) R p us) _ 0 _ ⟨none, by rw [Nat.sub_zero, i0]⟩ ?_ ?_
  · rintro i d e hd ⟨o5, rfl⟩
    rw [Nat.zero_add] at *
    obtain ⟨hi, rfl⟩ := rgN_get hd
    have lv : (p.length : Int) - 1 - (i : Int) = ((R.length - 1 - i : Nat) : Int) := by omega
    have hlt : R.length - 1 - i < R.length := by omega
    have e1 : R.length - i = R.length - 1 - i + 1 := by omega
    have e2 : R.length - (i + 1) = R.length - 1 - i := by omega
    have ne : ¬R.length - 1 - i = R.length := by omega
    obtain ⟨r, j, hr, hj, rl, a1, a2, st⟩ := cell _ hlt
    have goal : ∀ o5, ExI (some (rwD ts)) (some (rwD us)) (some (.lst (R.map rwD))) R p us (i + 1) [some (rwD ts), some (tI p), some (rwD us), some (.lst (R.map rwD)), some (.tup [.tup [sd [112, 114, 111, 99], .tup (trsD (splice r (j : Int) (inn R p us (R.length - 1 - i + 1))))]]), o5, none] := fun o5 => by
      refine ⟨o5, ?_⟩
      rw [e2, ← st]
      have : inn R p us (R.length - 1 - i) = [.proc (exR (R.drop (R.length - 1 - i)) (p.drop (R.length - 1 - i)) us)] := if_neg ne
      rw [this]
      rfl
    have go := spliced_ok (r := r) (us := inn R p us (R.length - 1 - i + 1)) (i := j) rl (il _)
    rw [e1, lv]
    revert a1 a2 go goal
    generalize inn R p us (R.length - 1 - i + 1) = I
    generalize R.length - 1 - i = l
    generalize R.map rwD = RD
    intro a1 a2 goal go
    simp -implicitDefEqProofs -dsimp [a1, a2]
    refine Wq.imp go ?_ (fun _ _ z => z.elim)
    rintro _ _ rfl
    simp -implicitDefEqProofs -dsimp
    exact goal _
  · rintro e ⟨o5, rfl⟩
    have hm : (rgN ((p.length : Int) - 1) 0).length = R.length - 1 := by simp [rgN]; omega
    rw [hm, Nat.zero_add]
    obtain ⟨r, j, hr, hj, rl, a1, a2, st⟩ := cell 0 (by omega)
    rw [List.drop_zero, List.drop_zero] at st
    have go := spliced_ok (r := r) (us := inn R p us (0 + 1)) (i := j) rl (il _)
    have e1 : R.length - (R.length - 1) = 0 + 1 := by omega
    rw [← st] at go
    rw [e1]
    have a1 : atI (R.map rwD) 0 = some (.tup (trsD r)) := a1
    have a2 : atI (p.map D.int) 0 = some (.int (j : Int)) := a2
    have gd := proc_depth_ok hd
    revert a1 go sR
    generalize inn R p us (0 + 1) = I
    generalize R.map rwD = RD
    intro sR go a1
    simp -implicitDefEqProofs -dsimp [-wp_seq]
    (first | rw [wp_seq] | (show Wq noE _ _; rw [wp_seq]))
    simp -implicitDefEqProofs -dsimp [-wp_seq, -at0, a1, a2]
    refine Wq.imp go ?_ (fun _ _ z => z.elim)
    rintro _ _ rfl
    simp -implicitDefEqProofs -dsimp [-wp_seq]
    (first | rw [wp_seq] | (show Wq noE _ _; rw [wp_seq]))
    simp -implicitDefEqProofs -dsimp [-wp_seq]
    refine Wq.imp gd ?_ (fun _ _ z => z.elim)
    rintro _ _ rfl
    have de : c_DEEPEST = .int 20 := rfl
    simp -implicitDefEqProofs -dsimp [de]
    refine ⟨fun z => ?_, fun z => ?_⟩
    · exact bad (by omega) _
    · exact ok (by omega) _
theorem exchanged_bad {E : Exn → DL.Env → Prop} {Q : D → DL.Env → Prop} {ts us : List Tr} {p : List Int} (h : p = [] ∨ Nw ts p) (hl : p.length ≤ 1000) (hE : ∀ e, E (noX p) e) : Wq E (F_exchanged [rwD ts, tI p, rwD us]) Q := by
  unfold F_exchanged
  first | rw [wp_runP] | rw [wp_runF]
  simp -implicitDefEqProofs -dsimp
  exact rows_bad h hl fun e => by
    simp -implicitDefEqProofs -dsimp
    exact hE _
end K03
end

section
set_option maxRecDepth 100000
set_option maxHeartbeats 4000000
namespace K03
open PySem L2 DL
theorem int_ok {i : Int} : Wp (F__law_int [.int i]) fun d _ => d = .bl true := by
  unfold F__law_int
  first | rw [wp_runP] | rw [wp_runF]
  simp -implicitDefEqProofs -dsimp
def DpI (ws : List (List Nat)) (i : Nat) (e : DL.Env) : Prop := ∃ o3 : Option D, e = [some (.lst (ws.map ltD)), some (.int ((ws.take i).foldl dpS (0, 0)).1), some (.int ((ws.take i).foldl dpS (0, 0)).2), o3]
theorem depth_of {ws : List (List Nat)} (hw : ∀ w ∈ ws, TokW w) : Wp (F__law_depth [.lst (ws.map ltD)]) fun d _ => d = .int (ws.foldl dpS (0, 0)).2 := by
  unfold F__law_depth
  first | rw [wp_runP] | rw [wp_runF]
  simp -implicitDefEqProofs -dsimp
  refine wp_forL (DpI ws) _ 0 _ ⟨none, rfl⟩ ?_ ?_
  · rintro i d e hd ⟨o3, rfl⟩
    rw [Nat.zero_add] at *
    rw [List.getElem?_map] at hd
    obtain ⟨w, hwi, rfl⟩ := Option.map_eq_some_iff.mp hd
    have tw := hw w (List.mem_of_getElem? hwi)
    have tk : (ws.take (i + 1)).foldl dpS (0, 0) = dpS ((ws.take i).foldl dpS (0, 0)) w := by
      rw [List.take_succ, hwi]
      show ((ws.take i) ++ [w]).foldl dpS (0, 0) = _
      rw [List.foldl_append]
      rfl
    have goal : ∀ o3, DpI ws (i + 1) [some (.lst (ws.map ltD)), some (.int (dpS ((ws.take i).foldl dpS (0, 0)) w).1), some (.int (dpS ((ws.take i).foldl dpS (0, 0)) w).2), o3] := fun o3 => ⟨o3, by rw [tk]⟩
    revert goal
    generalize (ws.take i).foldl dpS (0, 0) = s
    obtain ⟨a, b⟩ := s
    unfold dpS
    dsimp only
    intro goal
    rcases tw with rfl | rfl | lw
    · have k : kindL [123] = kOpen := rfl
      rw [if_neg (by decide), if_pos rfl] at goal
      simp -implicitDefEqProofs -dsimp [k, max2_eq]
      exact goal _
    · have k : kindL [125] = kClose := rfl
      rw [if_pos rfl] at goal
      simp -implicitDefEqProofs -dsimp [k, max2_eq]
      exact goal _
    · have no := lw.no
      rw [if_neg no.2, if_neg no.1] at goal
      rcases lw.kind with k | k | k
      · simp -implicitDefEqProofs -dsimp [k, max2_eq]
        exact goal _
      · simp -implicitDefEqProofs -dsimp [k, max2_eq]
        exact goal _
      · simp -implicitDefEqProofs -dsimp [k, max2_eq]
        exact goal _
  · rintro e ⟨o3, rfl⟩
    rw [List.length_map, Nat.zero_add, List.take_length]
    simp -implicitDefEqProofs -dsimp
theorem depth_ok {ts : List Tr} (h : oks ts) : Wp (F__law_depth [.lst ((toks ts).map ltD)]) fun d _ => d = .int (deps ts : Int) := by
  refine (depth_of (toks_w h)).imp ?_
  rintro _ _ rfl
  rw [dp_toks h (by omega)]
  have : max (0 : Int) (0 + (deps ts : Int)) = (deps ts : Int) := by omega
  dsimp only
  rw [this]
abbrev spD (x : PreT) : D := .lst [.int (x.2.2.1 : Int), .int (x.2.2.2 : Int)]
/-- the law's own reading -/
theorem reading {ts : List Tr} (h : oks ts) (hd : deps ts ≤ 20) (hl : (toks ts).length ≤ 200000) : Wp (F__law_read [.lst ((toks ts).map ltD)]) fun d _ => d = .lst [rwD ts, .lst ((pths [] 0 ts).map tI), .lst ((pre [] 0 0 ts).map pI2), .lst ((pre [] 0 0 ts).map spD)] := by
  have run := toks_run (ts := ts) (r := []) (s := []) h (by simp; omega)
  rw [List.nil_append] at run
  refine (read_ok hl (toks_w h) run).imp ?_
  rintro _ _ rfl
  rw [read_end h]
  dsimp only
  rw [← pre_pth (k := 0), List.map_map, List.map_map]
  rfl
/-! ### what is told of an exception -/
theorem has_deep : hasX xtab "TooDeep" = true := by rfl
theorem deep_is : isSub xtab "TooDeep" (CN.own "TooDeep") = true := by rfl
theorem deep_no : isSub xtab "TooDeep" (CN.own "NoPlace") = false := by rfl
theorem deep_stray : resE (F__law_stray tooX) = some (.bl false) := by rfl
theorem has_no : hasX xtab "NoPlace" = true := by rfl
theorem no_is : isSub xtab "NoPlace" (CN.own "NoPlace") = true := by rfl
theorem no_no : isSub xtab "NoPlace" (CN.own "TooDeep") = false := by rfl
theorem no_stray {p : List Int} : resE (F__law_stray (noX p)) = some (.bl false) := by rfl
theorem exchange_ok {ts us : List Tr} {p : List Int} {R : List (List Tr)} {a b : Nat} {t : Tr} (h : At ts p R a b t) (hl : p.length ≤ 1000) (o1 : oks ts) (o2 : oks us) (l1 : (toks ts).length ≤ 5000) (l2 : (toks us).length ≤ 5000) (d1 : deps us ≤ 20) (d2 : deps (exR R p us) < 40) :
    Wp (F__law_exchange [rwD ts, tI p, .lst ((toks ts).map ltD), .lst [.int (a : Int), .int (b : Int)], .lst ((toks us).map ltD)]) fun d _ => d = .bl true := by
  obtain ⟨due, h1, h2⟩ := h.due (vs := us)
  have o3 : oks (exR R p us) := h.oks o1 o2
  have lu := len_toks (ts := us)
  have dl : (toks (exR R p us)).length ≤ 10000 := by
    rw [← due, List.length_append, List.length_append, List.length_take, List.length_drop]
    omega
  have eqm := eq_trs (ts := exR R p us)
  have la : ((toks ts).take a).length ≤ 5000 := by rw [List.length_take]; omega
  have lb : ((toks ts).drop b).length ≤ 5000 := by rw [List.length_drop]; omega
  have dm : ((toks ts).map ltD).take a ++ ((toks us).map ltD ++ ((toks ts).map ltD).drop b) = (toks (exR R p us)).map ltD := by rw [← due]; simp
  have gd := depth_ok o3
  have gr := reading o2 d1 (by omega)
  unfold F__law_exchange b__law_exchange
  first | rw [wp_runP] | rw [wp_runF]
  simp -implicitDefEqProofs -dsimp [-wp_seq]
  (first | rw [wp_seq] | (show Wq noE _ _; rw [wp_seq]))
  simp -implicitDefEqProofs -dsimp [-wp_seq, cut_to, cut_from]
  refine ⟨by omega, by omega, ?_⟩
  rw [dm]
  (first | rw [wp_seq] | (show Wq noE _ _; rw [wp_seq]))
  simp -implicitDefEqProofs -dsimp [-wp_seq]
  refine gd.imp ?_
  rintro _ _ rfl
  simp -implicitDefEqProofs -dsimp [-wp_seq]
  (first | rw [wp_seq] | (show Wq noE _ _; rw [wp_seq]))
  simp -implicitDefEqProofs -dsimp [-wp_seq]
  refine gr.imp ?_
  rintro _ _ rfl
  simp -implicitDefEqProofs -dsimp [-wp_seq]
  (first | rw [wp_seq] | (show Wq noE _ _; rw [wp_seq]))
  simp -implicitDefEqProofs -dsimp [-wp_seq]
  refine exchanged_ok h hl (by omega) (by omega) d2 (fun z e => ?_) (fun z e => ?_)
  · have z2 : (deps (exR R p us) : Int) ≤ 20 := by omega
    have eqm := eqm o3 (by omega)
    have go := reading o3 z (by omega)
    simp -implicitDefEqProofs -dsimp [z2]
    refine go.imp ?_
    rintro _ _ rfl
    simp -implicitDefEqProofs -dsimp [eqm.1]
  · have z2 : ¬(deps (exR R p us) : Int) ≤ 20 := by omega
    have int1 := int_ok (i := 20)
    simp -implicitDefEqProofs -dsimp [has_deep, deep_is, deep_no, deep_stray, z2]
    refine int1.imp ?_
    rintro _ _ rfl
    simp -implicitDefEqProofs -dsimp [z2]
end K03
end

section
set_option maxRecDepth 100000
set_option maxHeartbeats 4000000
namespace K03
open PySem L2 DL
theorem At.len {ts : List Tr} {p : List Int} {R : List (List Tr)} {a b : Nat} {t : Tr} (h : At ts p R a b t) : p.length ≤ deps ts + 1 := by
  induction h with
  | here xs t ys => simp
  | into xs us ys h ih =>
    rw [List.length_cons, deps_app, deps, Tr.dep]
    omega
theorem At.okT {ts : List Tr} {p : List Int} {R : List (List Tr)} {a b : Nat} {t : Tr} (h : At ts p R a b t) : oks ts → t.ok ∧ t.dep ≤ deps ts := by
  induction h with
  | here xs t ys =>
    intro o
    have := (oks_app.mp o).2
    rw [oks] at this
    rw [deps_app, deps]
    exact ⟨this.1, by omega⟩
  | into xs us ys h ih =>
    intro o
    have := (oks_app.mp o).2
    rw [oks, Tr.ok] at this
    have := ih this.1
    rw [deps_app, deps, Tr.dep]
    exact ⟨this.1, by omega⟩
theorem nowhere_item {ts : List Tr} {p : List Int} (h : p = [] ∨ Nw ts p) (hl : p.length ≤ 1000) : Wp (F__law_nowhere [sd [105, 116, 101, 109, 95, 97, 116], rwD ts, tI p, .tup []]) fun d _ => d = .bl true := by
  unfold F__law_nowhere b__law_nowhere
  first | rw [wp_runP] | rw [wp_runF]
  simp -implicitDefEqProofs -dsimp [-wp_seq]
  (first | rw [wp_seq] | (show Wq noE _ _; rw [wp_seq]))
  simp -implicitDefEqProofs -dsimp [-wp_seq]
  refine item_at_bad h hl fun e => ?_
  simp -implicitDefEqProofs -dsimp [has_no, no_is, no_no, no_stray]
theorem nowhere_exch {ts us : List Tr} {p : List Int} (h : p = [] ∨ Nw ts p) (hl : p.length ≤ 1000) : Wp (F__law_nowhere [sd [101, 120, 99, 104, 97, 110, 103, 101, 100], rwD ts, tI p, rwD us]) fun d _ => d = .bl true := by
  unfold F__law_nowhere b__law_nowhere
  first | rw [wp_runP] | rw [wp_runF]
  simp -implicitDefEqProofs -dsimp [-wp_seq]
  (first | rw [wp_seq] | (show Wq noE _ _; rw [wp_seq]))
  simp -implicitDefEqProofs -dsimp [-wp_seq]
  refine exchanged_bad h hl fun e => ?_
  simp -implicitDefEqProofs -dsimp [has_no, no_is, no_no, no_stray]
def NoS (ts : List Tr) (d : D) : Prop := ∃ L : List (List Int), d = .lst (L.map tI) ∧ ∀ q ∈ L, (q = [] ∨ Nw ts q) ∧ q.length ≤ 1000
theorem no_spots_ok {c : Nat} {tp : List D} {ts : List Tr} (h : Tp c tp) (hc : c < 60000) (o : oks ts) (hd : deps ts ≤ 40) (hl : (toks ts).length ≤ 5000) :
    Wp (F__law_no_spots [.bor tp, rwD ts, .lst ((pths [] 0 ts).map tI), .lst ((pre [] 0 0 ts).map pI2)]) (TpQ (c + 1) (NoS ts)) := by
  have ll := trsD_len (ts := ts)
  have lt := len_toks (ts := ts)
  have n1 : Nw ts [((trsD ts).length : Int)] := .out _ _ _ (by rw [ll]; omega)
  have n2 : Nw ts [-1] := .out _ _ _ (by omega)
  have pl := pths_len (ts := ts) (b := []) (z := 0)
  have pe : (pre [] 0 0 ts).length = (pths [] 0 ts).length := by rw [← pre_pth (k := 0), List.length_map]
  unfold F__law_no_spots b__law_no_spots
  first | rw [wp_runP] | rw [wp_runF]
  simp -implicitDefEqProofs -dsimp [-wp_seq]
  (first | rw [wp_seq] | (show Wq noE _ _; rw [wp_seq]))
  simp -implicitDefEqProofs -dsimp [-wp_seq]
  (first | rw [wp_seq] | (show Wq noE _ _; rw [wp_seq]))
  by_cases z : (pths [] 0 ts).length = 0
  · have z2 : pths [] 0 ts = [] := List.eq_nil_of_length_eq_zero z
    simp -implicitDefEqProofs -dsimp [-wp_seq, z2]
    refine ⟨⟨[[], [((trsD ts).length : Int)], [-1]], rfl, fun q m => ?_⟩, tp, rfl, h.mono (by omega)⟩
    simp only [List.mem_cons, List.not_mem_nil, or_false] at m
    rcases m with rfl | rfl | rfl
    · exact ⟨.inl rfl, by simp⟩
    · exact ⟨.inr n1, by simp⟩
    · exact ⟨.inr n2, by simp⟩
  · have z2 : ¬pths [] 0 ts = [] := fun e => z (by rw [e]; rfl)
    simp -implicitDefEqProofs -dsimp [-wp_seq, z2]
    (first | rw [wp_seq] | (show Wq noE _ _; rw [wp_seq]))
    simp -implicitDefEqProofs -dsimp [-wp_seq]
    refine (next_ok h (by omega) (by decide)).imp ?_
    rintro _ outs ⟨⟨q, rfl, q_0, q_1⟩, tp_T1, ho, T1⟩
    simp -implicitDefEqProofs -dsimp [putO_one ho]
    obtain ⟨f0, f1⟩ := fmod_range (i := q) (m := ((pths [] 0 ts).length : Int)) (by omega)
    obtain ⟨k, hk⟩ := Int.eq_ofNat_of_zero_le f0
    have kl : k < (pre [] 0 0 ts).length := by omega
    obtain ⟨x, hx⟩ : ∃ x, (pre [] 0 0 ts)[k]? = some x := ⟨_, List.getElem?_eq_getElem kl⟩
    obtain ⟨R, at_⟩ := pre_top (List.mem_of_getElem? hx)
    have i1 : atI ((pths [] 0 ts).map tI) (k : Int) = some (tI x.1) := by rw [DL.atI_nat, ← pre_pth (k := 0), List.map_map, List.getElem?_map, hx]; rfl
    have i2 : atI ((pre [] 0 0 ts).map pI2) (k : Int) = some x.2.1.d := by rw [DL.atI_nat, List.getElem?_map, hx]; rfl
    have xl := At.len at_
    have n3 : Nw ts (x.1 ++ [-1]) := at_.deeper (by omega)
    have n4 : Nw ts (x.1.dropLast ++ [999999999999999999999999]) := at_.beside fun r m => by
      have := at_.rows r m
      omega
    have n5 : Nw ts ((-1) :: x.1.drop 1) := .out _ _ _ (by omega)
    have n6 : Nw ts (x.1 ++ [((subT x.2.1).length : Int)]) := at_.deeper (by omega)
    have dl : (x.1.map D.int).dropLast = x.1.dropLast.map D.int := by rw [List.map_dropLast]
    revert i1 i2 z2 z
    generalize (pths [] 0 ts).map tI = S
    generalize (pre [] 0 0 ts).map pI2 = V
    intro z z2 i1 i2
    have f24 : (10 : Int) ^ 24 - 1 = 999999999999999999999999 := by decide
    obtain ⟨p, t, a, b⟩ := x
    dsimp only at i1 i2 xl n3 n4 n5 n6 dl
    have pm : p.length ≤ 100 := by omega
    have pd : p.dropLast.length ≤ 100 := by rw [List.length_dropLast]; omega
    have fin : ∀ (j : Int) (e : DL.Env), Nw ts (p ++ [j]) → e[0]? = some (some (.bor tp_T1)) → TpQ (c + 1) (NoS ts) (.lst [.tup [], .tup [.int ((trsD ts).length : Int)], .tup [.int (-1)], .tup (p.map D.int ++ [.int j]), .tup (p.map D.int ++ [.int (-1)]), .tup ((p.map D.int).dropLast ++ [.int 999999999999999999999999]), .tup (.int (-1) :: (p.map D.int).tail)]) e := fun j e nj he => by
      refine ⟨⟨[[], [((trsD ts).length : Int)], [-1], p ++ [j], p ++ [-1], p.dropLast ++ [999999999999999999999999], (-1) :: p.drop 1], ?_, fun q m => ?_⟩, tp_T1, he, T1⟩
      · rw [dl]
        simp
      · simp only [List.mem_cons, List.not_mem_nil, or_false] at m
        rcases m with rfl | rfl | rfl | rfl | rfl | rfl | rfl
        · exact ⟨.inl rfl, by simp⟩
        · exact ⟨.inr n1, by simp⟩
        · exact ⟨.inr n2, by simp⟩
        · exact ⟨.inr nj, by simp; omega⟩
        · exact ⟨.inr n3, by simp; omega⟩
        · exact ⟨.inr n4, by rw [List.length_append, List.length_singleton]; omega⟩
        · exact ⟨.inr n5, by simp; omega⟩
    cases t with
    | leaf w =>
      obtain ⟨kk, y, e, hkk, hy⟩ := item_two w
      have hkk : ¬kk = [112, 114, 111, 99] := hkk
      rw [Tr.d, e] at i2
      have g := fin 0
      simp -implicitDefEqProofs -dsimp [z, hk, i1, i2, hkk, cut_to_m1, cut_from_1, f24]
      exact ⟨by assumption, by omega, by omega, by omega, g _ n6 rfl⟩
    | proc us =>
      rw [Tr.d] at i2
      unfold procD at i2
      have g := fin ((trsD us).length : Int)
      simp -implicitDefEqProofs -dsimp [z, hk, i1, i2, cut_to_m1, cut_from_1, f24]
      exact ⟨by assumption, by omega, by omega, by omega, g _ (by rw [trsD_len]; exact n6) rfl⟩
theorem lfs_toks : ∀ ts : List (List Nat × Nat), lfs (ts.map tokD) = true
  | [] => rfl
  | t :: ts => by rw [List.map_cons, lfs, lfs_toks ts]; rfl
theorem lfs_ints : ∀ xs : List Int, lfs (xs.map D.int) = true
  | [] => rfl
  | x :: xs => by rw [List.map_cons, lfs, lfs_ints xs]; rfl
theorem lfs_tIs : ∀ xs : List (List Int), lfs (xs.map tI) = true
  | [] => rfl
  | x :: xs => by
    have e : lf (tI x) = true := by
      show lf (.tup (x.map D.int)) = true
      rw [lf]
      exact lfs_ints x
    rw [List.map_cons, lfs, lfs_tIs xs, e]
    rfl
theorem frA_run : ∀ (ts : List (List Nat × Nat)) (st : List (List D)) (d : Nat) (st' : List (List D)), st.length = d + 1 → d ≤ 20 → (∀ x ∈ ts, TokW x.1) → rdS st (ts.map (·.1)) = some st' → ∃ d', frA d ts = .inr d' ∧ st'.length = d' + 1
  | [], st, d, st', hs, _, _, e => by
    cases e
    exact ⟨d, rfl, hs⟩
  | (w, p) :: ts, st, d, st', hs, hd, hw, e => by
    rw [List.map_cons, rdS] at e
    have tw := hw _ (List.mem_cons_self ..)
    by_cases nw : wrong d w
    · exfalso
      have : stp st w = none := by
        unfold wrong at nw
        rcases nw with k | ⟨k, z⟩ | ⟨k, z⟩
        · exact absurd k tw.kinds
        · rw [kind_open k]
          unfold stp
          rw [if_pos rfl, if_neg (by omega)]
        · rw [kind_close k]
          unfold stp
          rw [if_neg (by decide), if_pos rfl]
          match st, hs with
          | [r], _ => rfl
          | _ :: _ :: _, hs => simp at hs; omega
      dsimp only at e
      rw [this] at e
      cases e
    · obtain ⟨s1, e1, l1, l2⟩ := stp_ok hs hd nw
      dsimp only at e
      rw [e1, Option.bind_some] at e
      obtain ⟨d', h1, h2⟩ := frA_run ts s1 (nxd d w) st' l1 l2 (fun x m => hw x (List.mem_cons_of_mem _ m)) e
      exact ⟨d', by rw [frA, if_neg nw]; exact h1, h2⟩
theorem read_items_good {t : List Nat} {ts : List Tr} (o : oks ts) (hd : deps ts ≤ 20) (hl : t.length ≤ 300000) (ht : (toksL t).map (·.1) = toks ts) (hs : (toks ts).length ≤ 100000) : Wp (F_read_items [sd t]) fun d _ => d = rwD ts := by
  have tl : (toksL t).length = (toks ts).length := by rw [← ht, List.length_map]
  have hw : ∀ x ∈ toksL t, TokW x.1 := fun x m => toks_w o _ (by rw [← ht]; exact List.mem_map_of_mem m)
  have run := toks_run (ts := ts) (r := []) (s := []) o (by simp; omega)
  rw [List.nil_append, ← ht] at run
  obtain ⟨d', h1, h2⟩ := frA_run (toksL t) [[]] 0 _ rfl (by omega) hw run
  have d0 : d' = 0 := by simp at h2; omega
  have fr : frst t.length (toksL t) = -1 := by
    unfold frst
    rw [h1, d0]
    rfl
  refine read_items_any hl (by omega) (fun x m => .inl (hw x m)) (fun q hq h0 e => ?_) (fun ds e hq hk hr => ?_)
  · rw [fr] at hq
    omega
  · rw [run] at hr
    cases hr
    rfl
end K03
end

section
set_option maxRecDepth 100000
set_option maxHeartbeats 4000000
namespace K03
open PySem L2 DL
theorem lf_item (w : List Nat) : lf (itemL w) = true := by
  unfold itemL
  split
  · unfold tnD
    split <;> rfl
  · split <;> rfl
mutual
theorem lf_tr : ∀ t : Tr, lf t.d = true
  | .leaf w => by rw [Tr.d]; exact lf_item w
  | .proc us => by
    have h := lfs_trs us
    rw [Tr.d]
    unfold procD
    rw [lf, lfs, lfs, lfs, lf, h]
    rfl
theorem lfs_trs : ∀ ts : List Tr, lfs (trsD ts) = true
  | [] => rfl
  | t :: ts => by rw [trsD, lfs, lf_tr t, lfs_trs ts]; rfl
end
theorem isi_own {xs : List D} : dIsi [.own xs, .ty "list"] = some (.bl true) := by rfl
def LiI (a b m s w : Option D) (_ : Nat) (e : DL.Env) : Prop := ∃ o6 : Option D, isShO o6 = true ∧ e = [a, b, m, s, w, some (.al 5), o6, none]
def LkI (a b m s w t : Option D) (_ : Nat) (e : DL.Env) : Prop := ∃ o6 o7 : Option D, e = [a, b, m, s, w, t, o6, o7]
theorem lists_ok {t : List Nat} {ts : List Tr} (o : oks ts) (hd : deps ts ≤ 20) (hl : t.length ≤ 300000) (ht : (toksL t).map (·.1) = toks ts) (hs : (toks ts).length ≤ 100000) :
    Wp (F__law_lists [sd t, .lst ((toksL t).map tokD), rwD ts, .lst ((pths [] 0 ts).map tI), .lst ((pre [] 0 0 ts).map pI2)]) fun d _ => d = .bl true := by
  have tl : (toksL t).length = (toks ts).length := by rw [← ht, List.length_map]
  have hw : ∀ x ∈ toksL t, TokW x.1 := fun x m => toks_w o _ (by rw [← ht]; exact List.mem_map_of_mem m)
  have tsh : ((toksL t).map tokD).all isSh = true := lfs_sh (lfs_toks _)
  have eqt := eq_toks (ts := toksL t) fun x m => TokX.small (.inl (hw x m))
  have neo := (ne_own (ys := (toksL t).map tokD) tsh).trans eqt.2
  have psh : ((pths [] 0 ts).map tI).all isSh = true := tIs_sh
  have nep : dNe (.lst ((pths [] 0 ts).map tI)) (.lst ((pths [] 0 ts).map tI)) = some (.bl false) := by
    rw [ne_tIs]
    simp
  have npo := (ne_own (ys := (pths [] 0 ts).map tI) psh).trans nep
  have eqm := eq_trs o (show deps ts ≤ 30 by omega)
  have lf1 := lfs_toks (toksL t)
  have lf2 := lfs_tIs (pths [] 0 ts)
  have tk := tokens_ok (t := t) hl
  have rd := read_items_good o hd hl ht hs
  have pl := places_ok (ts := ts) (by omega) hs
  have tlen : ((toksL t).map tokD).length ≤ 100000 := by rw [List.length_map]; omega
  have plen : ((pths [] 0 ts).map tI).length ≤ 100000 := by
    have := pths_len (ts := ts) (b := []) (z := 0)
    rw [List.length_map]
    omega
  have pe : (pre [] 0 0 ts).length = (pths [] 0 ts).length := by rw [← pre_pth (k := 0), List.length_map]
  have cell : ∀ k, k < ((pths [] 0 ts).map tI).length → ∃ (p : List Int) (u : Tr), atI ((pths [] 0 ts).map tI) (k : Int) = some (.tup (p.map D.int)) ∧ atI ((pre [] 0 0 ts).map pI2) (k : Int) = some u.d ∧ Wp (F_item_at [rwD ts, tI p]) (fun d _ => d = u.d) ∧ dNe u.d u.d = some (.bl false) := fun k kl => by
    rw [List.length_map] at kl
    obtain ⟨x, hx⟩ : ∃ x, (pre [] 0 0 ts)[k]? = some x := ⟨_, List.getElem?_eq_getElem (by omega)⟩
    obtain ⟨R, at_⟩ := pre_top (List.mem_of_getElem? hx)
    have i1 : atI ((pths [] 0 ts).map tI) (k : Int) = some (tI x.1) := by rw [DL.atI_nat, ← pre_pth (k := 0), List.map_map, List.getElem?_map, hx]; rfl
    have i2 : atI ((pre [] 0 0 ts).map pI2) (k : Int) = some x.2.1.d := by rw [DL.atI_nat, List.getElem?_map, hx]; rfl
    have xl := At.len at_
    have xo := At.okT at_ o
    exact ⟨x.1, x.2.1, i1, i2, item_at_ok at_ (by omega), (eq_tr xo.1 (by omega)).2⟩
  clear pe
  have cells : ∀ d ∈ (toksL t).map tokD, ∃ (a b : D) (p : Int), d = .tup [a, b, .int p] := fun d m => by
    obtain ⟨x, _, rfl⟩ := List.mem_map.mp m
    exact ⟨_, _, _, rfl⟩
  revert tsh neo npo psh nep lf1 lf2 tk pl tlen plen cell cells eqt
  generalize (toksL t).map tokD = TK
  generalize (pths [] 0 ts).map tI = PT
  generalize (pre [] 0 0 ts).map pI2 = IT
  intro tsh eqt neo psh nep npo lf1 lf2 tk pl tlen plen cell cells
  rw [List.all_eq_true] at tsh psh
  have l1 : lfs [sd t] = true := rfl
  have l2 : lfs [D.tup (trsD ts)] = true := by rw [lfs, lfs, lf, lfs_trs]; rfl
  clear hd hl ht hs tl hw
  unfold F__law_lists b__law_lists
  first | rw [wp_runP] | rw [wp_runF]
  simp -implicitDefEqProofs -dsimp [-wp_seq]
  (first | rw [wp_seq] | (show Wq noE _ _; rw [wp_seq]))
  simp -implicitDefEqProofs -dsimp [-wp_seq, l1]
  refine tk.imp ?_
  rintro _ _ rfl
  simp -implicitDefEqProofs -dsimp [-wp_seq]
  refine ⟨lf1, ?_⟩
  (first | rw [wp_seq] | (show Wq noE _ _; rw [wp_seq]))
  simp -implicitDefEqProofs -dsimp [-wp_seq, isi_own, neo]
  (first | rw [wp_seq] | (show Wq noE _ _; rw [wp_seq]))
  simp -implicitDefEqProofs -dsimp [-wp_seq, onlySh_eq]
  refine ⟨tsh, ?_⟩
  refine wp_forL (LiI (some (sd t)) (some (.lst TK)) (some (rwD ts)) (some (.lst PT)) (some (.lst IT))) _ 0 _ ⟨none, rfl, rfl⟩ ?_ ?_
  · rintro i d e hd ⟨o6, h6, rfl⟩
    obtain ⟨a, b, p, rfl⟩ := cells d (List.mem_of_getElem? hd)
    simp -implicitDefEqProofs -dsimp [-wp_seq]
    refine (int_ok (i := p)).imp ?_
    rintro _ _ rfl
    simp -implicitDefEqProofs -dsimp [-wp_seq]
    exact ⟨_, rfl, rfl⟩
  · rintro e ⟨o6, h6, rfl⟩
    simp -implicitDefEqProofs -dsimp [-wp_seq, onlySh_eq, isAlAt_eq, h6]
    (first | rw [wp_seq] | (show Wq noE _ _; rw [wp_seq]))
    simp -implicitDefEqProofs -dsimp [-wp_seq]
    refine ⟨⟨tsh, by omega⟩, ?_⟩
    (first | rw [wp_seq] | (show Wq noE _ _; rw [wp_seq]))
    simp -implicitDefEqProofs -dsimp [-wp_seq]
    refine tk.imp ?_
    rintro _ _ rfl
    simp -implicitDefEqProofs -dsimp [-wp_seq, eqt.2]
    refine rd.imp ?_
    rintro _ _ rfl
    simp -implicitDefEqProofs -dsimp [-wp_seq, eqm.2]
    (first | rw [wp_seq] | (show Wq noE _ _; rw [wp_seq]))
    simp -implicitDefEqProofs -dsimp [-wp_seq, l2]
    refine pl.imp ?_
    rintro _ _ rfl
    simp -implicitDefEqProofs -dsimp [-wp_seq]
    refine ⟨lf2, ?_⟩
    (first | rw [wp_seq] | (show Wq noE _ _; rw [wp_seq]))
    simp -implicitDefEqProofs -dsimp [-wp_seq, isi_own, npo]
    (first | rw [wp_seq] | (show Wq noE _ _; rw [wp_seq]))
    simp -implicitDefEqProofs -dsimp [-wp_seq]
    refine ⟨⟨psh, by omega⟩, ?_⟩
    (first | rw [wp_seq] | (show Wq noE _ _; rw [wp_seq]))
    simp -implicitDefEqProofs -dsimp [-wp_seq]
    refine pl.imp ?_
    rintro _ _ rfl
    simp -implicitDefEqProofs -dsimp [-wp_seq, nep]
    (first | rw [wp_seq] | (show Wq noE _ _; rw [wp_seq]))
    simp -implicitDefEqProofs -dsimp [-wp_seq]
    refine ⟨by omega, ?_⟩
    refine wp_forL (LkI (some (sd t)) (some (.lst TK)) (some (rwD ts)) (some (.lst PT)) (some (.lst IT)) (some (.own (PT ++ [.tup [.int 0]])))) _ 0 _ ⟨_, _, rfl⟩ ?_ ?_
    · rintro i d e hd ⟨o6, o7, rfl⟩
      obtain ⟨hi, rfl⟩ := rg_get hd
      obtain ⟨p, u, c1, c2, c3, c4⟩ := cell i hi
      simp -implicitDefEqProofs -dsimp [-wp_seq, c1]
      refine c3.imp ?_
      rintro _ _ rfl
      simp -implicitDefEqProofs -dsimp [-wp_seq, c2, c4]
      exact ⟨_, _, rfl⟩
    · rintro e ⟨o6, o7, rfl⟩
      simp -implicitDefEqProofs -dsimp
end K03
end

section
set_option maxRecDepth 100000
set_option maxHeartbeats 4000000
namespace K03
open PySem L2 DL
theorem At.deps {ts vs : List Tr} {p : List Int} {R : List (List Tr)} {a b : Nat} {t : Tr} (h : At ts p R a b t) : deps (exR R p vs) ≤ max (deps ts) (p.length - 1 + deps vs) := by
  induction h with
  | here xs t ys =>
    rw [exR, splice_mid, deps_app, deps_app, deps_app, DL.deps]
    simp
    omega
  | into xs us ys h ih =>
    have n := h.ne.1
    have n1 : 1 ≤ _ := List.length_pos_iff.mpr n
    rw [exR_into h, deps_app, deps_app, deps_app, DL.deps, DL.deps, DL.deps, Tr.dep, Tr.dep, List.length_cons]
    omega
mutual
theorem dep_tok : ∀ {t : Tr}, t.dep ≤ t.tok.length
  | .leaf w => by rw [Tr.dep]; omega
  | .proc us => by
    have := dep_toks (ts := us)
    rw [Tr.dep, tok_len_proc]
    omega
theorem dep_toks : ∀ {ts : List Tr}, deps ts ≤ (toks ts).length
  | [] => by rw [deps]; omega
  | t :: ts => by
    have h1 := dep_tok (t := t)
    have h2 := dep_toks (ts := ts)
    rw [deps, toks, List.length_append]
    omega
end
theorem chain_nest {n : Nat} {il : List (List Nat)} {w : List Nat} (h : il = [w]) : chainL n il = toks (nest n [.leaf w]) := by
  rw [nest_toks, h]
  unfold chainL
  rw [toks, toks, Tr.tok]
  rfl
theorem nest_len {n : Nat} {w : List Nat} : (toks (nest n [.leaf w])).length = 2 * n + 1 := by
  rw [nest_toks, toks, toks, Tr.tok]
  simp
  omega
theorem nest_dp {n : Nat} {w : List Nat} : deps (nest n [.leaf w]) = n := by
  rw [nest_deps, deps, deps, Tr.dep]
  omega
theorem nest_ok {n : Nat} {w : List Nat} (h : Leaf w) : oks (nest n [.leaf w]) := nest_oks n (by rw [oks, oks, Tr.ok]; exact ⟨h, trivial⟩)
/-- leaf and chain -/
abbrev lcT (w0 w1 : List Nat) (n : Nat) : List Tr := .leaf w0 :: nest n [.leaf w1]
theorem lc_toks {w0 w1 : List Nat} {n : Nat} : toks (lcT w0 w1 n) = w0 :: toks (nest n [.leaf w1]) := by rw [toks, Tr.tok]; rfl
theorem lc_len {w0 w1 : List Nat} {n : Nat} : (toks (lcT w0 w1 n)).length = 2 * n + 2 := by rw [lc_toks, List.length_cons, nest_len]
theorem lc_dep {w0 w1 : List Nat} {n : Nat} : deps (lcT w0 w1 n) = n := by
  rw [deps, Tr.dep, nest_dp]
  omega
theorem lc_ok {w0 w1 : List Nat} {n : Nat} (h0 : Leaf w0) (h1 : Leaf w1) : oks (lcT w0 w1 n) := by
  rw [oks, Tr.ok]
  exact ⟨h0, nest_ok h1⟩
theorem lc_at {w0 w1 : List Nat} {n m : Nat} (h1 : 1 ≤ m) (h2 : m ≤ n) : ∃ R u, At (lcT w0 w1 n) (1 :: List.replicate m (0 : Int)) R (1 + m) (2 * n + 2 - m) u ∧ Nw (lcT w0 w1 n) ((1 :: List.replicate m (0 : Int)).dropLast ++ [1]) := by
  obtain ⟨n', rfl⟩ : ∃ n', n = n' + 1 := ⟨n - 1, by omega⟩
  obtain ⟨m', rfl⟩ : ∃ m', m = m' + 1 := ⟨m - 1, by omega⟩
  obtain ⟨R, u, a1, a2⟩ := nest_at m' n' (.leaf w1) (by omega)
  have a3 := At.into [.leaf w0] (nest n' [.leaf w1]) [] a1
  have rp : List.replicate m' (0 : Int) ++ [0] = List.replicate (m' + 1) 0 := List.replicate_succ'.symm
  have e1 : (toks [Tr.leaf w0]).length + 1 + m' = 1 + (m' + 1) := by rw [toks, toks, Tr.tok]; simp; omega
  have e2 : (toks [Tr.leaf w0]).length + 1 + ((toks (nest n' [.leaf w1])).length - m') = 2 * (n' + 1) + 2 - (m' + 1) := by
    rw [nest_len, toks, toks, Tr.tok]
    simp
    omega
  rw [e1, e2, rp] at a3
  refine ⟨_, u, a3, ?_⟩
  have b1 := a1.beside (i := 1) fun r mr => by
    rw [a2 r mr]
    decide
  have ne : List.replicate (m' + 1) (0 : Int) ≠ [] := by simp
  rw [rp] at b1
  rw [List.dropLast_cons_of_ne_nil ne]
  exact .into [.leaf w0] (.proc (nest n' [.leaf w1])) [] b1
theorem deep_law {c : Nat} {tp : List D} (h : Tp c tp) (hc : c < 50000) : Wp (F__law_deep [.bor tp]) (TpQ (c + 400) fun d => d = .bl true) := by
  unfold F__law_deep b__law_deep
  first | rw [wp_runP] | rw [wp_runF]
  simp -implicitDefEqProofs -dsimp
  refine (next_ok h (by omega) (by decide)).imp ?_
  rintro _ outs ⟨⟨q, rfl, q_0, q_1⟩, tp_T1, ho, T1⟩
  simp -implicitDefEqProofs -dsimp [putO_one ho]
  obtain ⟨m, hm⟩ : ∃ m : Nat, (m : Int) = 1 + q := ⟨(1 + q).toNat, by omega⟩
  have m1 : 1 ≤ m := by omega
  have m2 : m ≤ 19 := by omega
  rw [← hm]
  refine (next_ok T1 (by omega) (by decide)).imp ?_
  rintro _ outs ⟨⟨r, rfl, r_0, r_1⟩, tp_T2, ho, T2⟩
  simp -implicitDefEqProofs -dsimp [putO_one ho]
  obtain ⟨n, hn⟩ : ∃ n : Nat, (n : Int) = min 20 ((m : Int) + r) := ⟨(min 20 ((m : Int) + r)).toNat, by omega⟩
  have n1 : m ≤ n := by omega
  have n2 : n ≤ 20 := by omega
  rw [min2_eq, ← hn]
  simp -implicitDefEqProofs -dsimp
  refine (leaf_ok T2 (by omega)).imp ?_
  rintro _ outs ⟨⟨w1, rfl, lw1⟩, tp3, ho, T3⟩
  simp -implicitDefEqProofs -dsimp [putO_one ho]
  obtain ⟨il, hi⟩ : ∃ il : List (List Nat), il = [w1] := ⟨_, rfl⟩
  have ei : [ltD w1] = il.map ltD := by rw [hi]; rfl
  have ln : il.length = 1 := by rw [hi]; rfl
  rw [ei]
  refine (chain_ok (n := n) (inner := il) (by omega) (by omega)).imp ?_
  rintro _ _ rfl
  simp -implicitDefEqProofs -dsimp
  refine (leaf_ok T3 (by omega)).imp ?_
  rintro _ outs ⟨⟨w0, rfl, lw0⟩, tp4, ho, T4⟩
  rw [chain_nest hi]
  obtain ⟨ts, o1, dp, ll, t0, R, u, at_, nw⟩ : ∃ ts : List Tr, oks ts ∧ deps ts = n ∧ (toks ts).length = 2 * n + 2 ∧ ltD w0 :: (toks (nest n [.leaf w1])).map ltD = (toks ts).map ltD ∧
      ∃ R u, At ts (1 :: List.replicate m (0 : Int)) R (1 + m) (2 * n + 2 - m) u ∧ Nw ts ((1 :: List.replicate m (0 : Int)).dropLast ++ [1]) := ⟨lcT w0 w1 n, lc_ok lw0 lw1, lc_dep, lc_len, by rw [lc_toks]; rfl, lc_at m1 n1⟩
  have nl : (toks (nest n [.leaf w1])).length = 2 * n + 1 := nest_len
  revert t0 nl
  generalize toks (nest n [.leaf w1]) = X
  intro t0 nl
  simp -implicitDefEqProofs -dsimp [putO_one ho, t0]
  refine ⟨by omega, ?_⟩
  refine (reading o1 (by omega) (by omega)).imp ?_
  rintro _ _ rfl
  simp -implicitDefEqProofs -dsimp
  refine ⟨by omega, by omega, ?_⟩
  obtain ⟨p, pe, pl, at_, nw⟩ : ∃ p : List Int, D.tup (.int 1 :: List.replicate m (.int 0)) = tI p ∧ p.length = m + 1 ∧ At ts p R (1 + m) (2 * n + 2 - m) u ∧ Nw ts (p.dropLast ++ [1]) := ⟨1 :: List.replicate m 0, by simp, by simp, at_, nw⟩
  obtain ⟨a, ha⟩ : ∃ a : Nat, a = 1 + m := ⟨_, rfl⟩
  obtain ⟨b, hb⟩ : ∃ b : Nat, b = 2 * n + 2 - m := ⟨_, rfl⟩
  have ea : (1 : Int) + (m : Int) = (a : Int) := by omega
  have eb : ((toks ts).length : Int) - (m : Int) = (b : Int) := by omega
  rw [← ha, ← hb] at at_
  rw [pe, ea, eb]
  refine (leaf_ok T4 (by omega)).imp ?_
  rintro _ outs ⟨⟨w2, rfl, lw2⟩, tp5, ho, T5⟩
  simp -implicitDefEqProofs -dsimp [putO_one ho]
  obtain ⟨k2, hk2⟩ : ∃ k2 : Nat, k2 = 20 - m := ⟨_, rfl⟩
  have e20 : (20 : Int) - (m : Int) = (k2 : Int) := by omega
  obtain ⟨i2, hi2⟩ : ∃ il : List (List Nat), il = [w2] := ⟨_, rfl⟩
  have ei2 : [ltD w2] = i2.map ltD := by rw [hi2]; rfl
  have ln2 : i2.length = 1 := by rw [hi2]; rfl
  rw [ei2, e20]
  refine (chain_ok (n := k2) (inner := i2) (by omega) (by omega)).imp ?_
  rintro _ _ rfl
  rw [chain_nest hi2]
  obtain ⟨us, uo, ud, ul, ue⟩ : ∃ us : List Tr, oks us ∧ deps us = k2 ∧ (toks us).length = 2 * k2 + 1 ∧ us = nest k2 [.leaf w2] := ⟨_, nest_ok lw2, nest_dp, nest_len, rfl⟩
  rw [← ue]
  simp -implicitDefEqProofs -dsimp
  refine (leaf_ok T5 (by omega)).imp ?_
  rintro _ outs ⟨⟨w3, rfl, lw3⟩, tp6, ho, T6⟩
  simp -implicitDefEqProofs -dsimp [putO_one ho]
  refine (leaf_ok T6 (by omega)).imp ?_
  rintro _ outs ⟨⟨w4, rfl, lw4⟩, tp7, ho, T7⟩
  simp -implicitDefEqProofs -dsimp [putO_one ho]
  obtain ⟨k3, hk3⟩ : ∃ k3 : Nat, k3 = 21 - m := ⟨_, rfl⟩
  have e21 : (21 : Int) - (m : Int) = (k3 : Int) := by omega
  obtain ⟨i3, hi3⟩ : ∃ il : List (List Nat), il = [w4] := ⟨_, rfl⟩
  have ei3 : [ltD w4] = i3.map ltD := by rw [hi3]; rfl
  have ln3 : i3.length = 1 := by rw [hi3]; rfl
  rw [ei3, e21]
  refine (chain_ok (n := k3) (inner := i3) (by omega) (by omega)).imp ?_
  rintro _ _ rfl
  rw [chain_nest hi3]
  obtain ⟨vs, vo, vd, vl, t1⟩ : ∃ vs : List Tr, oks vs ∧ deps vs = k3 ∧ (toks vs).length = 2 * k3 + 2 ∧ ltD w3 :: (toks (nest k3 [.leaf w4])).map ltD = (toks vs).map ltD := ⟨lcT w3 w4 k3, lc_ok lw3 lw4, lc_dep, lc_len, by rw [lc_toks]; rfl⟩
  have n3 : (toks (nest k3 [.leaf w4])).length = 2 * k3 + 1 := nest_len
  revert t1 n3
  generalize toks (nest k3 [.leaf w4]) = Y
  intro t1 n3
  simp -implicitDefEqProofs -dsimp [t1]
  refine ⟨by omega, ?_⟩
  have d1 := At.deps at_ (vs := us)
  have d2 := At.deps at_ (vs := vs)
  refine (exchange_ok at_ (by omega) o1 uo (by omega) (by omega) (by omega) (by omega)).imp ?_
  rintro _ _ rfl
  simp -implicitDefEqProofs -dsimp
  refine (exchange_ok at_ (by omega) o1 vo (by omega) (by omega) (by omega) (by omega)).imp ?_
  rintro _ _ rfl
  simp -implicitDefEqProofs -dsimp [cut_to_m1]
  refine ⟨by omega, ?_⟩
  refine (reading vo (by omega) (by omega)).imp ?_
  rintro _ _ rfl
  have pe2 : D.tup ((p.map D.int).dropLast ++ [.int 1]) = tI (p.dropLast ++ [1]) := by
    show _ = D.tup ((p.dropLast ++ [1]).map D.int)
    rw [List.map_append, List.map_dropLast]
    rfl
  simp -implicitDefEqProofs -dsimp
  rw [pe2]
  refine (nowhere_exch (us := vs) (.inr nw) (by rw [List.length_append, List.length_dropLast, List.length_singleton]; omega)).imp ?_
  rintro _ _ rfl
  simp -implicitDefEqProofs -dsimp
  exact ⟨rfl, tp7, rfl, T7.mono (by omega)⟩
end K03
end

section
set_option maxRecDepth 100000
set_option maxHeartbeats 4000000
namespace K03
open PySem L2 DL
def WC : List (List Nat) := [[100, 114, 111, 112], [116, 119, 105, 110], [115, 119, 97, 112], [111, 118, 101, 114], [114, 111, 116], [112, 105, 99, 107], [99, 111, 117, 110, 116], [109, 97, 114, 107], [91], [93], [119, 105, 112, 101], [97, 100, 100], [115, 117, 98], [109, 117, 108], [100, 105, 118], [110, 101, 103], [109, 105, 110], [109, 97, 120], [97, 98, 115], [102, 108, 111, 111, 114], [108, 101, 116, 116, 101, 114], [108, 116], [108, 101], [101, 113], [110, 111, 116], [97, 110, 100], [111, 114], [116, 114, 117, 101], [102, 97, 108, 115, 101], [100, 111], [105, 102], [99, 104, 111, 111, 115, 101], [116, 105, 109, 101, 115], [102, 111, 114], [101, 97, 99, 104], [100, 101, 102], [103, 101, 116], [107, 110, 111, 119, 110], [98, 101, 103, 105, 110], [101, 110, 100], [115, 105, 122, 101], [110, 116, 104], [106, 111, 105, 110], [115, 112, 114, 101, 97, 100], [115, 97, 118, 101], [98, 97, 99, 107], [115, 104, 105, 102, 116], [115, 99, 97, 108, 101], [109, 97, 116, 114, 105, 120], [105, 110, 107], [115, 104, 97, 114, 101], [112, 101, 110], [99, 117, 116, 115], [97, 116], [108, 105, 110, 101], [98, 121], [99, 117, 114, 118, 101], [115, 104, 117, 116], [98, 111, 120], [102, 114, 101, 115, 104], [102, 105, 108, 108], [102, 105, 108, 108, 111, 100, 100], [115, 116, 114, 111, 107, 101], [99, 108, 105, 112], [99, 108, 105, 112, 111, 100, 100], [114, 101, 99, 111, 114, 100], [112, 117, 116], [115, 104, 111, 119], [116, 105, 108, 101], [112, 97, 103, 101], [99, 108, 101, 97, 110]]
theorem words_const : c_WORDS = .tup (WC.map sd) := by rfl
theorem words_is : Wp (F__law_words []) fun d _ => d = .lst (WC.map sd) := by
  unfold F__law_words
  first | rw [wp_runP] | rw [wp_runF]
  simp -implicitDefEqProofs -dsimp
  rw [split_sd (by decide +kernel) (by decide)]
  simp -implicitDefEqProofs -dsimp
  congr 1
theorem cmps_sds : ∀ {ls : List (List Nat)}, (∀ l ∈ ls, ∀ c ∈ l, c < 128) → Cmps 1 (ls.map sd)
  | [], _ => .nil
  | l :: ls, h => .cons (.sd (h l (List.mem_cons_self ..))) (cmps_sds fun x m => h x (List.mem_cons_of_mem _ m))
theorem words_ne : dNe (.lst (WC.map sd)) (.lst (WC.map sd)) = some (.bl false) := by
  have h : ∀ l ∈ WC, ∀ c ∈ l, c < 128 := by decide +kernel
  exact (eq_self ((Cmps.lst (cmps_sds h)).mono (by omega)) rfl rfl).2
theorem RowW.mono {m n : Nat} {ws : List (List Nat)} (h : RowW m ws) (k : m ≤ n) : RowW n ws := ⟨h.tok, h.run, by have := h.few; omega⟩
theorem RowW.leaves {m : Nat} {ws ls : List (List Nat)} (h : RowW m ws) (hl : ∀ w ∈ ls, Leaf w) : RowW (m + ls.length) (ws ++ ls) := by
  obtain ⟨h1, ⟨ds, h2⟩, h3⟩ := h
  obtain ⟨r', e⟩ := leaf_run ls ds [] hl
  refine ⟨fun w mw => ?_, ⟨r', by rw [rdS_app, h2]; exact e⟩, by rw [List.length_append]; omega⟩
  rcases List.mem_append.mp mw with mw | mw
  · exact h1 w mw
  · exact .inr (.inr (hl w mw))
/-- behind the row -/
def LA (ns : List Int) (c n : Nat) (e : DL.Env) : Prop := ∃ (tp : List D) (ws : List (List Nat)), Tp c tp ∧ RowW n ws ∧ e = [some (.klst (ns.map D.int)), some (.own tp), some (.lst (ws.map ltD)), none, none, none, none, none, none, none, none, none, none]
def XL (A B : DL.Env) (i : Nat) (acc : List D) (e : DL.Env) : Prop := ∃ (tp : List D) (ls : List (List Nat)), Tp (1100 + 61 * i) tp ∧ (∀ w ∈ ls, Leaf w) ∧ ls.length = i ∧ acc = ls.map ltD ∧ e = A ++ some (.own tp) :: B
def XK (a o2 o4 o5 o6 o7 o8 o9 o10 : Option D) (c i : Nat) (e : DL.Env) : Prop := ∃ (tp : List D) (o3 o11 : Option D), Tp (c + 2 * i) tp ∧ e = [a, some (.own tp), o2, o3, o4, o5, o6, o7, o8, o9, o10, o11, none]
def XN (a t o2 o3 o4 o5 o6 o7 o8 o9 o10 o11 : Option D) (_ : Nat) (e : DL.Env) : Prop := ∃ o12 : Option D, e = [a, t, o2, o3, o4, o5, o6, o7, o8, o9, o10, o11, o12]
theorem plain (ns : List Int) (hn : ns.length ≤ 63) : ∃ outs, F_law [.klst (ns.map D.int)] = .ok (.bl true) outs := by
  suffices h : Wp (F_law [.klst (ns.map D.int)]) fun d _ => d = .bl true by
    obtain ⟨d, e, h1, rfl⟩ := h.get
    exact ⟨e, h1⟩
  unfold F_law b_law
  first | rw [wp_runP] | rw [wp_runF]
  simp -implicitDefEqProofs -dsimp [-wp_seq]
  (first | rw [wp_seq] | (show Wq noE _ _; rw [wp_seq]))
  simp -implicitDefEqProofs -dsimp [-wp_seq]
  refine (row_ok hn).imp ?_
  rintro _ _ ⟨row, rfl, hrow⟩
  have T0 : Tp 0 [lI row, .int 0] := ⟨row, 0, rfl, Nat.le_refl _, hrow⟩
  simp -implicitDefEqProofs -dsimp [-wp_seq]
  (first | rw [wp_seq] | (show Wq noE _ _; rw [wp_seq]))
  simp -implicitDefEqProofs -dsimp [-wp_seq]
  refine (next_ok T0 (by omega) (by decide)).imp ?_
  rintro _ outs ⟨⟨q, rfl, q_0, q_1⟩, tp_T1, ho, T1⟩
  simp -implicitDefEqProofs -dsimp [putO_one ho]
  have eq : q = ((q.toNat : Nat) : Int) := by omega
  have e4 : (4 : Int) = ((4 : Nat) : Int) := rfl
  have hq : q.toNat ≤ 13 := by omega
  revert hq eq
  generalize q.toNat = m
  intro eq hq
  subst eq
  refine (tree_ok (c := 1) (many := m) (most := 4) T1 (by omega) (by decide) (by omega)).imp ?_
  rintro _ outs ⟨⟨ws0, rfl, R0⟩, tp2, ho, T2⟩
  simp -implicitDefEqProofs -dsimp [putO_one ho, -wp_seq]
  (first | rw [wp_seq] | (show Wq noE _ _; rw [wp_seq]))
  refine Wp.imp (P := fun f e => f = .nx ∧ LA ns 1000 70 e) ?_ ?_
  · simp -implicitDefEqProofs -dsimp [-wp_seq]
    refine (next_ok T2 (by omega) (by decide)).imp ?_
    rintro _ outs ⟨⟨q, rfl, q_0, q_1⟩, tp_T3, ho, T3⟩
    simp -implicitDefEqProofs -dsimp [putO_one ho]
    refine ⟨fun _ => ?_, fun _ => ?_⟩
    · obtain ⟨k, hk⟩ : ∃ k : Nat, k = 20 := ⟨20, rfl⟩
      have e20 : (20 : Int) = (k : Int) := by rw [hk]; rfl
      rw [e20]
      refine (leaf_ok T3 (by omega)).imp ?_
      rintro _ outs ⟨⟨w, rfl, hw⟩, tp4, ho, T4⟩
      simp -implicitDefEqProofs -dsimp [putO_one ho]
      obtain ⟨il, hi⟩ : ∃ il : List (List Nat), il = [w] := ⟨_, rfl⟩
      have ei : [ltD w] = il.map ltD := by rw [hi]; rfl
      have hil : ∀ x ∈ il, Leaf x := by rw [hi]; simpa using hw
      have ln : il.length = 1 := by rw [hi]; rfl
      rw [ei]
      have R1 := R0.chain (n := k) (inner := il) (by omega) hil
      have l0 := R0.few
      have l1 : (chainL k il).length = 41 := by simp [chainL, ln, hk]
      refine (chain_ok (n := k) (inner := il) (by omega) (by omega)).imp ?_
      rintro _ _ rfl
      simp -implicitDefEqProofs -dsimp [l1]
      refine ⟨by omega, tp4, ws0 ++ chainL k il, T4.mono (by omega), R1.mono (by omega), ?_⟩
      rw [List.map_append]
    · exact ⟨tp_T3, ws0, T3.mono (by omega), R0.mono (by omega), rfl⟩
  rintro _ _ ⟨rfl, tp, ws, T, R, rfl⟩
  simp -implicitDefEqProofs -dsimp [-wp_seq]
  (first | rw [wp_seq] | (show Wq noE _ _; rw [wp_seq]))
  clear R0 T0 T1 T2
  refine Wp.imp (P := fun f e => f = .nx ∧ LA ns 15000 260 e) ?_ ?_
  · have wl := R.few
    simp -implicitDefEqProofs -dsimp [-wp_seq]
    refine (next_ok T (by omega) (by decide)).imp ?_
    rintro _ outs ⟨⟨q, rfl, q_0, q_1⟩, tp_T3, ho, T3⟩
    simp -implicitDefEqProofs -dsimp [putO_one ho]
    refine ⟨fun _ => ?_, fun _ => ?_⟩
    · refine (next_ok T3 (by omega) (by decide)).imp ?_
      rintro _ outs ⟨⟨n, rfl, n_0, n_1⟩, tp_T4, ho, T4⟩
      simp -implicitDefEqProofs -dsimp [putO_one ho]
      have lr : (rg 0 (120 + n)).length ≤ 180 := by
        simp [rg]
        omega
      refine ⟨by omega, ?_⟩
      refine wp_compL (XL [some (.klst (ns.map D.int))] [some (.lst (ws.map ltD)), none, none, none, none, none, none, none, none, none, none]) _ 0 [] _ ⟨tp_T4, [], T4.mono (by omega), by simp, rfl, rfl, rfl⟩ (by rw [List.length_nil]; omega) ?_ ?_
      · rintro i d acc e hd ⟨tp, ls, T, hl, ll, rfl, rfl⟩
        have hi : i < 180 := by
          have := (List.getElem?_eq_some_iff.mp hd).1
          simp [rg] at this
          omega
        rw [Nat.zero_add] at *
        simp -implicitDefEqProofs -dsimp
        refine (leaf_ok T (by omega)).imp ?_
        rintro _ outs ⟨⟨w, rfl, hw⟩, tp4, ho, T4⟩
        simp -implicitDefEqProofs -dsimp [putO_one ho]
        refine ⟨tp4, ls ++ [w], T4.mono (by omega), fun x m => ?_, by simp [ll], by simp, rfl⟩
        rcases List.mem_append.mp m with m | m
        · exact hl x m
        · rw [List.mem_singleton.mp m]
          exact hw
      · rintro acc e ⟨tp, ls, T, hl, ll, rfl, rfl⟩
        have R2 := R.leaves hl
        have e10 : (rg 0 (120 + n)).length ≤ 180 := by simp [rg]; omega
        rw [Nat.zero_add] at ll T
        simp -implicitDefEqProofs -dsimp [ll]
        refine ⟨by omega, tp, ws ++ ls, T.mono (by omega), R2.mono (by omega), ?_⟩
        rw [List.map_append]
    · exact ⟨tp_T3, ws, T3.mono (by omega), R.mono (by omega), rfl⟩
  rintro _ _ ⟨rfl, tp, ws, T, R, rfl⟩
  obtain ⟨hw, ⟨ds, hr⟩, hl⟩ := R
  obtain ⟨ts, o1, rfl, e1, d1⟩ := tree_of hw hr
  clear hr e1
  simp -implicitDefEqProofs -dsimp [-wp_seq]
  (first | rw [wp_seq] | (show Wq noE _ _; rw [wp_seq]))
  simp -implicitDefEqProofs -dsimp [-wp_seq]
  refine (reading o1 d1 (by omega)).imp ?_
  rintro _ _ rfl
  simp -implicitDefEqProofs -dsimp [-wp_seq]
  (first | rw [wp_seq] | (show Wq noE _ _; rw [wp_seq]))
  simp -implicitDefEqProofs -dsimp [-wp_seq]
  refine (text_ok T (by omega) (by omega) hw).imp ?_
  rintro _ outs ⟨⟨t, rfl, ht, tl⟩, tp2, ho, T2⟩
  simp -implicitDefEqProofs -dsimp [-wp_seq, putO_one ho]
  (first | rw [wp_seq] | (show Wq noE _ _; rw [wp_seq]))
  simp -implicitDefEqProofs -dsimp [-wp_seq, words_const]
  refine words_is.imp ?_
  rintro _ _ rfl
  simp -implicitDefEqProofs -dsimp [-wp_seq, words_ne]
  have T3 : Tp 16000 tp2 := T2.mono (by omega)
  have lists := lists_ok o1 d1 (show t.length ≤ 300000 by omega) ht (by omega)
  (first | rw [wp_seq] | (show Wq noE _ _; rw [wp_seq]))
  simp -implicitDefEqProofs -dsimp [-wp_seq]
  refine lists.imp ?_
  rintro _ _ rfl
  simp -implicitDefEqProofs -dsimp [-wp_seq]
  (first | rw [wp_seq] | (show Wq noE _ _; rw [wp_seq]))
  simp -implicitDefEqProofs -dsimp [-wp_seq]
  refine (next_ok T3 (by omega) (by decide)).imp ?_
  rintro _ outs ⟨⟨q, rfl, q_0, q_1⟩, tp_T4, ho, T4⟩
  simp -implicitDefEqProofs -dsimp [putO_one ho]
  have eq : q = ((q.toNat : Nat) : Int) := by omega
  have hq2 : q.toNat ≤ 3 := by omega
  revert hq2 eq
  generalize q.toNat = m2
  intro eq hq2
  subst eq
  refine (tree_ok (c := 16001) (many := m2) (most := 3) T4 (by omega) (by decide) (by omega)).imp ?_
  rintro _ outs ⟨⟨ws2, rfl, R2⟩, tp5, ho, T5⟩
  obtain ⟨hw2, ⟨ds2, hr2⟩, hl2⟩ := R2
  obtain ⟨us, o2, rfl, e2, d2⟩ := tree_of hw2 hr2
  clear hr2 e2
  have d3 := dep_toks (ts := us)
  have T6 : Tp 17000 tp5 := T5.mono (by omega)
  have pe : (pre [] 0 0 ts).length = (pths [] 0 ts).length := by rw [← pre_pth (k := 0), List.length_map]
  have cell : ∀ k, k < (pths [] 0 ts).length → ∃ (p : List Int) (a b : Nat), atI ((pths [] 0 ts).map tI) (k : Int) = some (tI p) ∧ atI ((pre [] 0 0 ts).map spD) (k : Int) = some (.lst [.int (a : Int), .int (b : Int)]) ∧
      Wp (F__law_exchange [rwD ts, tI p, .lst ((toks ts).map ltD), .lst [.int (a : Int), .int (b : Int)], .lst ((toks us).map ltD)]) fun d _ => d = .bl true := fun k kl => by
    obtain ⟨x, hx⟩ : ∃ x, (pre [] 0 0 ts)[k]? = some x := ⟨_, List.getElem?_eq_getElem (by omega)⟩
    obtain ⟨R, at_⟩ := pre_top (List.mem_of_getElem? hx)
    have i1 : atI ((pths [] 0 ts).map tI) (k : Int) = some (tI x.1) := by rw [DL.atI_nat, ← pre_pth (k := 0), List.map_map, List.getElem?_map, hx]; rfl
    have i2 : atI ((pre [] 0 0 ts).map spD) (k : Int) = some (spD x) := by rw [DL.atI_nat, List.getElem?_map, hx]; rfl
    have xl := At.len at_
    have xd := At.deps at_ (vs := us)
    exact ⟨x.1, x.2.2.1, x.2.2.2, i1, i2, exchange_ok at_ (by omega) o1 o2 (by omega) (by omega) d2 (by omega)⟩
  have nos := fun (c : Nat) (tp : List D) (h : Tp c tp) (hc : c < 60000) => no_spots_ok h hc o1 (show deps ts ≤ 40 by omega) (by omega)
  have pn : ((pths [] 0 ts).map tI).length = (pths [] 0 ts).length := List.length_map ..
  have rd2 := reading o2 d2 (by omega)
  simp -implicitDefEqProofs -dsimp [-wp_seq, putO_one ho]
  (first | rw [wp_seq] | (show Wq noE _ _; rw [wp_seq]))
  clear pe
  revert lists cell nos pn
  generalize (pths [] 0 ts).map tI = PT
  generalize (pre [] 0 0 ts).map pI2 = IT
  generalize (pre [] 0 0 ts).map spD = ST
  generalize (toksL t).map tokD = TK
  generalize (pths [] 0 ts).length = np
  intro lists cell nos pn
  simp -implicitDefEqProofs -dsimp [-wp_seq]
  refine wp_forL (XK (some (.klst (ns.map D.int))) (some (.lst ((toks ts).map ltD))) (some (rwD ts)) (some (.lst PT)) (some (.lst IT)) (some (.lst ST)) (some (sd t)) (some (.lst TK)) (some (.lst ((toks us).map ltD))) 17000) _ 0 _ ⟨tp5, none, none, T6, rfl⟩ ?_ ?_
  · rintro i d e hd ⟨tp, o3, o11, T, rfl⟩
    have hd : (rg 0 ((4 : Nat) : Int))[i]? = some d := hd
    obtain ⟨hi, rfl⟩ := rg_get hd
    rw [Nat.zero_add] at *
    by_cases z : PT.length = 0
    · have z2 : PT = [] := List.eq_nil_of_length_eq_zero z
      simp -implicitDefEqProofs -dsimp [z2]
      exact ⟨tp, _, _, T.mono (by omega), rfl⟩
    · have z2 : (0 : Int) < (PT.length : Int) := by omega
      have z3 : ¬PT = [] := fun e => z (by rw [e]; rfl)
      simp -implicitDefEqProofs -dsimp [z2, z3]
      intro _
      refine (next_ok T (by omega) (by decide)).imp ?_
      rintro _ outs ⟨⟨q, rfl, q_0, q_1⟩, tp_T1, ho, T1⟩
      simp -implicitDefEqProofs -dsimp [putO_one ho]
      refine ⟨MulOk.of (m := 20) (n := 20) (show q.natAbs < 1048576 by omega) (show (60 : Int).natAbs < 1048576 by decide) (by decide), ?_⟩
      refine (next_ok T1 (by omega) (by decide)).imp ?_
      rintro _ outs ⟨⟨r, rfl, r_0, r_1⟩, tp_T2, ho, T2⟩
      simp -implicitDefEqProofs -dsimp [putO_one ho]
      refine ⟨DivOk.of (n := 20) (show (1 + (i : Int)).natAbs < 1048576 by omega) (by omega) (by decide), ?_⟩
      obtain ⟨f0, f1⟩ := fmod_range (i := (q * 60 + r).fdiv (1 + (i : Int))) (m := (PT.length : Int)) (by omega)
      obtain ⟨k, hk⟩ := Int.eq_ofNat_of_zero_le f0
      obtain ⟨p, a, b, c1, c2, c3⟩ := cell k (by omega)
      refine ⟨by omega, ?_⟩
      rw [hk]
      simp -implicitDefEqProofs -dsimp [c1, c2]
      refine c3.imp ?_
      rintro _ _ rfl
      simp -implicitDefEqProofs -dsimp
      exact ⟨tp_T2, _, _, T2.mono (by omega), rfl⟩
  · rintro e ⟨tp, o3, o11, T, rfl⟩
    have T7 : Tp 18000 tp := T.mono (by simp [rg])
    simp -implicitDefEqProofs -dsimp [-wp_seq]
    (first | rw [wp_seq] | (show Wq noE _ _; rw [wp_seq]))
    simp -implicitDefEqProofs -dsimp [-wp_seq]
    refine (nos 18000 tp T7 (by decide)).imp ?_
    rintro _ outs ⟨⟨L, rfl, hL⟩, tp8, ho, T8⟩
    simp -implicitDefEqProofs -dsimp [-wp_seq, putO_one ho]
    refine wp_forL (XN (some (.klst (ns.map D.int))) (some (.own tp8)) (some (.lst ((toks ts).map ltD))) o3 (some (rwD ts)) (some (.lst PT)) (some (.lst IT)) (some (.lst ST)) (some (sd t)) (some (.lst TK)) (some (.lst ((toks us).map ltD))) o11) _ 0 _ ⟨none, rfl⟩ ?_ ?_
    · rintro i d e hd ⟨o12, rfl⟩
      rw [List.getElem?_map] at hd
      obtain ⟨p, hp, rfl⟩ := Option.map_eq_some_iff.mp hd
      obtain ⟨hn, hl⟩ := hL p (List.mem_of_getElem? hp)
      have n1 := nowhere_item hn hl
      have n2 := nowhere_exch (us := us) hn hl
      simp -implicitDefEqProofs -dsimp
      refine n1.imp ?_
      rintro _ _ rfl
      simp -implicitDefEqProofs -dsimp
      refine rd2.imp ?_
      rintro _ _ rfl
      simp -implicitDefEqProofs -dsimp
      refine n2.imp ?_
      rintro _ _ rfl
      simp -implicitDefEqProofs -dsimp
      exact ⟨_, rfl⟩
    · rintro e ⟨o12, rfl⟩
      simp -implicitDefEqProofs -dsimp
      refine (deep_law T8 (by decide)).imp ?_
      rintro _ outs ⟨rfl, tp9, ho, T9⟩
      simp -implicitDefEqProofs -dsimp [putO_one ho]
      refine lists.imp ?_
      rintro _ _ rfl
      simp -implicitDefEqProofs -dsimp
end K03
end

theorem PySem.Challenge.cw_printstacks_k03_texts_read_to_items_with_holds : PySem.Challenge.rw_printstacks_k03_texts_read_to_items_with.Holds := by
  exact K03.hold K03.plain
