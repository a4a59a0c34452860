import PyProof.Rows.All
import HandS.ForMost
import HandS.Evl
import HandS.Exc
import HandS.ExcOwn
import HandS.TryOnly
import HandS.Wide
import HandS.IsInst
import HandS.TupAny
import HandS.HeadHook1
import HandS.Style
import HandS.WordsExc
import HandS.Gcd
import HandS.Defaults
import HandS.HeadHook2
import HandS.Head2
import HandS.HeadEnd
import HandS.CallSlots
import HandS.Small
import HandS.MakeKw
import HandS.ExcIs
import HandS.HotCalls
import KE.KExcIs
import HandS.Head3
import PySem.Challenge.RW_printstacks_k02_matrices_lead_and_come_b
set_option Elab.async false
set_option linter.all false
section
set_option maxRecDepth 100000
set_option maxHeartbeats 2000000
/-! A data layer over HandS: values as plain data, a body as a function on environments. -/
namespace DL
open PySem L2
open Evl (Ex)

/-- plain data: shared things, an owned list (own), a borrowed one (bor), an alias of a slot's own object (al) -/
inductive D where
  | non | bl (b : Bool) | int (i : Int) | str (s : Str) | ty (n : String) | ref (a : Addr)
  | tup (xs : List D) | lst (xs : List D) | klst (xs : List D) | own (xs : List D) | bor (xs : List D) | al (i : Nat)

abbrev Env := List (Option D)
structure Exn where
  cls : Str
  fs : List (Str × D)
inductive Rs (α : Type) where
  | ok (a : α) (e : Env)
  | ex (x : Exn) (e : Env)
  | no
abbrev M (α : Type) := Env → Rs α
def Rs.bind {α β : Type} (r : Rs α) (f : α → M β) : Rs β := match r with
  | .ok a e => f a e
  | .ex x e => .ex x e
  | .no => .no

mutual
inductive Sh (K : PySem.W.Frag) (B : Hp) : D → V → Prop
  | non : Sh K B .non .non
  | bl (b : Bool) : Sh K B (.bl b) (.bl b)
  | int (i : Int) : Sh K B (.int i) (.int i)
  | str (s : Str) : Sh K B (.str s) (.str s)
  | ty (n : String) : Sh K B (.ty n) (.ty n)
  | ref (a : Addr) : Sh K B (.ref a) (.ref a)
  | tup {a : Addr} {vs : List V} {ds : List D} (h : SqT K B a vs) (r : Shs K B ds vs) : Sh K B (.tup ds) (.ref a)
  | lst {a : Addr} {vs : List V} {ds : List D} (h : B a = some (.lst vs)) (r : Shs K B ds vs) : Sh K B (.lst ds) (.ref a)
  | klst {a : Addr} {vs : List V} {ds : List D} (h : SqL K B a vs) (r : Shs K B ds vs) : Sh K B (.klst ds) (.ref a)
inductive Shs (K : PySem.W.Frag) (B : Hp) : List D → List V → Prop
  | nil : Shs K B [] []
  | cons {d : D} {v : V} {ds : List D} {vs : List V} (h : Sh K B d v) (r : Shs K B ds vs) : Shs K B (d :: ds) (v :: vs)
end

mutual
inductive Ow (K : PySem.W.Frag) (B H : Hp) : D → V → List Addr → Prop
  | sh {d : D} {v : V} (h : Sh K B d v) : Ow K B H d v []
  | own {a : Addr} {vs : List V} {ds : List D} {F : List Addr} (h : H a = some (.lst vs)) (n : B a = none) (r : Ows K B H ds vs F) : Ow K B H (.own ds) (.ref a) (a :: F)
  | bor {a : Addr} {vs : List V} {ds : List D} {F : List Addr} (h : H a = some (.lst vs)) (n : B a = none) (r : Ows K B H ds vs F) : Ow K B H (.bor ds) (.ref a) (a :: F)
  | exc (i : Nat) (a : Addr) : Ow K B H (.al i) (.ref a) []
inductive Ows (K : PySem.W.Frag) (B H : Hp) : List D → List V → List Addr → Prop
  | nil : Ows K B H [] [] []
  | cons {d : D} {v : V} {ds : List D} {vs : List V} {F G FG : List Addr} (h : Ow K B H d v F) (r : Ows K B H ds vs G) (e : FG = F ++ G) : Ows K B H (d :: ds) (v :: vs) FG
end

section
variable {K : PySem.W.Frag} {B B' H H' : Hp}
mutual
theorem Sh.mono (e : Ex B B') : ∀ {d : D} {v : V}, Sh K B d v → Sh K B' d v
  | _, _, .non => .non
  | _, _, .bl b => .bl b
  | _, _, .int i => .int i
  | _, _, .str s => .str s
  | _, _, .ty n => .ty n
  | _, _, .ref a => .ref a
  | _, _, .tup h r => .tup (Evl.ex_t e h) (Shs.mono e r)
  | _, _, .lst h r => .lst (e _ _ h) (Shs.mono e r)
  | _, _, .klst h r => .klst (Evl.ex_l e h) (Shs.mono e r)
theorem Shs.mono (e : Ex B B') : ∀ {ds : List D} {vs : List V}, Shs K B ds vs → Shs K B' ds vs
  | _, _, .nil => .nil
  | _, _, .cons h r => .cons (Sh.mono e h) (Shs.mono e r)
end
mutual
theorem Ow.mono (e : Ex B B') : ∀ {d : D} {v : V} {F : List Addr}, Ow K B H d v F → (∀ a ∈ F, B' a = none) → (∀ a ∈ F, ∀ o, H a = some o → H' a = some o) → Ow K B' H' d v F
  | _, _, _, .sh h, _, _ => .sh (h.mono e)
  | _, _, _, .own h n r, hb, hh => .own (hh _ List.mem_cons_self _ h) (hb _ List.mem_cons_self) (Ows.mono e r (fun a m => hb a (List.mem_cons_of_mem _ m)) fun a m => hh a (List.mem_cons_of_mem _ m))
  | _, _, _, .bor h n r, hb, hh => .bor (hh _ List.mem_cons_self _ h) (hb _ List.mem_cons_self) (Ows.mono e r (fun a m => hb a (List.mem_cons_of_mem _ m)) fun a m => hh a (List.mem_cons_of_mem _ m))
  | _, _, _, .exc i a, _, _ => .exc i a
theorem Ows.mono (e : Ex B B') : ∀ {ds : List D} {vs : List V} {F : List Addr}, Ows K B H ds vs F → (∀ a ∈ F, B' a = none) → (∀ a ∈ F, ∀ o, H a = some o → H' a = some o) → Ows K B' H' ds vs F
  | _, _, _, .nil, _, _ => .nil
  | _, _, _, .cons h r q, hb, hh => by
    subst q
    exact .cons (Ow.mono e h (fun a m => hb a (List.mem_append_left _ m)) fun a m => hh a (List.mem_append_left _ m)) (Ows.mono e r (fun a m => hb a (List.mem_append_right _ m)) fun a m => hh a (List.mem_append_right _ m)) rfl
end
mutual
/-- what is owned is not shared, and stands -/
theorem Ow.free : ∀ {d : D} {v : V} {F : List Addr}, Ow K B H d v F → ∀ a ∈ F, B a = none ∧ H a ≠ none
  | _, _, _, .sh h, _, m => nomatch m
  | _, _, _, .exc _ _, _, m => nomatch m
  | _, _, _, .own h n r, a, m => by
    rcases List.mem_cons.mp m with e | m
    · subst e
      exact ⟨n, by rw [h]; exact fun z => nomatch z⟩
    · exact Ows.free r a m
  | _, _, _, .bor h n r, a, m => by
    rcases List.mem_cons.mp m with e | m
    · subst e
      exact ⟨n, by rw [h]; exact fun z => nomatch z⟩
    · exact Ows.free r a m
theorem Ows.free : ∀ {ds : List D} {vs : List V} {F : List Addr}, Ows K B H ds vs F → ∀ a ∈ F, B a = none ∧ H a ≠ none
  | _, _, _, .nil, _, m => nomatch m
  | _, _, _, .cons h r q, a, m => by
    subst q
    rcases List.mem_append.mp m with m | m
    · exact Ow.free h a m
    · exact Ows.free r a m
end
theorem Ow.inv {d : D} {v : V} {F : List Addr} (h : Ow K B H d v F) : match d with
    | .own ds => ∃ a vs G, v = .ref a ∧ F = a :: G ∧ H a = some (.lst vs) ∧ B a = none ∧ Ows K B H ds vs G
    | .bor ds => ∃ a vs G, v = .ref a ∧ F = a :: G ∧ H a = some (.lst vs) ∧ B a = none ∧ Ows K B H ds vs G
    | .al _ => F = []
    | d => Sh K B d v ∧ F = [] := by
  cases h with
  | exc i a => exact rfl
  | own h n r => exact ⟨_, _, _, rfl, rfl, h, n, r⟩
  | bor h n r => exact ⟨_, _, _, rfl, rfl, h, n, r⟩
  | sh h => cases d <;> first | exact ⟨h, rfl⟩ | cases h
theorem Shs.length : ∀ {ds : List D} {vs : List V}, Shs K B ds vs → ds.length = vs.length
  | _, _, .nil => rfl
  | _, _, .cons _ r => congrArg Nat.succ (Shs.length r)
theorem Shs.get : ∀ {ds : List D} {vs : List V} {i : Nat} {d : D}, Shs K B ds vs → ds[i]? = some d → ∃ v, vs[i]? = some v ∧ Sh K B d v
  | _, _, _, _, .nil, e => by simp at e
  | _, _, 0, _, .cons h _, e => by simp at e; subst e; exact ⟨_, rfl, h⟩
  | _, _, i + 1, _, .cons _ r, e => by
    obtain ⟨v, h1, h2⟩ := Shs.get (i := i) r (by simpa using e)
    exact ⟨v, by simpa using h1, h2⟩
theorem Shs.append : ∀ {ds es : List D} {vs us : List V}, Shs K B ds vs → Shs K B es us → Shs K B (ds ++ es) (vs ++ us)
  | _, _, _, _, .nil, s => s
  | _, _, _, _, .cons h r, s => .cons h (Shs.append r s)
theorem Shs.take : ∀ {ds : List D} {vs : List V} (n : Nat), Shs K B ds vs → Shs K B (ds.take n) (vs.take n)
  | _, _, 0, _ => .nil
  | _, _, _ + 1, .nil => .nil
  | _, _, n + 1, .cons r t => .cons r (Shs.take n t)
theorem Shs.drop : ∀ {ds : List D} {vs : List V} (n : Nat), Shs K B ds vs → Shs K B (ds.drop n) (vs.drop n)
  | _, _, 0, r => r
  | _, _, _ + 1, .nil => .nil
  | _, _, n + 1, .cons _ t => Shs.drop n t
theorem Ows.length : ∀ {ds : List D} {vs : List V} {F : List Addr}, Ows K B H ds vs F → ds.length = vs.length
  | _, _, _, .nil => rfl
  | _, _, _, .cons _ r _ => congrArg Nat.succ (Ows.length r)
theorem Shs.ows : ∀ {ds : List D} {vs : List V}, Shs K B ds vs → Ows K B H ds vs []
  | _, _, .nil => .nil
  | _, _, .cons h r => .cons (.sh h) (Shs.ows r) rfl
theorem Ows.append : ∀ {ds es : List D} {vs us : List V} {F G : List Addr}, Ows K B H ds vs F → Ows K B H es us G → Ows K B H (ds ++ es) (vs ++ us) (F ++ G)
  | _, _, _, _, _, _, .nil, s => s
  | _, _, _, _, _, _, .cons h r q, s => .cons h (Ows.append r s) (by rw [q, List.append_assoc])
end

/-! ### the state of a body -/
/-- a def's entry: the arguments, what was shared, the heap, what was lent with each argument -/
structure Ctx where
  vs : List V
  B0 : Hp
  H0 : Hp
  fp0 : Nat → List Addr
  exa : Addr := 0
def Ctx.lent (c : Ctx) (a : Addr) : Prop := ∃ i, a ∈ c.fp0 i
/-- what a slot's root says of what it owns -/
def Cond (c : Ctx) (i : Nat) (d : D) (v : V) (F : List Addr) : Prop := match d with
  | .bor _ => c.vs[i]? = some v ∧ ∀ a ∈ F, a ∈ c.fp0 i ∨ c.H0 a = none
  | .al j => j = i ∧ v = .ref c.exa
  | _ => ∀ a ∈ F, c.H0 a = none
def SlotOk (K : PySem.W.Frag) (c : Ctx) (B H : Hp) (σ : L2.St) (i : Nat) (d : D) (F : List Addr) : Prop := ∃ v, σ[i]? = some (some v) ∧ Ow K B H d v F ∧ Cond c i d v F
structure StOk (K : PySem.W.Frag) (c : Ctx) (T : List (Addr × HO)) (B H : Hp) (σ : L2.St) (e : Env) : Prop where
  len : e.length = σ.length
  slots : ∃ fp : Nat → List Addr, (∀ i d, e[i]? = some (some d) → SlotOk K c B H σ i d (fp i)) ∧ (∀ i, (∀ d, e[i]? ≠ some (some d)) → fp i = []) ∧ (∀ i, (fp i).Nodup) ∧ (∀ i j a, i ≠ j → a ∈ fp i → a ∉ fp j) ∧ ∀ q ∈ T, ∀ i, q.1 ∉ fp i
  tmp : ∀ q ∈ T, c.H0 q.1 = none ∧ H q.1 = some q.2 ∧ B q.1 = none
  tnd : (T.map (·.1)).Nodup
  bh : Ex B H
  b0 : Ex c.B0 B
  keep : ∀ a o, ¬ c.lent a → c.H0 a = some o → H a = some o
  there : ∀ a, c.H0 a ≠ none → H a ≠ none
  old : ∀ a, c.H0 a ≠ none → c.B0 a = none → B a = none

theorem StOk.tmp_ne {K : PySem.W.Frag} {c : Ctx} {T : List (Addr × HO)} {B H : Hp} {σ : L2.St} {e : Env} {p : Addr} {o : HO} (s : StOk K c ((p, o) :: T) B H σ e) : ∀ q ∈ T, q.1 ≠ p := fun q m z => by
  have h := (List.nodup_cons.mp s.tnd).1
  exact h (List.mem_map.mpr ⟨q, m, z⟩)
/-- a value handed on: shared, or the very object of a slot -/
def RT (K : PySem.W.Frag) (B : Hp) (σ : L2.St) (d : D) (v : V) : Prop := match d with
  | .al i => σ[i]? = some (some v)
  | d => Sh K B d v
theorem RT.of {K : PySem.W.Frag} {B : Hp} {σ : L2.St} {d : D} {v : V} (h : Sh K B d v) : RT K B σ d v := by
  cases d <;> first | exact h | cases h
theorem RT.mono {K : PySem.W.Frag} {B B' : Hp} {σ : L2.St} {d : D} {v : V} (e : Ex B B') (h : RT K B σ d v) : RT K B' σ d v := by
  cases d <;> first | exact h | exact Sh.mono e h
/-- an exception's class, its own dict -/
def RX (K : PySem.W.Frag) (B : Hp) (x : Exn) (cls : Value) (dd : Option Addr) : Prop := cls = .ref (He.ga K x.cls) ∧
  ((x.fs = [] ∧ dd = none) ∨ ∃ p fs, dd = some p ∧ B p = some (.xd fs) ∧ fs.map (·.1) = x.fs.map (·.1) ∧ Shs K B (x.fs.map (·.2)) (fs.map (·.2)))

/-- how a computation ends -/
def Pst (K : PySem.W.Frag) (c : Ctx) (T : List (Addr × HO)) (W : WX) (σ : L2.St) (B : Hp) {α : Type} (r : Rs α) (k : α → Env → Hp → Hp → Prop) : Prop := match r with
  | .ok a e' => ∀ B' H', Ex B B' → k a e' B' H'
  | .ex x e' => ∀ cls dd B' H', Ex B B' → StOk K c T B' H' σ e' → RX K B' x cls dd → W cls dd σ H'
  | .no => False
section
variable {K : PySem.W.Frag} {c : Ctx} {W : WX} {σ : L2.St} {T : List (Addr × HO)} {B B' : Hp} {α β : Type}
theorem Pst.imp {r : Rs α} {k k' : α → Env → Hp → Hp → Prop} (h : Pst K c T W σ B r k) (i : ∀ a e B' H', Ex B B' → k a e B' H' → k' a e B' H') : Pst K c T W σ B r k' := by
  cases r with
  | ok a e => exact fun B' H' x => i a e B' H' x (h B' H' x)
  | ex x e => exact h
  | no => exact h
theorem Pst.mono {r : Rs α} {k : α → Env → Hp → Hp → Prop} (e : Ex B B') (h : Pst K c T W σ B r k) : Pst K c T W σ B' r k := by
  cases r with
  | ok a e' => exact fun B2 H' x => h B2 H' (e.trans x)
  | ex x e' => exact fun cls dd B2 H' z => h cls dd B2 H' (e.trans z)
  | no => exact h
theorem Pst.bind {r : Rs α} {g : α → M β} {k : β → Env → Hp → Hp → Prop} (h : Pst K c T W σ B (r.bind g) k) : Pst K c T W σ B r (fun a e' B' _ => Pst K c T W σ B' (g a e') k) := by
  cases r with
  | ok a e => exact fun B' _ x => Pst.mono x h
  | ex x e => exact h
  | no => exact h
end
def lift (K : PySem.W.Frag) (c : Ctx) (W : WX) (f : M D) : TE := fun σ H Q => ∃ T B e, StOk K c T B H σ e ∧ Pst K c T W σ B (f e) fun d e' B' H' => StOk K c T B' H' σ e' → ∀ v, RT K B' σ d v → Q v H'
/-- argument lists -/
def RTs (K : PySem.W.Frag) (B : Hp) (σ : L2.St) : List D → List V → Prop
  | [], vs => vs = []
  | d :: ds, vs => ∃ v us, vs = v :: us ∧ RT K B σ d v ∧ RTs K B σ ds us
def liftA (K : PySem.W.Frag) (c : Ctx) (W : WX) (f : M (List D)) : TA := fun σ H Q => ∃ T B e, StOk K c T B H σ e ∧ Pst K c T W σ B (f e) fun ds e' B' H' => StOk K c T B' H' σ e' → ∀ vs, RTs K B' σ ds vs → Q vs H'
/-- a new list, owned by nobody yet -/
def liftF (K : PySem.W.Frag) (c : Ctx) (W : WX) (f : M (List D)) : TE := fun σ H Q => ∃ T B e, StOk K c T B H σ e ∧ Pst K c T W σ B (f e) fun ds e' B' H' => ∀ p vs, StOk K c ((p, .lst vs) :: T) B' H' σ e' → Shs K B' ds vs → Q (.ref p) H'
/-- a test -/
def liftT (K : PySem.W.Frag) (c : Ctx) (W : WX) (f : M Bool) : TT := fun σ H Q => ∃ T B e, StOk K c T B H σ e ∧ Pst K c T W σ B (f e) fun b e' B' H' => StOk K c T B' H' σ e' → Q b H'
inductive Fl where
  | nx | bk | ct | rt (d : D)
def liftS (K : PySem.W.Frag) (c : Ctx) (W : WX) (f : M Fl) : TS := fun D' σ H => ∃ B e, StOk K c [] B H σ e ∧ match f e with
  | .ok .nx e' => ∀ σ' B' H', Ex B B' → StOk K c [] B' H' σ' e' → D'.nx σ' H'
  | .ok .bk e' => ∀ σ' B' H', Ex B B' → StOk K c [] B' H' σ' e' → D'.bk σ' H'
  | .ok .ct e' => ∀ σ' B' H', Ex B B' → StOk K c [] B' H' σ' e' → D'.ct σ' H'
  | .ok (.rt d) e' => ∀ v σ' B' H', Ex B B' → StOk K c [] B' H' σ' e' → Sh K B' d v → D'.rt v H'
  | .ex x e' => ∀ cls dd σ' B' H', Ex B B' → StOk K c [] B' H' σ' e' → RX K B' x cls dd → W cls dd σ' H'
  | .no => False

/-! ### combinators -/
def mret {α : Type} (a : α) : M α := fun e => .ok a e
def mbind {α β : Type} (f : M α) (g : α → M β) : M β := fun e => (f e).bind g
def mopt {α : Type} (o : Option α) : M α := fun e => match o with
  | some a => .ok a e
  | none => .no
/-- an alias seen through -/
def rs (e : Env) (d : D) : D := match d with
  | .al i => (match e[i]? with
    | some (some (.own xs)) => .own xs
    | some (some (.bor xs)) => .bor xs
    | _ => .al i)
  | d => d
/-- a name as it stands: a shared value, an alias of what the slot owns -/
def eVar (i : Nat) : M D := fun e => match e[i]? with
  | some (some (.own _)) => .ok (.al i) e
  | some (some (.bor _)) => .ok (.al i) e
  | some (some d) => .ok d e
  | _ => .no
def eC (d : D) : M D := mret d
def eBin (op : D → D → Option D) (fa fb : M D) : M D := mbind fa fun x => mbind fb fun y => fun e => mopt (op (rs e x) (rs e y)) e
def eUn (op : D → Option D) (fa : M D) : M D := mbind fa fun x => fun e => mopt (op (rs e x)) e

/-! ### the rules -/
theorem PE_of {X : Cx} {e : Expr} {t t' : TE} (h : PE X e t) (k : ∀ σ H Q, t' σ H Q → t σ H Q) : PE X e t' := ⟨fun pins s σ H Q I q => h.run pins s σ H Q I (k σ H Q q)⟩
theorem PT_of {X : Cx} {e : Expr} {t t' : TT} (h : PT X e t) (k : ∀ σ H Q, t' σ H Q → t σ H Q) : PT X e t' := ⟨fun pins s σ H Q I q => h.run pins s σ H Q I (k σ H Q q)⟩
theorem PA_of {X : Cx} {es : List Expr} {t t' : TA} (h : PA X es t) (k : ∀ σ H Q, t' σ H Q → t σ H Q) : PA X es t' := ⟨fun pos pins s σ H Q I q => h.run pos pins s σ H Q I (k σ H Q q)⟩
theorem PS_of {X : Cx} {st : Stmt} {t t' : TS} (h : PS X st t) (k : ∀ Dn σ H, t' Dn σ H → t Dn σ H) : PS X st t' := ⟨fun pins s σ H Dn I q => h.run pins s σ H Dn I (k Dn σ H q)⟩
theorem PSs_of {X : Cx} {st : List Stmt} {t t' : TS} (h : PSs X st t) (k : ∀ Dn σ H, t' Dn σ H → t Dn σ H) : PSs X st t' := ⟨fun pins s σ H Dn I q => h.run pins s σ H Dn I (k Dn σ H q)⟩

section
variable {X : Cx} {c : Ctx} {W : WX} {σ : L2.St} {B B' H H' : Hp} {e : Env}
/-- names -/
theorem de_var {x : Expr} {i : Nat} (h : PE X x (tVar i)) : PE X x (lift X.K c W (eVar i)) := by
  refine PE_of h fun σ H Q q => ?_
  obtain ⟨T, B, e, st, m⟩ := q
  obtain ⟨fp, s1, _⟩ := st.slots
  unfold eVar at m
  cases he : e[i]? with
  | none =>
    rw [he] at m
    exact m.elim
  | some o =>
    rw [he] at m
    cases o with
    | none => exact m.elim
    | some d =>
      obtain ⟨v, hv, ow, cd⟩ := s1 i d he
      refine ⟨v, hv, ?_⟩
      have ow := ow.inv
      cases d with
      | al j => exact m B H (Evl.Ex.refl B) st v (show σ[j]? = some (some v) by rw [cd.1]; exact hv)
      | own xs => exact m B H (Evl.Ex.refl B) st v hv
      | bor xs => exact m B H (Evl.Ex.refl B) st v hv
      | _ => exact m B H (Evl.Ex.refl B) st v (RT.of ow.1)
theorem de_c {x : Expr} {d : D} {v : V} (h : PE X x (tC v)) (r : ∀ B, Sh X.K B d v) : PE X x (lift X.K c W (eC d)) := by
  refine PE_of h fun σ H Q q => ?_
  obtain ⟨T, B, e, st, m⟩ := q
  exact m B H (Evl.Ex.refl B) st v (RT.of (r B))
end
end DL
end

section
set_option maxRecDepth 100000
set_option maxHeartbeats 2000000
namespace DL
open PySem L2
open Evl (Ex)

/-! ### new things -/
structure Grow (B H B' H' : Hp) : Prop where
  b : Ex B B'
  h : Ex H H'
  bh : Ex B' H'
  old : ∀ a, H a ≠ none → B' a = B a
theorem Grow.refl {B H : Hp} (e : Ex B H) : Grow B H B H := ⟨Evl.Ex.refl B, Evl.Ex.refl H, e, fun _ _ => rfl⟩
theorem Grow.trans {B H B1 H1 B2 H2 : Hp} (x : Grow B H B1 H1) (y : Grow B1 H1 B2 H2) : Grow B H B2 H2 :=
  ⟨x.b.trans y.b, x.h.trans y.h, y.bh, fun a n => (y.old a (fun z => by
    cases e : H a with
    | none => exact n e
    | some o =>
      rw [x.h a o e] at z
      cases z)).trans (x.old a n)⟩
theorem ex_none {H H' : Hp} (e : Ex H H') {a : Addr} (n : H a ≠ none) : H' a ≠ none := fun z => by
  cases q : H a with
  | none => exact n q
  | some o =>
    rw [e a o q] at z
    cases z
theorem none_ex {B H : Hp} (e : Ex B H) {a : Addr} (n : H a = none) : B a = none := by
  cases q : B a with
  | none => rfl
  | some o =>
    rw [e a o q] at n
    cases n
theorem Grow.new {B H : Hp} (e : Ex B H) {p : Addr} (o : HO) (n : H p = none) : Grow B H (upd B p o) (upd H p o) :=
  ⟨Evl.Ex.new (none_ex e n), Evl.Ex.new n, fun a u q => by
    by_cases h : a = p
    · subst h
      rw [upd_same] at q ⊢
      exact q
    · rw [upd_ne h] at q ⊢
      exact e a u q, fun a h => upd_ne fun z => h (z ▸ n)⟩
theorem Sh.grow {K : PySem.W.Frag} {B H B' H' : Hp} (g : Grow B H B' H') {d : D} {v : V} (h : Sh K B d v) : Sh K B' d v := h.mono g.b
theorem StOk.ex {K : PySem.W.Frag} {c : Ctx} {T : List (Addr × HO)} {B H : Hp} {σ : L2.St} {e : Env} (s : StOk K c T B H σ e) : Ex B H := s.bh
theorem StOk.grow {K : PySem.W.Frag} {c : Ctx} {T : List (Addr × HO)} {B H B' H' : Hp} {σ : L2.St} {e : Env} (s : StOk K c T B H σ e) (g : Grow B H B' H') : StOk K c T B' H' σ e where
  len := s.len
  slots := by
    obtain ⟨fp, h1, h2, h3, h4, h5⟩ := s.slots
    refine ⟨fp, fun i d hd => ?_, h2, h3, h4, h5⟩
    obtain ⟨v, hv, ow, cd⟩ := h1 i d hd
    exact ⟨v, hv, ow.mono g.b (fun a m => (g.old a (ow.free a m).2).trans (ow.free a m).1) (fun a m o q => g.h a o q), cd⟩
  tmp := fun q m => by
    obtain ⟨t1, t2, t3⟩ := s.tmp q m
    exact ⟨t1, g.h _ _ t2, (g.old _ (by rw [t2]; exact fun z => (nomatch z))).trans t3⟩
  tnd := s.tnd
  bh := g.bh
  b0 := s.b0.trans g.b
  keep := fun a o nl h => g.h a o (s.keep a o nl h)
  there := fun a n => ex_none g.h (s.there a n)
  old := fun a n z => (g.old a (s.there a n)).trans (s.old a n z)

/-! ### operands -/
def isSh : D → Bool
  | .own _ => false
  | .bor _ => false
  | .al _ => false
  | _ => true
/-- an operand as it stands: shared, or what its owner holds -/
def RS (K : PySem.W.Frag) (B H : Hp) (d : D) (v : V) : Prop := match d with
  | .al _ => True
  | .own ds => ∃ a vs G, v = .ref a ∧ H a = some (.lst vs) ∧ Ows K B H ds vs G
  | .bor ds => ∃ a vs G, v = .ref a ∧ H a = some (.lst vs) ∧ Ows K B H ds vs G
  | d => Sh K B d v
section
variable {K : PySem.W.Frag} {c : Ctx} {W : WX} {σ : L2.St} {B B' H H' : Hp} {e : Env} {T : List (Addr × HO)} {d : D} {v : V}
theorem RS.of (h : Sh K B d v) : RS K B H d v := by
  cases d <;> first | exact h | cases h
theorem rs_ok (st : StOk K c T B H σ e) (h : RT K B σ d v) : RS K B H (rs e d) v := by
  cases d with
  | al i =>
    obtain ⟨fp, h1, _⟩ := st.slots
    show RS K B H (match e[i]? with
      | some (some (.own xs)) => .own xs
      | some (some (.bor xs)) => .bor xs
      | _ => .al i) v
    cases he : e[i]? with
    | none => exact True.intro
    | some o => cases o with
      | none => exact True.intro
      | some d =>
        obtain ⟨u, hu, ow, _⟩ := h1 i d he
        have e2 : σ[i]? = some (some v) := h
        rw [hu] at e2
        have e3 : u = v := Option.some.inj (Option.some.inj e2)
        subst e3
        have ow := ow.inv
        cases d with
        | own xs =>
          obtain ⟨a, vs, G, q1, _, q2, _, q3⟩ := ow
          exact ⟨a, vs, G, q1, q2, q3⟩
        | bor xs =>
          obtain ⟨a, vs, G, q1, _, q2, _, q3⟩ := ow
          exact ⟨a, vs, G, q1, q2, q3⟩
        | _ => exact True.intro
  | _ => exact RS.of h
theorem Ows.shs : ∀ {ds : List D} {vs : List V} {G : List Addr}, Ows K B H ds vs G → ds.all isSh = true → Shs K B ds vs
  | _, _, _, .nil, _ => .nil
  | d :: ds, _, _, .cons h r q, a => by
    rw [List.all_cons, Bool.and_eq_true] at a
    have h2 := h.inv
    refine .cons ?_ (Ows.shs r a.2)
    cases d with
    | own _ => exact absurd a.1 Bool.false_ne_true
    | bor _ => exact absurd a.1 Bool.false_ne_true
    | al _ => exact absurd a.1 Bool.false_ne_true
    | _ => exact h2.1
end

/-! ### operations on two values -/
def OpD (K : PySem.W.Frag) (r : R2) (op : D → D → Option D) : Prop := ∀ (B H : Hp) (x y : D) (v u : V) (z : D) (Q : VK), Ex B H → RS K B H x v → RS K B H y u → op x y = some z →
  (∀ w B' H', Grow B H B' H' → Sh K B' z w → Q w H') → r v u H Q
section
variable {X : Cx} {c : Ctx} {W : WX} {a b : Expr} {fa fb : M D} {pos : Pos} {op : D → D → Option D} {r : R2}
theorem bin_conv (ok : OpD X.K r op) : ∀ σ H Q, lift X.K c W (eBin op fa fb) σ H Q → tOp r (lift X.K c W fa) (lift X.K c W fb) σ H Q := fun σ H Q q => by
  obtain ⟨T, B, e, st, m⟩ := q
  refine ⟨T, B, e, st, m.bind.imp fun x e1 B1 H1 x1 m1 st1 v rv => ?_⟩
  refine ⟨T, B1, e1, st1, m1.bind.imp fun y e2 B2 H2 x2 m2 st2 u ru => ?_⟩
  have m2 : Pst X.K c T W σ B2 (mopt (op (rs e2 x) (rs e2 y)) e2) _ := m2
  cases ho : op (rs e2 x) (rs e2 y) with
  | none =>
    rw [ho] at m2
    exact m2.elim
  | some z =>
    rw [ho] at m2
    exact ok B2 H2 _ _ v u z Q st2.ex (rs_ok st2 (rv.mono x2)) (rs_ok st2 ru) ho fun w B' H' g s => m2 B' H' g.b (st2.grow g) w (RT.of s)
theorem de_bin {o : Operator} (hr : OpR X (binaryOp o) r) (ok : OpD X.K r op) (ha : PE X a (lift X.K c W fa)) (hb : PE X b (lift X.K c W fb)) : PE X (.BinOp a o b pos) (lift X.K c W (eBin op fa fb)) :=
  PE_of (pe_op hr ha hb) (bin_conv ok)
theorem de_cmp {o : CmpOp} (hr : OpR X (compareOp o) r) (ok : OpD X.K r op) (ha : PE X a (lift X.K c W fa)) (hb : PE X b (lift X.K c W fb)) (hm : behindInMarks o b = false) : PE X (.Compare a [o] [b] pos) (lift X.K c W (eBin op fa fb)) :=
  PE_of (pe_cmpR hr ha hb hm) (bin_conv ok)
/-- a value as a test -/
def bOf : D → Option Bool
  | .bl b => some b
  | _ => none
def tOf (f : M D) : M Bool := mbind f fun d => mopt (bOf d)
theorem test_conv {f : M D} : ∀ σ H Q, liftT X.K c W (tOf f) σ H Q → tTest (lift X.K c W f) σ H Q := fun σ H Q q => by
  obtain ⟨T, B, e, st, m⟩ := q
  refine ⟨T, B, e, st, m.bind.imp fun d e1 B1 H1 x1 m1 st1 v rv => ?_⟩
  have m1 : Pst X.K c T W σ B1 (mopt (bOf d) e1) _ := m1
  cases d with
  | bl b =>
    cases rv
    exact ⟨b, rfl, m1 B1 H1 (Evl.Ex.refl _) st1⟩
  | _ => exact m1.elim
theorem dt_cmp {o : CmpOp} (hr : OpR X (compareOp o) r) (ok : OpD X.K r op) (ha : PE X a (lift X.K c W fa)) (hb : PE X b (lift X.K c W fb)) (hm : behindInMarks o b = false) : PT X (.Compare a [o] [b] pos) (liftT X.K c W (tOf (eBin op fa fb))) :=
  PT_of (pt_cmpR hr ha hb hm) fun σ H Q q => bin_conv ok σ H _ (test_conv σ H Q q)
theorem dt_val {x : Expr} {f : M D} (h : PE X x (lift X.K c W f)) (he : ∀ whole, isTrue x X.env whole = (do let v ← whole; standAt x.pos; holding [v] (truthy v)) := by intro _; rfl) : PT X x (liftT X.K c W (tOf f)) :=
  PT_of (pt_val h he) fun σ H Q q => test_conv σ H Q q
end

/-! #### ints -/
def dInt2 (f : Int → Int → Option D) : D → D → Option D
  | .int i, .int j => f i j
  | _, _ => none
theorem dInt2_some {f : Int → Int → Option D} {x y z : D} (h : dInt2 f x y = some z) : ∃ i j, x = .int i ∧ y = .int j ∧ f i j = some z := by
  cases x with
  | int i => cases y with
    | int j => exact ⟨i, j, rfl, rfl, h⟩
    | _ => cases h
  | _ => cases h
section
variable {K : PySem.W.Frag}
theorem ok_int0 {g : Int → Int → V} {f : Int → Int → D} (hg : ∀ i j B, Sh K B (f i j) (g i j)) : OpD K (rI0 g) (dInt2 fun i j => some (f i j)) := by
  intro B H x y v u z Q e rx ry ho k
  obtain ⟨i, j, rfl, rfl, q⟩ := dInt2_some ho
  cases q
  cases (show Sh K B (.int i) v from rx)
  cases (show Sh K B (.int j) u from ry)
  exact ⟨i, j, rfl, rfl, k _ B H (Grow.refl e) (hg i j B)⟩
theorem ok_intC {C : Int → Int → Prop} {g : Int → Int → V} {f : Int → Int → D} {P : Int → Int → Prop} [∀ i j, Decidable (P i j)] (hc : ∀ i j, P i j → C i j) (hg : ∀ i j B, Sh K B (f i j) (g i j)) : OpD K (rI C g) (dInt2 fun i j => if P i j then some (f i j) else none) := by
  intro B H x y v u z Q e rx ry ho k
  obtain ⟨i, j, rfl, rfl, q⟩ := dInt2_some ho
  cases (show Sh K B (.int i) v from rx)
  cases (show Sh K B (.int j) u from ry)
  by_cases h : P i j
  · rw [if_pos h] at q
    cases q
    exact ⟨i, j, rfl, rfl, hc i j h, k _ B H (Grow.refl e) (hg i j B)⟩
  · rw [if_neg h] at q
    cases q
end
/-- the operations on ints -/
abbrev dSub : D → D → Option D := dInt2 fun i j => some (.int (i - j))
abbrev dMulI : D → D → Option D := dInt2 fun i j => if i.natAbs.log2 + j.natAbs.log2 < 1000000 then some (.int (i * j)) else none
abbrev dDiv : D → D → Option D := dInt2 fun i j => if j ≠ 0 ∧ j.natAbs.log2 < 9000 then some (.int (i.fdiv j)) else none
abbrev dMod : D → D → Option D := dInt2 fun i j => if j ≠ 0 then some (.int (i.fmod j)) else none
abbrev dLt : D → D → Option D := dInt2 fun i j => some (.bl (decide (i < j)))
abbrev dLe : D → D → Option D := dInt2 fun i j => some (.bl (decide (i ≤ j)))
abbrev dGt : D → D → Option D := dInt2 fun i j => some (.bl (decide (j < i)))
abbrev dGe : D → D → Option D := dInt2 fun i j => some (.bl (decide (j ≤ i)))
def CDivA (i j : Int) : Prop := j ≠ 0 ∧ j.natAbs.log2 < 9000
theorem op_fdivA {X : Cx} : OpR X (binaryOp .FloorDiv) (rI CDivA fun i j => .int (i.fdiv j)) := opI fun _ _ _ _ _ _ _ hc q => PyProof.Rows.floordiv_int hc.1 q (.inl (PyProof.noPylong_of_log2 hc.2))
section
variable {K : PySem.W.Frag}
theorem ok_sub : OpD K (rI0 fun i j => .int (i - j)) dSub := ok_int0 fun _ _ _ => .int _
theorem ok_mulI : OpD K (rI CMulW fun i j => .int (i * j)) dMulI := ok_intC (fun _ _ h => h) fun _ _ _ => .int _
theorem ok_div : OpD K (rI CDivA fun i j => .int (i.fdiv j)) dDiv := ok_intC (fun _ _ h => h) fun _ _ _ => .int _
theorem ok_mod : OpD K (rI (fun _ j => j ≠ 0) fun i j => .int (i.fmod j)) dMod := ok_intC (fun _ _ h => h) fun _ _ _ => .int _
theorem ok_lt : OpD K (rI0 fun i j => .bl (decide (i < j))) dLt := ok_int0 fun _ _ _ => .bl _
theorem ok_le : OpD K (rI0 fun i j => .bl (decide (i ≤ j))) dLe := ok_int0 fun _ _ _ => .bl _
theorem ok_gt : OpD K (rI0 fun i j => .bl (decide (j < i))) dGt := ok_int0 fun _ _ _ => .bl _
theorem ok_ge : OpD K (rI0 fun i j => .bl (decide (j ≤ i))) dGe := ok_int0 fun _ _ _ => .bl _
end
end DL
end

section
set_option maxRecDepth 100000
set_option maxHeartbeats 2000000
namespace DL
open PySem L2
open Evl (Ex)

/-! #### sequences -/
/-- a list's items, the list one that can be joined | any sequence's items -/
def mls : D → Option (List D)
  | .lst xs => some xs
  | .own xs => if (xs.all isSh) = true then some xs else none
  | .bor xs => if (xs.all isSh) = true then some xs else none
  | _ => none
def lsq : D → Option (List D)
  | .lst xs => some xs
  | .klst xs => some xs
  | .own xs => if (xs.all isSh) = true then some xs else none
  | .bor xs => if (xs.all isSh) = true then some xs else none
  | _ => none
def tsq : D → Option (List D)
  | .tup xs => some xs
  | _ => none
section
variable {K : PySem.W.Frag} {B H : Hp} {d : D} {v : V} {xs : List D}
theorem mls_ok (e : Ex B H) (h : RS K B H d v) (m : mls d = some xs) : ∃ a vs, v = .ref a ∧ H a = some (.lst vs) ∧ Shs K B xs vs := by
  cases d with
  | lst ys =>
    cases (show some ys = some xs from m)
    cases (show Sh K B (.lst xs) v from h) with
    | lst h1 r => exact ⟨_, _, rfl, e _ _ h1, r⟩
  | own ys =>
    obtain ⟨a, vs, G, q1, q2, q3⟩ := h
    by_cases hs : (ys.all isSh) = true
    · rw [mls, if_pos hs] at m
      cases m
      exact ⟨a, vs, q1, q2, q3.shs hs⟩
    · rw [mls, if_neg hs] at m
      cases m
  | bor ys =>
    obtain ⟨a, vs, G, q1, q2, q3⟩ := h
    by_cases hs : (ys.all isSh) = true
    · rw [mls, if_pos hs] at m
      cases m
      exact ⟨a, vs, q1, q2, q3.shs hs⟩
    · rw [mls, if_neg hs] at m
      cases m
  | _ => cases m
theorem lsq_ok (e : Ex B H) (h : RS K B H d v) (m : lsq d = some xs) : ∃ a vs, v = .ref a ∧ SqL K H a vs ∧ Shs K B xs vs := by
  cases d with
  | lst ys =>
    obtain ⟨a, vs, q1, q2, q3⟩ := mls_ok e h (show mls (.lst ys) = some xs from m)
    exact ⟨a, vs, q1, SqL.of q2, q3⟩
  | klst ys =>
    cases (show some ys = some xs from m)
    cases (show Sh K B (.klst xs) v from h) with
    | klst h1 r => exact ⟨_, _, rfl, Evl.ex_l e h1, r⟩
  | own ys =>
    obtain ⟨a, vs, q1, q2, q3⟩ := mls_ok e h (show mls (.own ys) = some xs from m)
    exact ⟨a, vs, q1, SqL.of q2, q3⟩
  | bor ys =>
    obtain ⟨a, vs, q1, q2, q3⟩ := mls_ok e h (show mls (.bor ys) = some xs from m)
    exact ⟨a, vs, q1, SqL.of q2, q3⟩
  | _ => cases m
theorem tsq_ok (e : Ex B H) (h : RS K B H d v) (m : tsq d = some xs) : ∃ a vs, v = .ref a ∧ SqT K H a vs ∧ Shs K B xs vs := by
  cases d with
  | tup ys =>
    cases (show some ys = some xs from m)
    cases (show Sh K B (.tup xs) v from h) with
    | tup h1 r => exact ⟨_, _, rfl, Evl.ex_t e h1, r⟩
  | _ => cases m
theorem line_ok {n : Nat} (h : n ≤ 1000000) : n ≤ sizeLine := Nat.le_trans h (by decide)
end

/-! #### + -/
def dAddSeq (x y : D) : Option D := match x, y with
  | .tup xs, .tup ys => if xs.length + ys.length ≤ 1000000 then some (.tup (xs ++ ys)) else none
  | x, y => (mls x).bind fun xs => (mls y).bind fun ys => if xs.length + ys.length ≤ 1000000 then some (.lst (xs ++ ys)) else none
def dAdd (x y : D) : Option D := match x, y with
  | .int i, .int j => some (.int (i + j))
  | .str s, .str t => if s.length + t.length ≤ 1000000 then some (.str (s ++ t)) else none
  | x, y => dAddSeq x y
def rAddAll (K : PySem.W.Frag) : R2 := fun x y H Q =>
  rI0 (fun i j => .int (i + j)) x y H Q ∨ (∃ i j, x = .str i ∧ y = .str j ∧ i.length + j.length ≤ sizeLine ∧ Q (.str (i ++ j)) H) ∨ rCat x y H Q ∨ rCatA K x y H Q
theorem op_addAll {X : Cx} : OpR X (binaryOp .Add) (rAddAll X.K) := op_add.or (op_add_str.or (op_cat.or op_catA))
theorem ok_addSeq {K : PySem.W.Frag} {B H : Hp} {x y : D} {v u : V} {z : D} {Q : VK} (e : Ex B H) (rx : RS K B H x v) (ry : RS K B H y u) (ho : dAddSeq x y = some z)
    (k : ∀ w B' H', Grow B H B' H' → Sh K B' z w → Q w H') : rCat v u H Q ∨ rCatA K v u H Q := by
  have lists : ∀ x y, RS K B H x v → RS K B H y u → ((mls x).bind fun xs => (mls y).bind fun ys => if xs.length + ys.length ≤ 1000000 then some (D.lst (xs ++ ys)) else none) = some z → rCat v u H Q := fun x y rx ry ho => by
    cases hx : mls x with
    | none =>
      rw [hx] at ho
      cases ho
    | some xs => cases hy : mls y with
      | none =>
        rw [hx, hy] at ho
        cases ho
      | some ys =>
        rw [hx, hy] at ho
        have ho : (if xs.length + ys.length ≤ 1000000 then some (D.lst (xs ++ ys)) else none) = some z := ho
        by_cases hl : xs.length + ys.length ≤ 1000000
        · rw [if_pos hl] at ho
          cases ho
          obtain ⟨a, vs, rfl, h1, r1⟩ := mls_ok e rx hx
          obtain ⟨b, us, rfl, h2, r2⟩ := mls_ok e ry hy
          refine ⟨a, b, vs, us, rfl, rfl, h1, h2, by rw [← r1.length, ← r2.length]; exact line_ok hl, fun p hp => ?_⟩
          have g := Grow.new e (.lst (vs ++ us)) hp
          exact k _ _ _ g (.lst upd_same ((r1.append r2).mono g.b))
        · rw [if_neg hl] at ho
          cases ho
  unfold dAddSeq at ho
  split at ho
  · rename_i xs ys
    by_cases hl : xs.length + ys.length ≤ 1000000
    · rw [if_pos hl] at ho
      cases ho
      obtain ⟨a, vs, rfl, h1, r1⟩ := tsq_ok e rx (show tsq (.tup xs) = some xs from rfl)
      obtain ⟨b, us, rfl, h2, r2⟩ := tsq_ok e ry (show tsq (.tup ys) = some ys from rfl)
      refine .inr ⟨a, b, vs, us, rfl, rfl, h1, h2, by rw [← r1.length, ← r2.length]; exact line_ok hl, fun z => ?_, fun _ z => ?_, fun _ _ p hp => ?_⟩
      · subst z
        cases r1
        rw [List.nil_append] at k
        refine k _ B H (Grow.refl e) ?_
        exact (show Sh K B (.tup ys) (.ref b) from ry)
      · subst z
        cases r2
        rw [List.append_nil] at k
        refine k _ B H (Grow.refl e) ?_
        exact (show Sh K B (.tup xs) (.ref a) from rx)
      · have g := Grow.new e (.tup (vs ++ us)) hp
        exact k _ _ _ g (.tup (SqT.of upd_same) ((r1.append r2).mono g.b))
    · rw [if_neg hl] at ho
      cases ho
  · exact .inl (lists _ _ rx ry ho)
theorem ok_add {K : PySem.W.Frag} : OpD K (rAddAll K) dAdd := by
  intro B H x y v u z Q e rx ry ho k
  unfold dAdd at ho
  split at ho
  · rename_i i j
    cases ho
    cases (show Sh K B (.int i) v from rx)
    cases (show Sh K B (.int j) u from ry)
    exact .inl ⟨i, j, rfl, rfl, k _ B H (Grow.refl e) (.int _)⟩
  · rename_i i j
    cases (show Sh K B (.str i) v from rx)
    cases (show Sh K B (.str j) u from ry)
    by_cases hl : i.length + j.length ≤ 1000000
    · rw [if_pos hl] at ho
      cases ho
      exact .inr (.inl ⟨i, j, rfl, rfl, line_ok hl, k _ B H (Grow.refl e) (.str _)⟩)
    · rw [if_neg hl] at ho
      cases ho
  · rcases ok_addSeq e rx ry ho k with h | h
    · exact .inr (.inr (.inl h))
    · exact .inr (.inr (.inr h))

/-! #### == -/
mutual
def toPy : D → Option PyData
  | .non => some .none
  | .bl b => some (.bool b)
  | .int i => some (.int i)
  | .str s => some (.str s)
  | .tup xs => (toPys xs).map .tuple
  | .lst xs => (toPys xs).map .list
  | .klst xs => (toPys xs).map .list
  | _ => none
def toPys : List D → Option (List PyData)
  | [] => some []
  | x :: xs => (toPy x).bind fun d => (toPys xs).map (d :: ·)
end
mutual
theorem toPy_ok {K : PySem.W.Frag} {B : Hp} : ∀ (d : D) (v : V) (p : PyData), Sh K B d v → toPy d = some p → Dp K B v p
  | .non, _, _, h, e => by cases h; cases e; exact .non
  | .bl b, _, _, h, e => by cases h; cases e; exact .bl b
  | .int i, _, _, h, e => by cases h; cases e; exact .int i
  | .str s, _, _, h, e => by cases h; cases e; exact .str s
  | .tup xs, _, p, h, e => by
    cases h with
    | tup h1 r =>
      cases q : toPys xs with
      | none =>
        rw [toPy, q] at e
        cases e
      | some ps =>
        rw [toPy, q] at e
        cases e
        exact .tup h1 (toPys_ok xs _ ps r q)
  | .lst xs, _, p, h, e => by
    cases h with
    | lst h1 r =>
      cases q : toPys xs with
      | none =>
        rw [toPy, q] at e
        cases e
      | some ps =>
        rw [toPy, q] at e
        cases e
        exact .lst (SqL.of h1) (toPys_ok xs _ ps r q)
  | .klst xs, _, p, h, e => by
    cases h with
    | klst h1 r =>
      cases q : toPys xs with
      | none =>
        rw [toPy, q] at e
        cases e
      | some ps =>
        rw [toPy, q] at e
        cases e
        exact .lst h1 (toPys_ok xs _ ps r q)
  | .ty _, _, _, _, e => by cases e
  | .ref _, _, _, _, e => by cases e
  | .own _, _, _, _, e => by cases e
  | .bor _, _, _, _, e => by cases e
  | .al _, _, _, _, e => by cases e
theorem toPys_ok {K : PySem.W.Frag} {B : Hp} : ∀ (ds : List D) (vs : List V) (ps : List PyData), Shs K B ds vs → toPys ds = some ps → DpAll K B vs ps
  | [], _, _, h, e => by cases h; cases e; exact .nil
  | d :: ds, _, ps, h, e => by
    cases h with
    | cons h1 r =>
      cases q1 : toPy d with
      | none =>
        rw [toPys, q1] at e
        cases e
      | some p => cases q2 : toPys ds with
        | none =>
          rw [toPys, q1, q2] at e
          cases e
        | some qs =>
          rw [toPys, q1, q2] at e
          cases e
          exact .cons (toPy_ok d _ p h1 q1) (toPys_ok ds _ qs r q2)
end
/-- the data of an operand -/
def pyOf (d : D) : Option PyData := match d with
  | .own xs => if (xs.all isSh) = true then toPy (.lst xs) else none
  | .bor xs => if (xs.all isSh) = true then toPy (.lst xs) else none
  | d => toPy d
theorem pyOf_ok {K : PySem.W.Frag} {B H : Hp} {d : D} {v : V} {p : PyData} (e : Ex B H) (h : RS K B H d v) (q : pyOf d = some p) : Dp K H v p := by
  have lst : ∀ (xs : List D) (a : Addr) (vs : List V), H a = some (.lst vs) → Shs K B xs vs → toPy (.lst xs) = some p → Dp K H (.ref a) p := fun xs a vs h1 r q =>
    toPy_ok (.lst xs) _ p (.lst h1 (r.mono e)) q
  cases d with
  | own xs =>
    obtain ⟨a, vs, G, rfl, h1, r⟩ := h
    by_cases hs : (xs.all isSh) = true
    · rw [pyOf, if_pos hs] at q
      exact lst xs a vs h1 (r.shs hs) q
    · rw [pyOf, if_neg hs] at q
      cases q
  | bor xs =>
    obtain ⟨a, vs, G, rfl, h1, r⟩ := h
    by_cases hs : (xs.all isSh) = true
    · rw [pyOf, if_pos hs] at q
      exact lst xs a vs h1 (r.shs hs) q
    · rw [pyOf, if_neg hs] at q
      cases q
  | al i => cases q
  | _ => exact toPy_ok _ _ _ (Sh.mono e h) q
def dEqG (x y : D) : Option Bool := (pyOf x).bind fun p => (pyOf y).bind fun q => if (SeqAt.shaped p && SeqAt.shaped q) = true then some (PyData.eqv p q) else none
/-- two scalars -/
def dEqS (x y : D) : Option Bool := match x, y with
  | .int i, .int j => some (decide (i = j))
  | .str s, .str t => some (decide (s = t))
  | .bl a, .bl b => some (decide (a = b))
  | .non, .non => some true
  | .int _, .str _ => some false
  | .str _, .int _ => some false
  | .bl _, .str _ => some false
  | .str _, .bl _ => some false
  | .non, .int _ => some false
  | .int _, .non => some false
  | .non, .bl _ => some false
  | .bl _, .non => some false
  | .non, .str _ => some false
  | .str _, .non => some false
  | _, _ => none
def dEqB (x y : D) : Option Bool := match dEqS x y with
  | some b => some b
  | none => dEqG x y
def dEq (x y : D) : Option D := (dEqB x y).map .bl
def dNe (x y : D) : Option D := (dEqB x y).map fun b => .bl (!b)
theorem eqG_ok {K : PySem.W.Frag} {B H : Hp} {x y : D} {v u : V} {b : Bool} (e : Ex B H) (rx : RS K B H x v) (ry : RS K B H y u) (ho : dEqG x y = some b) :
    ∃ p q, Dp K H v p ∧ Dp K H u q ∧ SeqAt.shaped p = true ∧ SeqAt.shaped q = true ∧ b = PyData.eqv p q := by
  unfold dEqG at ho
  cases hx : pyOf x with
  | none =>
    rw [hx] at ho
    cases ho
  | some p => cases hy : pyOf y with
    | none =>
      rw [hx, hy] at ho
      cases ho
    | some q =>
      rw [hx, hy] at ho
      have ho : (if (SeqAt.shaped p && SeqAt.shaped q) = true then some (PyData.eqv p q) else none) = some b := ho
      by_cases hs : (SeqAt.shaped p && SeqAt.shaped q) = true
      · rw [if_pos hs] at ho
        cases ho
        rw [Bool.and_eq_true] at hs
        exact ⟨p, q, pyOf_ok e rx hx, pyOf_ok e ry hy, hs.1, hs.2, rfl⟩
      · rw [if_neg hs] at ho
        cases ho
theorem eqS_ok {K : PySem.W.Frag} {B H : Hp} {x y : D} {v u : V} {b : Bool} (rx : RS K B H x v) (ry : RS K B H y u) (ho : dEqS x y = some b) : scal v u = true ∧ b = decide (v = u) := by
  unfold dEqS at ho
  split at ho <;> first
    | (cases ho; done)
    | (cases ho
       have rx : Sh K B _ v := rx
       have ry : Sh K B _ u := ry
       cases rx
       cases ry
       first
         | exact ⟨rfl, (decide_eq_false (fun z => nomatch z)).symm⟩
         | exact ⟨rfl, (decide_eq_true rfl).symm⟩
         | exact ⟨rfl, by simp⟩)
theorem eqB_ok {K : PySem.W.Frag} {B H : Hp} {x y : D} {v u : V} {b : Bool} (e : Ex B H) (rx : RS K B H x v) (ry : RS K B H y u) (ho : dEqB x y = some b) :
    (scal v u = true ∧ b = decide (v = u)) ∨ ∃ p q, Dp K H v p ∧ Dp K H u q ∧ SeqAt.shaped p = true ∧ SeqAt.shaped q = true ∧ b = PyData.eqv p q := by
  unfold dEqB at ho
  cases q : dEqS x y with
  | some b' =>
    rw [q] at ho
    cases ho
    exact .inl (eqS_ok rx ry q)
  | none =>
    rw [q] at ho
    exact .inr (eqG_ok e rx ry ho)
def rEqAll (K : PySem.W.Frag) : R2 := fun x y H Q => rEq x y H Q ∨ rEqD K x y H Q
def rNeAll (K : PySem.W.Frag) : R2 := fun x y H Q => rNe x y H Q ∨ rNeD K x y H Q
theorem op_eqAll {X : Cx} (hu : X.A.units + 64 < cLine) : OpR X (compareOp .Eq) (rEqAll X.K) := op_eq.or (op_eqD hu)
theorem op_neAll {X : Cx} (hu : X.A.units + 64 < cLine) : OpR X (compareOp .NotEq) (rNeAll X.K) := op_ne.or (op_neD hu)
theorem ok_eq {K : PySem.W.Frag} : OpD K (rEqAll K) dEq := by
  intro B H x y v u z Q e rx ry ho k
  unfold dEq at ho
  cases q : dEqB x y with
  | none =>
    rw [q] at ho
    cases ho
  | some b =>
    rw [q] at ho
    cases ho
    rcases eqB_ok e rx ry q with ⟨hs, rfl⟩ | ⟨p, q', h1, h2, s1, s2, rfl⟩
    · exact .inl ⟨hs, k _ B H (Grow.refl e) (.bl _)⟩
    · exact .inr ⟨p, q', h1, h2, s1, s2, k _ B H (Grow.refl e) (.bl _)⟩
theorem ok_ne {K : PySem.W.Frag} : OpD K (rNeAll K) dNe := by
  intro B H x y v u z Q e rx ry ho k
  unfold dNe at ho
  cases q : dEqB x y with
  | none =>
    rw [q] at ho
    cases ho
  | some b =>
    rw [q] at ho
    cases ho
    rcases eqB_ok e rx ry q with ⟨hs, rfl⟩ | ⟨p, q', h1, h2, s1, s2, rfl⟩
    · exact .inl ⟨hs, k _ B H (Grow.refl e) (.bl _)⟩
    · exact .inr ⟨p, q', h1, h2, s1, s2, k _ B H (Grow.refl e) (.bl _)⟩

/-! #### is None, is True -/
def dIsB (x y : D) : Option Bool := match x, y with
  | .bl a, .bl b => some (decide (a = b))
  | .non, .non => some true
  | .al _, _ => none
  | _, .non => some false
  | _, _ => none
def dIs (x y : D) : Option D := (dIsB x y).map .bl
def dIsNot (x y : D) : Option D := (dIsB x y).map fun b => .bl (!b)
def rIsAll : R2 := fun x y H Q => (y = .non ∧ Q (.bl (decide (x = .non))) H) ∨ rIsB x y H Q
def rNotAll : R2 := fun x y H Q => (y = .non ∧ Q (.bl (!decide (x = .non))) H) ∨ rNotB x y H Q
theorem op_isAll {X : Cx} : OpR X (compareOp .Is) rIsAll := op_isN.or op_isBl
theorem op_notAll {X : Cx} : OpR X (compareOp .IsNot) rNotAll := op_notN.or op_notBl
theorem isB_ok {K : PySem.W.Frag} {B H : Hp} {x y : D} {v u : V} {b : Bool} (rx : RS K B H x v) (ry : RS K B H y u) (ho : dIsB x y = some b) :
    (u = .non ∧ b = decide (v = .non)) ∨ ∃ a a', v = .bl a ∧ u = .bl a' ∧ b = decide (a = a') := by
  cases x with
  | bl a => cases y with
    | bl a' =>
      cases ho
      cases (show Sh K B (.bl a) v from rx)
      cases (show Sh K B (.bl a') u from ry)
      exact .inr ⟨a, a', rfl, rfl, rfl⟩
    | non =>
      cases ho
      cases (show Sh K B (.bl a) v from rx)
      cases (show Sh K B .non u from ry)
      exact .inl ⟨rfl, rfl⟩
    | _ => cases ho
  | al i => cases ho
  | own xs =>
    obtain ⟨a, vs, G, rfl, _⟩ := rx
    cases y with
    | non =>
      cases ho
      cases (show Sh K B .non u from ry)
      exact .inl ⟨rfl, rfl⟩
    | _ => cases ho
  | bor xs =>
    obtain ⟨a, vs, G, rfl, _⟩ := rx
    cases y with
    | non =>
      cases ho
      cases (show Sh K B .non u from ry)
      exact .inl ⟨rfl, rfl⟩
    | _ => cases ho
  | _ => cases y with
    | non =>
      cases ho
      cases (show Sh K B .non u from ry)
      have rx : Sh K B _ v := rx
      cases rx <;> exact .inl ⟨rfl, rfl⟩
    | _ => cases ho
theorem ok_is {K : PySem.W.Frag} : OpD K rIsAll dIs := by
  intro B H x y v u z Q e rx ry ho k
  unfold dIs at ho
  cases q : dIsB x y with
  | none =>
    rw [q] at ho
    cases ho
  | some b =>
    rw [q] at ho
    cases ho
    rcases isB_ok rx ry q with ⟨h1, rfl⟩ | ⟨a, a', h1, h2, rfl⟩
    · exact .inl ⟨h1, k _ B H (Grow.refl e) (.bl _)⟩
    · exact .inr ⟨a, a', h1, h2, k _ B H (Grow.refl e) (.bl _)⟩
theorem ok_isNot {K : PySem.W.Frag} : OpD K rNotAll dIsNot := by
  intro B H x y v u z Q e rx ry ho k
  unfold dIsNot at ho
  cases q : dIsB x y with
  | none =>
    rw [q] at ho
    cases ho
  | some b =>
    rw [q] at ho
    cases ho
    rcases isB_ok rx ry q with ⟨h1, rfl⟩ | ⟨a, a', h1, h2, rfl⟩
    · exact .inl ⟨h1, k _ B H (Grow.refl e) (.bl _)⟩
    · exact .inr ⟨a, a', h1, h2, k _ B H (Grow.refl e) (.bl _)⟩
end DL
end

section
set_option maxRecDepth 100000
set_option maxHeartbeats 2000000
namespace DL
open PySem L2
open Evl (Ex)

/-! ### arguments -/
section
variable {X : Cx} {c : Ctx} {W : WX} {K : PySem.W.Frag}
theorem RTs.mono {B B' : Hp} {σ : L2.St} (e : Ex B B') : ∀ {ds : List D} {vs : List V}, RTs K B σ ds vs → RTs K B' σ ds vs
  | [], _, h => h
  | _ :: _, _, ⟨v, us, q, h, r⟩ => ⟨v, us, q, h.mono e, RTs.mono e r⟩
theorem RTs.length {B : Hp} {σ : L2.St} : ∀ {ds : List D} {vs : List V}, RTs K B σ ds vs → ds.length = vs.length
  | [], _, h => by cases (show _ = _ from h); rfl
  | _ :: _, _, ⟨v, us, q, h, r⟩ => by rw [q, List.length_cons, List.length_cons, RTs.length r]
theorem RTs.get {B : Hp} {σ : L2.St} : ∀ {ds : List D} {vs : List V} {i : Nat} {d : D}, RTs K B σ ds vs → ds[i]? = some d → ∃ v, vs[i]? = some v ∧ RT K B σ d v
  | [], _, _, _, h, e => by simp at e
  | x :: ds, _, 0, d, ⟨v, us, q, h, r⟩, e => by
    simp at e
    subst e q
    exact ⟨v, rfl, h⟩
  | x :: ds, _, i + 1, d, ⟨v, us, q, h, r⟩, e => by
    obtain ⟨u, h1, h2⟩ := RTs.get (i := i) r (by simpa using e)
    subst q
    exact ⟨u, by simpa using h1, h2⟩
theorem RTs.shs {B : Hp} {σ : L2.St} : ∀ {ds : List D} {vs : List V}, RTs K B σ ds vs → ds.all isSh = true → Shs K B ds vs
  | [], _, h, _ => by cases (show _ = _ from h); exact .nil
  | d :: ds, _, ⟨v, us, q, h, r⟩, a => by
    rw [List.all_cons, Bool.and_eq_true] at a
    subst q
    refine .cons ?_ (RTs.shs r a.2)
    cases d with
    | al i => exact absurd a.1 Bool.false_ne_true
    | _ => exact h
def aNil : M (List D) := mret []
def aCons (f : M D) (g : M (List D)) : M (List D) := mbind f fun d => mbind g fun ds => mret (d :: ds)
theorem da_nil : PA X [] (liftA X.K c W aNil) := PA_of pa_nil fun σ H Q q => by
  obtain ⟨T, B, e, st, m⟩ := q
  exact m B H (Evl.Ex.refl B) st [] rfl
theorem da_cons {x : Expr} {xs : List Expr} {f : M D} {g : M (List D)} (h : PE X x (lift X.K c W f)) (r : PA X xs (liftA X.K c W g)) (hs : starEach (x :: xs) X.env = (false, eval x X.env) :: starEach xs X.env := by rfl) : PA X (x :: xs) (liftA X.K c W (aCons f g)) :=
  PA_of (pa_cons h r hs) fun σ H Q q => by
    obtain ⟨T, B, e, st, m⟩ := q
    refine ⟨T, B, e, st, m.bind.imp fun d e1 B1 H1 x1 m1 st1 v rv => ?_⟩
    refine ⟨T, B1, e1, st1, m1.bind.imp fun ds e2 B2 H2 x2 m2 st2 us ru => ?_⟩
    exact m2 B2 H2 (Evl.Ex.refl _) st2 (v :: us) ⟨v, us, rfl, rv.mono x2, ru⟩
end

/-! ### a def as a function on data -/
structure After (B H : Hp) (L : Addr → Prop) (B' H' : Hp) : Prop where
  b : Ex B B'
  bh : Ex B' H'
  keep : ∀ a o, ¬ L a → H a = some o → H' a = some o
  there : ∀ a, H a ≠ none → H' a ≠ none
  old : ∀ a, H a ≠ none → B a = none → B' a = none
/-- what is lent comes back -/
def Outs (K : PySem.W.Frag) (H B' H' : Hp) (vs : List V) (ds : List D) (fp : Nat → List Addr) (outs : Env) (fp' : Nat → List Addr) : Prop :=
  (∀ (i : Nat) (xs : List D), ds[i]? = some (D.bor xs) → ∃ ys v, outs[i]? = some (some (.bor ys)) ∧ vs[i]? = some v ∧ Ow K B' H' (.bor ys) v (fp' i) ∧ (fp' i).Nodup ∧ ∀ a ∈ fp' i, a ∈ fp i ∨ H a = none) ∧
  ∀ i j a, i ≠ j → a ∈ fp' i → a ∉ fp' j
structure ArgsOk (K : PySem.W.Frag) (B H : Hp) (vs : List V) (ds : List D) (fp : Nat → List Addr) : Prop where
  bh : Ex B H
  len : vs.length = ds.length
  at_ : ∀ i d, ds[i]? = some d → ∃ v, vs[i]? = some v ∧ Ow K B H d v (fp i)
  out : ∀ i, ds.length ≤ i → fp i = []
  nd : ∀ i, (fp i).Nodup
  sep : ∀ i j a, i ≠ j → a ∈ fp i → a ∉ fp j
  noown : ∀ (i : Nat) (xs : List D), ds[i]? ≠ some (D.own xs)
  noal : ∀ (i j : Nat), ds[i]? ≠ some (D.al j)
def spF (K : PySem.W.Frag) (n : Nat) (F : List D → Rs D) : Sp := fun vs H Q E => ∃ B ds fp, ArgsOk K B H vs ds fp ∧ ds.length = n ∧ match F ds with
  | .ok r outs => ∀ v B' H' fp', After B H (fun a => ∃ i, a ∈ fp i) B' H' → Sh K B' r v → Outs K H B' H' vs ds fp outs fp' → Q v H'
  | .ex x outs => ∀ cls dd B' H' fp', After B H (fun a => ∃ i, a ∈ fp i) B' H' → RX K B' x cls dd → Outs K H B' H' vs ds fp outs fp' → E cls dd H'
  | .no => False
/-- lent slots stay lent -/
def borOk : List D → Env → Bool
  | [], _ => true
  | .bor _ :: ds, some (.bor _) :: e => borOk ds e
  | .bor _ :: _, _ => false
  | _ :: ds, _ :: e => borOk ds e
  | _ :: ds, [] => borOk ds []
theorem borOk_at : ∀ {ds : List D} {e : Env} {i : Nat} {xs : List D}, borOk ds e = true → ds[i]? = some (D.bor xs) → ∃ ys, e[i]? = some (some (D.bor ys))
  | [], _, _, _, _, h => by simp at h
  | d :: ds, [], 0, xs, b, h => by
    simp at h
    subst h
    exact absurd b Bool.false_ne_true
  | d :: ds, [], i + 1, xs, b, h => by
    have b2 : borOk ds [] = true := by cases d <;> first | exact b | exact absurd b Bool.false_ne_true
    obtain ⟨ys, q⟩ := borOk_at (i := i) b2 (by simpa using h)
    simp at q
  | d :: ds, o :: e, 0, xs, b, h => by
    simp at h
    subst h
    cases o with
    | none => exact absurd b Bool.false_ne_true
    | some u => cases u with
      | bor ys => exact ⟨ys, rfl⟩
      | _ => exact absurd b Bool.false_ne_true
  | d :: ds, o :: e, i + 1, xs, b, h => by
    have b2 : borOk ds e = true := by
      cases d with
      | bor zs => cases o with
        | none => exact absurd b Bool.false_ne_true
        | some u => cases u with
          | bor ys => exact b
          | _ => exact absurd b Bool.false_ne_true
      | _ => exact b
    obtain ⟨ys, q⟩ := borOk_at (i := i) b2 (by simpa using h)
    exact ⟨ys, by simpa using q⟩
/-- a body run -/
def endF (ds : List D) (r : Rs Fl) : Rs D := match r with
  | .ok (.rt d) e => if borOk ds e = true then .ok d e else .no
  | .ok .nx e => if borOk ds e = true then .ok .non e else .no
  | .ok _ _ => .no
  | .ex x e => if borOk ds e = true then .ex x e else .no
  | .no => .no
def runF (N : Nat) (g : M Fl) (ds : List D) : Rs D := endF ds (g (ds.map some ++ List.replicate (N - ds.length) none))
section
variable {K : PySem.W.Frag} {B H : Hp} {vs : List V} {ds : List D} {fp : Nat → List Addr} {N : List Str}
theorem start_ok (A : ArgsOk K B H vs ds fp) (hN : ds.length ≤ N.length) : StOk K { vs := vs, B0 := B, H0 := H, fp0 := fp } [] B H (L2.start N vs) (ds.map some ++ List.replicate (N.length - ds.length) none) where
  len := by simp [L2.start, A.len]
  slots := by
    have lt : ∀ (i : Nat) (d : D), (ds.map some ++ List.replicate (N.length - ds.length) none)[i]? = some (some d) → ds[i]? = some d := fun i d h => by
      by_cases hi : i < ds.length
      · rw [List.getElem?_append_left (by simpa using hi), List.getElem?_map] at h
        cases q : ds[i]? with
        | none =>
          rw [q] at h
          cases h
        | some u =>
          rw [q] at h
          cases h
          rfl
      · rw [List.getElem?_append_right (by simp; omega)] at h
        rw [List.getElem?_replicate] at h
        split at h <;> cases h
    refine ⟨fp, fun i d h => ?_, fun i h => ?_, A.nd, A.sep, fun a m => nomatch m⟩
    · have hd := lt i d h
      obtain ⟨v, hv, ow⟩ := A.at_ i d hd
      refine ⟨v, ?_, ow, ?_⟩
      · have hi : i < vs.length := (List.getElem?_eq_some_iff.mp hv).1
        unfold L2.start
        rw [List.getElem?_append_left (by simpa using hi), List.getElem?_map, hv] <;> rfl
      · cases d with
        | own xs => exact absurd hd (A.noown i xs)
        | al j => exact absurd hd (A.noal i j)
        | bor xs => exact ⟨hv, fun a m => .inl m⟩
        | _ =>
          have e := ow.inv.2
          rw [e]
          exact fun a m => nomatch m
    · by_cases hi : i < ds.length
      · exfalso
        refine h ds[i] ?_
        rw [List.getElem?_append_left (by simpa using hi), List.getElem?_map, List.getElem?_eq_getElem hi] <;> rfl
      · exact A.out i (by omega)
  tmp := fun a m => nomatch m
  tnd := List.nodup_nil
  bh := A.bh
  b0 := Evl.Ex.refl B
  keep := fun a o _ h => h
  there := fun a h => h
  old := fun a _ h => h
theorem after_ok {c : Ctx} {T : List (Addr × HO)} {B' H' : Hp} {σ : L2.St} {e : Env} (s : StOk K c T B' H' σ e) : After c.B0 c.H0 c.lent B' H' := ⟨s.b0, s.bh, s.keep, s.there, s.old⟩
theorem outs_ok {B' H' : Hp} {σ : L2.St} {e : Env} (A : ArgsOk K B H vs ds fp) (s : StOk K { vs := vs, B0 := B, H0 := H, fp0 := fp } [] B' H' σ e) (k : borOk ds e = true) : ∃ fp', Outs K H B' H' vs ds fp e fp' := by
  obtain ⟨gp, h1, h2, h3, h4, _⟩ := s.slots
  refine ⟨fun i => gp i, fun i xs hi => ?_, fun i j a hij hi hj => h4 i j a hij hi hj⟩
  obtain ⟨ys, hy⟩ := borOk_at k hi
  obtain ⟨v, _, ow, cd⟩ := h1 i _ hy
  exact ⟨ys, v, hy, cd.1, ow, h3 i, cd.2⟩
end
/-! ### the rule for a def -/
section
variable {P : Program} {w : World} {K : PySem.W.Frag} {mg : Str → Option Value} {base : Heap}
/-- a body's context -/
structure Bx (X : Cx) (W : WX) (k : Nat) : Prop where
  tk : Takes X W
  calm : X.calm = true
  room : Room k X.A
structure Body (X : Cx) (W : WX) (k : Nat) : Prop extends Bx X W k where
  hs : X.stack = X.env :: X.outer
  hf : X.env.frame = some X.env.locals
  po : PassesOwn (model X.prog X.w) X.A X.env X.xe
theorem fn_D {x qual : Str} {st : Stmt} {f : Addr} {fd : FuncData} {N ps : List Str} {k : Nat} {g : M Fl} (F : Fun K x qual st f fd) (S : FnScope N ps (defScope st)) (hN : ps.length ≤ N.length)
    (hb : ∀ (cdv : Value) (A : Around) (outer : List PySem.Env) (s : Shared) (H : Hp) (E : XK) (c : Ctx) (W : WX), Body (cxOf (L2.CX P w) P w K mg base N qual (defScope st) f cdv A outer s H E) W k →
      PSs (cxOf (L2.CX P w) P w K mg base N qual (defScope st) f cdv A outer s H E) (defBody st) (liftS K c W g)) :
    FnOk P w K mg base (L2.CX P w) (k + 1) f fd ps (spF K ps.length (runF N.length g)) := by
  refine F.okX S (fun vs H Q E h => ?_) (fun cdv A outer s H vs Q E hr h => ?_)
  · obtain ⟨B, ds, fp, a, hl, _⟩ := h
    rw [a.len, hl]
  · obtain ⟨B, ds, fp, a, hl, m⟩ := h
    refine ⟨_, hb cdv A outer s H E { vs := vs, B0 := B, H0 := H, fp0 := fp } (fun cls d _ H' => E cls d H') ⟨⟨takes_of rfl rfl rfl rfl, rfl, hr⟩, rfl, rfl, passes_of rfl⟩, ?_⟩
    refine ⟨B, _, start_ok a (by omega), ?_⟩
    unfold runF at m
    generalize g (ds.map some ++ List.replicate (N.length - ds.length) none) = r at m ⊢
    cases r with
    | no => exact m
    | ex y e =>
      by_cases hb : borOk ds e = true
      · rw [endF, if_pos hb] at m
        exact fun cls dd σ' B' H' x st rx => by
          obtain ⟨fp', o⟩ := outs_ok a st hb
          exact m cls dd B' H' fp' (after_ok st) rx o
      · rw [endF, if_neg hb] at m
        exact m.elim
    | ok fl e => cases fl with
      | nx =>
        by_cases hb : borOk ds e = true
        · rw [endF, if_pos hb] at m
          exact fun σ' B' H' x st => by
            obtain ⟨fp', o⟩ := outs_ok a st hb
            exact m .non B' H' fp' (after_ok st) .non o
        · rw [endF, if_neg hb] at m
          exact m.elim
      | rt d =>
        by_cases hb : borOk ds e = true
        · rw [endF, if_pos hb] at m
          exact fun v σ' B' H' x st sh => by
            obtain ⟨fp', o⟩ := outs_ok a st hb
            exact m v B' H' fp' (after_ok st) sh o
        · rw [endF, if_neg hb] at m
          exact m.elim
      | bk => exact m.elim
      | ct => exact m.elim
end

/-! ### the rule for a call -/
def isAl (j : Nat) : D → Bool
  | .al i => i == j
  | _ => false
def relab (o : Option D) (ys : List D) : Option D := match o with
  | some (.own _) => some (.own ys)
  | some (.bor _) => some (.bor ys)
  | o => o
/-- what was lent, put back -/
def putO (e : Env) (ds : List D) (outs : Env) : Env := e.mapIdx fun j o => match ds.findIdx? (isAl j) with
  | some k => (match outs[k]? with
    | some (some (.bor ys)) => relab o ys
    | _ => none)
  | none => o
/-- an argument as the def has it -/
def borOf : D → D
  | .own xs => .bor xs
  | .bor xs => .bor xs
  | _ => .own []
def rsB (e : Env) (d : D) : D := match d with
  | .al i => (match e[i]? with
    | some (some d) => borOf d
    | _ => .own [])
  | d => d
def alN : List D → Bool
  | [] => true
  | .al i :: r => !(r.any (isAl i)) && alN r
  | _ :: r => alN r
def noOwn : D → Bool
  | .own _ => false
  | _ => true
def eCall (n : Nat) (F : List D → Rs D) (fs : M (List D)) : M D := mbind fs fun ds => fun e =>
  if ds.length = n ∧ alN ds = true ∧ (ds.map (rsB e)).all noOwn = true then
    match F (ds.map (rsB e)) with
    | .ok r outs => .ok r (putO e ds outs)
    | .ex x outs => .ex x (putO e ds outs)
    | .no => .no
  else .no
theorem alN_at : ∀ {ds : List D} {i j k : Nat}, alN ds = true → ds[i]? = some (D.al k) → ds[j]? = some (D.al k) → i = j
  | [], _, _, _, _, h, _ => by simp at h
  | d :: r, 0, 0, _, _, _, _ => rfl
  | d :: r, 0, j + 1, k, a, h1, h2 => by
    simp at h1
    subst h1
    have a1 : (!(r.any (isAl k)) && alN r) = true := a
    rw [Bool.and_eq_true] at a1
    have : r.any (isAl k) = true := List.any_eq_true.mpr ⟨.al k, List.mem_of_getElem? (by simpa using h2), by simp [isAl]⟩
    rw [this] at a1
    exact absurd a1.1 Bool.false_ne_true
  | d :: r, i + 1, 0, k, a, h1, h2 => by
    simp at h2
    subst h2
    have a1 : (!(r.any (isAl k)) && alN r) = true := a
    rw [Bool.and_eq_true] at a1
    have : r.any (isAl k) = true := List.any_eq_true.mpr ⟨.al k, List.mem_of_getElem? (by simpa using h1), by simp [isAl]⟩
    rw [this] at a1
    exact absurd a1.1 Bool.false_ne_true
  | d :: r, i + 1, j + 1, k, a, h1, h2 => by
    have a2 : alN r = true := by
      cases d with
      | al m =>
        have a1 : (!(r.any (isAl m)) && alN r) = true := a
        rw [Bool.and_eq_true] at a1
        exact a1.2
      | _ => exact a
    exact congrArg Nat.succ (alN_at a2 (by simpa using h1) (by simpa using h2))
section
variable {K : PySem.W.Frag} {c : Ctx} {σ : L2.St} {B H : Hp} {e : Env} {ds : List D} {vs : List V} {T : List (Addr × HO)}
/-- what is lent with each argument -/
def lentFp (fp : Nat → List Addr) (ds : List D) : Nat → List Addr := fun k => match ds[k]? with
  | some (.al i) => fp i
  | _ => []
theorem lentFp_al {fp : Nat → List Addr} {k i : Nat} (h : ds[k]? = some (D.al i)) : lentFp fp ds k = fp i := by
  unfold lentFp
  rw [h]
theorem lentFp_mem {fp : Nat → List Addr} {k : Nat} {a : Addr} (h : a ∈ lentFp fp ds k) : ∃ i, ds[k]? = some (D.al i) ∧ a ∈ fp i := by
  unfold lentFp at h
  split at h
  · rename_i i q
    exact ⟨i, q, h⟩
  · cases h
theorem rsB_al {i j : Nat} (h : (ds.map (rsB e))[i]? = some (D.al j)) : False := by
  rw [List.getElem?_map] at h
  cases q : ds[i]? with
  | none =>
    rw [q] at h
    cases h
  | some u =>
    rw [q] at h
    have h : rsB e u = D.al j := Option.some.inj h
    cases u with
    | al k =>
      have h : (match e[k]? with
        | some (some d) => borOf d
        | _ => D.own []) = D.al j := h
      split at h
      · rename_i d _
        cases d <;> cases h
      · cases h
    | _ => cases h
theorem call_args (st : StOk K c T B H σ e) (r : RTs K B σ ds vs) (hal : alN ds = true) (hno : (ds.map (rsB e)).all noOwn = true) :
    ∃ fp, (∀ i d, e[i]? = some (some d) → SlotOk K c B H σ i d (fp i)) ∧ (∀ i, (∀ d, e[i]? ≠ some (some d)) → fp i = []) ∧ (∀ i, (fp i).Nodup) ∧ (∀ i j a, i ≠ j → a ∈ fp i → a ∉ fp j) ∧ (∀ q ∈ T, ∀ i, q.1 ∉ fp i) ∧
      ArgsOk K B H vs (ds.map (rsB e)) (lentFp fp ds) := by
  obtain ⟨fp, h1, h2, h3, h4, h5⟩ := st.slots
  refine ⟨fp, h1, h2, h3, h4, h5, ⟨st.bh, by rw [List.length_map, r.length], fun i d hd => ?_, fun i hi => ?_, fun i => ?_, fun i j a hij hi hj => ?_, fun i xs hx => ?_, fun i j hx => rsB_al hx⟩⟩
  · rw [List.getElem?_map] at hd
    cases q : ds[i]? with
    | none =>
      rw [q] at hd
      cases hd
    | some u =>
      rw [q] at hd
      have hd : rsB e u = d := Option.some.inj hd
      subst hd
      obtain ⟨v, hv, rv⟩ := r.get q
      refine ⟨v, hv, ?_⟩
      cases u with
      | al j =>
        rw [lentFp_al q]
        have nno : noOwn (rsB e (.al j)) = true := List.all_eq_true.mp hno _ (List.mem_map_of_mem (List.mem_of_getElem? q))
        have rv : σ[j]? = some (some v) := rv
        revert nno
        show noOwn (match e[j]? with
          | some (some d) => borOf d
          | _ => .own []) = true → Ow K B H (match e[j]? with
          | some (some d) => borOf d
          | _ => .own []) v (fp j)
        cases he : e[j]? with
        | none => exact fun z => absurd z Bool.false_ne_true
        | some o => cases o with
          | none => exact fun z => absurd z Bool.false_ne_true
          | some d =>
            obtain ⟨u, hu, ow, _⟩ := h1 j d he
            rw [hu] at rv
            have e3 : u = v := Option.some.inj (Option.some.inj rv)
            subst e3
            have ow := ow.inv
            cases d with
            | own xs =>
              obtain ⟨a, vs, G, rfl, q2, q3, q4, q5⟩ := ow
              rw [q2]
              exact fun _ => .bor q3 q4 q5
            | bor xs =>
              obtain ⟨a, vs, G, rfl, q2, q3, q4, q5⟩ := ow
              rw [q2]
              exact fun _ => .bor q3 q4 q5
            | _ => exact fun z => absurd z Bool.false_ne_true
      | _ =>
        have z : lentFp fp ds i = [] := by
          unfold lentFp
          rw [q]
        rw [z]
        exact .sh rv
  · have z : ds[i]? = none := List.getElem?_eq_none_iff.mpr (by simpa using hi)
    unfold lentFp
    rw [z]
  · unfold lentFp
    split
    · exact h3 _
    · exact List.nodup_nil
  · obtain ⟨p, hp, m1⟩ := lentFp_mem hi
    obtain ⟨q, hq, m2⟩ := lentFp_mem hj
    by_cases hpq : p = q
    · subst hpq
      exact hij (alN_at hal hp hq)
    · exact h4 p q a hpq m1 m2
  · have nno : noOwn (.own xs) = true := List.all_eq_true.mp hno _ (List.mem_of_getElem? hx)
    exact absurd nno Bool.false_ne_true
theorem putO_at (e : Env) (ds : List D) (outs : Env) (j : Nat) : (putO e ds outs)[j]? = (e[j]?).map fun o => match ds.findIdx? (isAl j) with
  | some k => (match outs[k]? with
    | some (some (.bor ys)) => relab o ys
    | _ => none)
  | none => o := by
  unfold putO
  rw [List.getElem?_mapIdx]
theorem findAl {j k : Nat} (h : ds.findIdx? (isAl j) = some k) : ds[k]? = some (D.al j) := by
  obtain ⟨h1, h2, _⟩ := List.findIdx?_eq_some_iff_getElem.mp h
  rw [List.getElem?_eq_getElem h1]
  generalize ds[k] = d at h2
  cases d with
  | al i =>
    have : i = j := by simpa [isAl] using h2
    rw [this]
  | _ => exact absurd h2 Bool.false_ne_true
theorem call_after (st : StOk K c T B H σ e) {fp : Nat → List Addr} (h1 : ∀ i d, e[i]? = some (some d) → SlotOk K c B H σ i d (fp i)) (h2 : ∀ i, (∀ d, e[i]? ≠ some (some d)) → fp i = []) (h3 : ∀ i, (fp i).Nodup) (h4 : ∀ i j a, i ≠ j → a ∈ fp i → a ∉ fp j) (h5 : ∀ q ∈ T, ∀ i, q.1 ∉ fp i)
    (r : RTs K B σ ds vs) (hal : alN ds = true) {B' H' : Hp} {outs : Env} {gp : Nat → List Addr} (af : After B H (fun a => ∃ i, a ∈ lentFp fp ds i) B' H') (o : Outs K H B' H' vs (ds.map (rsB e)) (lentFp fp ds) outs gp) (A : ArgsOk K B H vs (ds.map (rsB e)) (lentFp fp ds)) : StOk K c T B' H' σ (putO e ds outs) := by
  -- what an alias's slot becomes
  have back : ∀ j k d, e[j]? = some (some d) → ds.findIdx? (isAl j) = some k → ∃ xs ys v, (d = .own xs ∨ d = .bor xs) ∧ outs[k]? = some (some (.bor ys)) ∧ σ[j]? = some (some v) ∧ Ow K B' H' (.bor ys) v (gp k) ∧ (gp k).Nodup ∧ (∀ a ∈ gp k, a ∈ fp j ∨ H a = none) ∧ Cond c j d v (fp j) := fun j k d hd hk => by
    have q := findAl hk
    obtain ⟨v, hv, rv⟩ := r.get q
    have rv : σ[j]? = some (some v) := rv
    obtain ⟨u, hu, ow, cd⟩ := h1 j d hd
    rw [hu] at rv
    have e3 : u = v := Option.some.inj (Option.some.inj rv)
    subst e3
    have hq : (ds.map (rsB e))[k]? = some (rsB e (.al j)) := by rw [List.getElem?_map, q] <;> rfl
    obtain ⟨_, _, ow'⟩ := A.at_ k _ hq
    have eq : rsB e (.al j) = borOf d := by
      show (match e[j]? with
        | some (some d) => borOf d
        | _ => .own []) = _
      rw [hd]
    rw [eq] at hq
    cases d with
    | own xs =>
      obtain ⟨ys, v', o1, o2, o3, o4, o5⟩ := o.1 k xs hq
      rw [hv] at o2
      cases o2
      exact ⟨xs, ys, u, .inl rfl, o1, hu, o3, o4, fun a m => by rw [← lentFp_al (fp := fp) q]; exact o5 a m, cd⟩
    | bor xs =>
      obtain ⟨ys, v', o1, o2, o3, o4, o5⟩ := o.1 k xs hq
      rw [hv] at o2
      cases o2
      exact ⟨xs, ys, u, .inr rfl, o1, hu, o3, o4, fun a m => by rw [← lentFp_al (fp := fp) q]; exact o5 a m, cd⟩
    | _ => exact absurd hq (A.noown k [])
  -- a slot that is not lent
  have keep : ∀ j a, ds.findIdx? (isAl j) = none → a ∈ fp j → ¬ ∃ i, a ∈ lentFp fp ds i := fun j a hn hm ⟨i, hi⟩ => by
    obtain ⟨p, hp, m1⟩ := lentFp_mem hi
    by_cases hpj : p = j
    · subst hpj
      have := List.findIdx?_eq_none_iff.mp hn (.al p) (List.mem_of_getElem? hp)
      simp [isAl] at this
    · exact h4 p j a hpj m1 hm
  let nfp : Nat → List Addr := fun j => match e[j]? with
    | some (some _) => (match ds.findIdx? (isAl j) with
      | some k => gp k
      | none => fp j)
    | _ => []
  have nfp_some : ∀ j d, e[j]? = some (some d) → nfp j = (match ds.findIdx? (isAl j) with
      | some k => gp k
      | none => fp j) := fun j d h => by
    show (match e[j]? with
      | some (some _) => (match ds.findIdx? (isAl j) with
        | some k => gp k
        | none => fp j)
      | _ => []) = _
    rw [h]
  have live : ∀ j a, a ∈ nfp j → (∃ d, e[j]? = some (some d)) ∧ ((∃ k, ds.findIdx? (isAl j) = some k ∧ a ∈ gp k) ∨ (ds.findIdx? (isAl j) = none ∧ a ∈ fp j)) := fun j a m => by
    have m : a ∈ (match e[j]? with
      | some (some _) => (match ds.findIdx? (isAl j) with
        | some k => gp k
        | none => fp j)
      | _ => []) := m
    cases he : e[j]? with
    | none =>
      rw [he] at m
      cases m
    | some od => cases od with
      | none =>
        rw [he] at m
        cases m
      | some d =>
        rw [he] at m
        refine ⟨⟨d, rfl⟩, ?_⟩
        cases hk : ds.findIdx? (isAl j) with
        | none =>
          rw [hk] at m
          exact .inr ⟨rfl, m⟩
        | some k =>
          rw [hk] at m
          exact .inl ⟨k, rfl, m⟩
  have alive : ∀ j a, a ∈ fp j → H a ≠ none ∧ B a = none := fun j a m => by
    cases he : e[j]? with
    | none =>
      rw [h2 j (fun d z => by rw [he] at z; cases z)] at m
      cases m
    | some od => cases od with
      | none =>
        rw [h2 j (fun d z => by rw [he] at z; cases z)] at m
        cases m
      | some d =>
        obtain ⟨v, _, ow, _⟩ := h1 j d he
        exact ⟨(ow.free a m).2, (ow.free a m).1⟩
  have fresh0 : ∀ a, H a = none → c.H0 a = none := fun a n => by
    cases q : c.H0 a with
    | none => rfl
    | some o => exact absurd n (st.there a (by rw [q]; exact fun z => nomatch z))
  refine ⟨?_, ⟨nfp, fun j d hd => ?_, fun j hn => ?_, fun j => ?_, fun i j a hij hi hj => ?_, fun q m i hi => ?_⟩, fun q m => ?_, st.tnd, af.bh, st.b0.trans af.b, fun a o nl h => ?_, fun a n => af.there a (st.there a n), fun a n z => af.old a (st.there a n) (st.old a n z)⟩
  · unfold putO
    rw [List.length_mapIdx]
    exact st.len
  · rw [putO_at] at hd
    cases he : e[j]? with
    | none =>
      rw [he] at hd
      cases hd
    | some od =>
      rw [he] at hd
      have hd : (match ds.findIdx? (isAl j) with
        | some k => (match outs[k]? with
          | some (some (.bor ys)) => relab od ys
          | _ => none)
        | none => od) = some d := Option.some.inj hd
      cases hk : ds.findIdx? (isAl j) with
      | none =>
        rw [hk] at hd
        have hd : od = some d := hd
        subst hd
        rw [nfp_some j d he, hk]
        obtain ⟨v, hv, ow, cd⟩ := h1 j d he
        exact ⟨v, hv, ow.mono af.b (fun a m => af.old a (ow.free a m).2 (ow.free a m).1) (fun a m o q => af.keep a o (keep j a hk m) q), cd⟩
      | some k =>
        rw [hk] at hd
        cases od with
        | none =>
          exfalso
          have hd : (match outs[k]? with
            | some (some (.bor ys)) => relab none ys
            | _ => none) = some d := hd
          split at hd <;> cases hd
        | some d0 =>
          obtain ⟨xs, ys, v, hx, o1, hv, ow, nd, hf, cd⟩ := back j k d0 he hk
          rw [nfp_some j d0 he, hk]
          have hd : (match outs[k]? with
            | some (some (.bor ys)) => relab (some d0) ys
            | _ => none) = some d := hd
          rw [o1] at hd
          have hd : relab (some d0) ys = some d := hd
          have ow := ow.inv
          obtain ⟨a0, us, G, rfl, q2, q3, q4, q5⟩ := ow
          show SlotOk K c B' H' σ j d (gp k)
          rcases hx with rfl | rfl
          · cases hd
            refine ⟨.ref a0, hv, by rw [q2]; exact .own q3 q4 q5, fun a m => ?_⟩
            rcases hf a m with z | z
            · exact cd a z
            · exact fresh0 a z
          · cases hd
            refine ⟨.ref a0, hv, by rw [q2]; exact .bor q3 q4 q5, cd.1, fun a m => ?_⟩
            rcases hf a m with z | z
            · exact cd.2 a z
            · exact .inr (fresh0 a z)
  · show nfp j = []
    cases he : e[j]? with
    | none =>
      show (match e[j]? with
        | some (some _) => _
        | _ => []) = []
      rw [he]
    | some od => cases od with
      | none =>
        show (match e[j]? with
          | some (some _) => _
          | _ => []) = []
        rw [he]
      | some d =>
        rw [nfp_some j d he]
        cases hk : ds.findIdx? (isAl j) with
        | none =>
          exfalso
          refine hn d ?_
          rw [putO_at, he, hk] <;> rfl
        | some k =>
          exfalso
          obtain ⟨xs, ys, v, hx, o1, _⟩ := back j k d he hk
          rcases hx with rfl | rfl
          · refine hn (.own ys) ?_
            rw [putO_at, he, hk]
            show some (match outs[k]? with
              | some (some (.bor ys)) => relab (some (D.own xs)) ys
              | _ => none) = _
            rw [o1] <;> rfl
          · refine hn (.bor ys) ?_
            rw [putO_at, he, hk]
            show some (match outs[k]? with
              | some (some (.bor ys)) => relab (some (D.bor xs)) ys
              | _ => none) = _
            rw [o1] <;> rfl
  · cases he : e[j]? with
    | none =>
      show (match e[j]? with
        | some (some _) => (match ds.findIdx? (isAl j) with
          | some k => gp k
          | none => fp j)
        | _ => []).Nodup
      rw [he]
      exact List.nodup_nil
    | some od => cases od with
      | none =>
        show (match e[j]? with
          | some (some _) => (match ds.findIdx? (isAl j) with
            | some k => gp k
            | none => fp j)
          | _ => []).Nodup
        rw [he]
        exact List.nodup_nil
      | some d =>
        rw [nfp_some j d he]
        cases hk : ds.findIdx? (isAl j) with
        | none => exact h3 j
        | some k =>
          obtain ⟨xs, ys, v, hx, o1, hv, ow, nd, hf, cd⟩ := back j k d he hk
          exact nd
  · obtain ⟨⟨di, hdi⟩, li⟩ := live i a hi
    obtain ⟨⟨dj, hdj⟩, lj⟩ := live j a hj
    rcases li with ⟨k, hk, mk⟩ | ⟨hk, mk⟩
    · rcases lj with ⟨l, hl, ml⟩ | ⟨hl, ml⟩
      · refine o.2 k l a (fun z => ?_) mk ml
        subst z
        have q1 := findAl hk
        rw [findAl hl] at q1
        cases q1
        exact hij rfl
      · obtain ⟨xs, ys, v, hx, o1, hv, ow, nd, hf, cd⟩ := back i k di hdi hk
        rcases hf a mk with z | z
        · exact h4 i j a hij z ml
        · exact (alive j a ml).1 z
    · rcases lj with ⟨l, hl, ml⟩ | ⟨hl, ml⟩
      · obtain ⟨xs, ys, v, hx, o1, hv, ow, nd, hf, cd⟩ := back j l dj hdj hl
        rcases hf a ml with z | z
        · exact h4 i j a hij mk z
        · exact (alive i a mk).1 z
      · exact h4 i j a hij mk ml
  · obtain ⟨⟨di, hdi⟩, li⟩ := live i _ hi
    rcases li with ⟨k, hk, mk⟩ | ⟨hk, mk⟩
    · obtain ⟨xs, ys, v, hx, o1, hv, ow, nd, hf, cd⟩ := back i k di hdi hk
      rcases hf _ mk with z | z
      · exact h5 q m i z
      · rw [(st.tmp q m).2.1] at z
        cases z
    · exact h5 q m i mk
  · obtain ⟨t1, t2, t3⟩ := st.tmp q m
    refine ⟨t1, af.keep _ _ (fun ⟨i, hi⟩ => ?_) t2, af.old _ (by rw [t2]; exact fun z => (nomatch z)) t3⟩
    obtain ⟨p, hp, m1⟩ := lentFp_mem hi
    exact h5 q m p m1
  · refine af.keep a o (fun ⟨i, hi⟩ => ?_) (st.keep a o nl h)
    obtain ⟨p, hp, m1⟩ := lentFp_mem hi
    -- what is lent is the caller's loan, or new
    cases he : e[p]? with
    | none =>
      rw [h2 p (fun d z => by rw [he] at z; cases z)] at m1
      cases m1
    | some od => cases od with
      | none =>
        rw [h2 p (fun d z => by rw [he] at z; cases z)] at m1
        cases m1
      | some d =>
        obtain ⟨v, _, ow, cd⟩ := h1 p d he
        have out : c.H0 a = none → False := fun z => by
          rw [h] at z
          cases z
        cases d with
        | bor xs =>
          rcases cd.2 a m1 with z | z
          · exact nl ⟨p, z⟩
          · exact out z
        | al j =>
          rw [show fp p = [] from ow.inv] at m1
          cases m1
        | _ => exact out (cd a m1)
end
section
variable {X : Cx} {c : Ctx} {W : WX} {k kf n : Nat} {f : Addr} {fd : FuncData} {ps : List Str} {x : Str} {p pos : Pos} {e : Expr} {es : List Expr} {fs : M (List D)} {Fm : List D → Rs D}
theorem call_conv : ∀ σ H Q, lift X.K c W (eCall n Fm fs) σ H Q → tCallS (spF X.K n Fm) (WE W) (liftA X.K c W fs) σ H Q := fun σ H Q q => by
  obtain ⟨T, B, e, st, m⟩ := q
  refine ⟨T, B, e, st, m.bind.imp fun ds e1 B1 H1 x1 m1 st1 vs rv => ?_⟩
  have m1 : Pst X.K c T W σ B1 (if ds.length = n ∧ alN ds = true ∧ (ds.map (rsB e1)).all noOwn = true then
    match Fm (ds.map (rsB e1)) with
    | .ok r outs => .ok r (putO e1 ds outs)
    | .ex x outs => .ex x (putO e1 ds outs)
    | .no => .no
  else .no) _ := m1
  by_cases hc : ds.length = n ∧ alN ds = true ∧ (ds.map (rsB e1)).all noOwn = true
  · rw [if_pos hc] at m1
    obtain ⟨h1, h2, h3⟩ := hc
    obtain ⟨fp, a1, a2, a3, a4, a5, A⟩ := call_args st1 rv h2 h3
    refine ⟨B1, ds.map (rsB e1), lentFp fp ds, A, by rw [List.length_map]; exact h1, ?_⟩
    generalize Fm (ds.map (rsB e1)) = r at m1 ⊢
    cases r with
    | no => exact m1
    | ok d outs => exact fun v B' H' gp af sh o => m1 B' H' af.b (call_after st1 a1 a2 a3 a4 a5 rv h2 af o A) v (RT.of sh)
    | ex y outs => exact fun cls dd B' H' gp af rx o => m1 cls dd B' H' af.b (call_after st1 a1 a2 a3 a4 a5 rv h2 af o A) rx
  · rw [if_neg hc] at m1
    exact m1.elim
theorem de_call (b : Bx X W k) (F : FnOk X.prog X.w X.K X.mg X.base (L2.CX X.prog X.w) kf f fd ps (spF X.K n Fm)) (hk : kf ≤ k) (hg : Gl X x) (hm : X.mg x = some (.ref f)) (hp : PySem.W.keepIn X.K (.ref f) = true) (hb : Binds X.K fd ps [])
    (ha : PA X (e :: es) (liftA X.K c W fs)) (hdb : (x == ("__debug__" : Str)) = false := by decide) (he : starEach (e :: es) X.env = (false, eval e X.env) :: starEach es X.env := by rfl) (hpl : (backTo pos (starEach es X.env)).any (·.1) = false := by rfl) :
    PE X (.Call (.Name x p) (e :: es) [] pos) (lift X.K c W (eCall n Fm fs)) :=
  PE_of (pe_callS F (b.room.mono hk) hg hm hp hb (fun σ => passAt b.tk σ) ha hdb he hpl) call_conv
end
end DL
end

section
set_option maxRecDepth 100000
set_option maxHeartbeats 2000000
namespace DL
open PySem L2
open Evl (Ex)

/-! ### slots written -/
section
variable {K : PySem.W.Frag} {c : Ctx} {B H : Hp} {σ : L2.St} {e : Env}
theorem set_self {α : Type} {l : List α} {i : Nat} {a b : α} (h : (l.set i a)[i]? = some b) : b = a := by
  by_cases hi : i < l.length
  · rw [List.getElem?_set_self hi] at h
    exact (Option.some.inj h).symm
  · rw [List.getElem?_eq_none (by simpa using hi)] at h
    cases h
theorem StOk.set {T : List (Addr × HO)} (s : StOk K c T B H σ e) {i : Nat} {d : D} {v : V} (r : Sh K B d v) : StOk K c T B H (σ.set i (some v)) (e.set i (some d)) where
  len := by rw [List.length_set, List.length_set]; exact s.len
  slots := by
    obtain ⟨fp, h1, h2, h3, h4, h5⟩ := s.slots
    refine ⟨fun j => if j = i then [] else fp j, fun j u hu => ?_, fun j hn => ?_, fun j => ?_, fun j k a hjk hj hk => ?_, fun q m j hj => ?_⟩
    · dsimp only
      by_cases hj : j = i
      · subst hj
        have q := set_self hu
        cases q
        have hl : j < σ.length := by
          rw [← s.len]
          have := (List.getElem?_eq_some_iff.mp hu).1
          simpa using this
        refine ⟨v, List.getElem?_set_self hl, ?_, ?_⟩
        · rw [if_pos rfl]
          exact .sh r
        · rw [if_pos rfl]
          cases d with
          | bor xs => cases r
          | al j => cases r
          | _ => exact fun a m => (nomatch m)
      · rw [List.getElem?_set_ne (Ne.symm hj)] at hu
        obtain ⟨w, hw, ow, cd⟩ := h1 j u hu
        refine ⟨w, by rw [List.getElem?_set_ne (Ne.symm hj)]; exact hw, ?_, ?_⟩
        · rw [if_neg hj]
          exact ow
        · rw [if_neg hj]
          exact cd
    · by_cases hj : j = i
      · exact if_pos hj
      · show (if j = i then [] else fp j) = []
        rw [if_neg hj]
        exact h2 j fun u hu => hn u (by rw [List.getElem?_set_ne (Ne.symm hj)]; exact hu)
    · show (if j = i then [] else fp j).Nodup
      split
      · exact List.nodup_nil
      · exact h3 j
    · have hj : a ∈ (if j = i then [] else fp j) := hj
      have hk : a ∈ (if k = i then [] else fp k) := hk
      split at hj
      · cases hj
      · split at hk
        · cases hk
        · exact h4 j k a hjk hj hk
    · have hj : q.1 ∈ (if j = i then [] else fp j) := hj
      split at hj
      · cases hj
      · exact h5 q m j hj
  tmp := s.tmp
  tnd := s.tnd
  bh := s.bh
  b0 := s.b0
  keep := s.keep
  there := s.there
  old := s.old
/-- a new list is given to a slot -/
theorem StOk.setF {p : Addr} {vs : List V} {T : List (Addr × HO)} (s : StOk K c ((p, .lst vs) :: T) B H σ e) {i : Nat} {ds : List D} (r : Shs K B ds vs) :
    StOk K c T B H (σ.set i (some (.ref p))) (e.set i (some (.own ds))) where
  len := by rw [List.length_set, List.length_set]; exact s.len
  slots := by
    obtain ⟨fp, h1, h2, h3, h4, h5⟩ := s.slots
    obtain ⟨t1, t2, t3⟩ := s.tmp _ List.mem_cons_self
    refine ⟨fun j => if j = i ∧ i < e.length then [p] else if j = i then [] else fp j, fun j u hu => ?_, fun j hn => ?_, fun j => ?_, fun j k a hjk hj hk => ?_, fun q m j hj => ?_⟩
    · dsimp only
      by_cases hj : j = i
      · subst hj
        have q := set_self hu
        cases q
        have he : j < e.length := by
          have := (List.getElem?_eq_some_iff.mp hu).1
          simpa using this
        have hl : j < σ.length := by rw [← s.len]; exact he
        refine ⟨.ref p, List.getElem?_set_self hl, ?_, ?_⟩
        · rw [if_pos ⟨rfl, he⟩]
          exact .own t2 t3 r.ows
        · rw [if_pos ⟨rfl, he⟩]
          exact fun a m => by
            rw [List.mem_singleton.mp m]
            exact t1
      · rw [List.getElem?_set_ne (Ne.symm hj)] at hu
        obtain ⟨w, hw, ow, cd⟩ := h1 j u hu
        refine ⟨w, by rw [List.getElem?_set_ne (Ne.symm hj)]; exact hw, ?_, ?_⟩
        · rw [if_neg (fun z => hj z.1), if_neg hj]
          exact ow
        · rw [if_neg (fun z => hj z.1), if_neg hj]
          exact cd
    · show (if j = i ∧ i < e.length then [p] else if j = i then [] else fp j) = []
      by_cases hj : j = i
      · subst hj
        rw [if_neg (fun z => hn (.own ds) (List.getElem?_set_self z.2)), if_pos rfl]
      · rw [if_neg (fun z => hj z.1), if_neg hj]
        exact h2 j fun u hu => hn u (by rw [List.getElem?_set_ne (Ne.symm hj)]; exact hu)
    · show (if j = i ∧ i < e.length then [p] else if j = i then [] else fp j).Nodup
      split
      · exact List.nodup_cons.mpr ⟨by simp, List.nodup_nil⟩
      · split
        · exact List.nodup_nil
        · exact h3 j
    · have hj : a ∈ (if j = i ∧ i < e.length then [p] else if j = i then [] else fp j) := hj
      have hk : a ∈ (if k = i ∧ i < e.length then [p] else if k = i then [] else fp k) := hk
      by_cases zj : j = i ∧ i < e.length
      · rw [if_pos zj] at hj
        by_cases zk : k = i
        · exact hjk (zj.1.trans zk.symm)
        · rw [if_neg (fun z => zk z.1), if_neg zk] at hk
          rw [List.mem_singleton.mp hj] at hk
          exact h5 _ List.mem_cons_self k hk
      · rw [if_neg zj] at hj
        by_cases yj : j = i
        · rw [if_pos yj] at hj
          cases hj
        · rw [if_neg yj] at hj
          by_cases zk : k = i ∧ i < e.length
          · rw [if_pos zk] at hk
            rw [List.mem_singleton.mp hk] at hj
            exact h5 _ List.mem_cons_self j hj
          · rw [if_neg zk] at hk
            split at hk
            · cases hk
            · exact h4 j k a hjk hj hk
    · have hj : q.1 ∈ (if j = i ∧ i < e.length then [p] else if j = i then [] else fp j) := hj
      split at hj
      · exact s.tmp_ne q m (List.mem_singleton.mp hj)
      · split at hj
        · cases hj
        · exact h5 q (List.mem_cons_of_mem _ m) j hj
  tmp := fun q m => s.tmp q (List.mem_cons_of_mem _ m)
  tnd := (List.nodup_cons.mp s.tnd).2
  bh := s.bh
  b0 := s.b0
  keep := s.keep
  there := s.there
  old := s.old
/-- a slot is forgotten -/
theorem StOk.drop {T : List (Addr × HO)} (s : StOk K c T B H σ e) (i : Nat) : StOk K c T B H σ (e.set i none) where
  len := by rw [List.length_set]; exact s.len
  slots := by
    obtain ⟨fp, h1, h2, h3, h4, h5⟩ := s.slots
    have ne : ∀ {j : Nat} {u : D}, (e.set i none)[j]? = some (some u) → j ≠ i ∧ e[j]? = some (some u) := fun {j u} hu => by
      by_cases hj : j = i
      · subst hj
        have := set_self hu
        cases this
      · rw [List.getElem?_set_ne (Ne.symm hj)] at hu
        exact ⟨hj, hu⟩
    refine ⟨fun j => if j = i then [] else fp j, fun j u hu => ?_, fun j hn => ?_, fun j => ?_, fun j k a hjk hj hk => ?_, fun q m j hj => ?_⟩
    · dsimp only
      obtain ⟨hj, hu⟩ := ne hu
      obtain ⟨w, hw, ow, cd⟩ := h1 j u hu
      refine ⟨w, hw, ?_, ?_⟩
      · rw [if_neg hj]
        exact ow
      · rw [if_neg hj]
        exact cd
    · by_cases hj : j = i
      · exact if_pos hj
      · show (if j = i then [] else fp j) = []
        rw [if_neg hj]
        exact h2 j fun u hu => hn u (by rw [List.getElem?_set_ne (Ne.symm hj)]; exact hu)
    · show (if j = i then [] else fp j).Nodup
      split
      · exact List.nodup_nil
      · exact h3 j
    · have hj : a ∈ (if j = i then [] else fp j) := hj
      have hk : a ∈ (if k = i then [] else fp k) := hk
      split at hj
      · cases hj
      · split at hk
        · cases hk
        · exact h4 j k a hjk hj hk
    · have hj : q.1 ∈ (if j = i then [] else fp j) := hj
      split at hj
      · cases hj
      · exact h5 q m j hj
  tmp := s.tmp
  tnd := s.tnd
  bh := s.bh
  b0 := s.b0
  keep := s.keep
  there := s.there
  old := s.old
/-- a flat list of a slot is changed -/
theorem StOk.write {T : List (Addr × HO)} {i : Nat} {a : Addr} {d : D} {xs ys : List D} {vs us : List V} (s : StOk K c T B H σ e) (hd : e[i]? = some (some d)) (hx : d = .own xs ∨ d = .bor xs) (hv : σ[i]? = some (some (.ref a))) (hH : H a = some (.lst vs)) (hs : (ys.all isSh) = true) (r : Shs K B ys us) :
    StOk K c T B (upd H a (.lst us)) σ (e.set i (relab (some d) ys)) := by
  obtain ⟨fp, h1, h2, h3, h4, h5⟩ := s.slots
  obtain ⟨v, hv', ow, cd⟩ := h1 i d hd
  rw [hv] at hv'
  have e3 : V.ref a = v := Option.some.inj (Option.some.inj hv')
  subst e3
  have hi : i < e.length := (List.getElem?_eq_some_iff.mp hd).1
  -- the slot's own list stands at a
  have own : ∃ G, fp i = a :: G ∧ B a = none := by
    have ow := ow.inv
    rcases hx with rfl | rfl
    · obtain ⟨b, ws, G, q1, q2, q3, q4, q5⟩ := ow
      cases q1
      exact ⟨G, q2, q4⟩
    · obtain ⟨b, ws, G, q1, q2, q3, q4, q5⟩ := ow
      cases q1
      exact ⟨G, q2, q4⟩
  obtain ⟨G, hG, hB⟩ := own
  have am : a ∈ fp i := by rw [hG]; exact List.mem_cons_self
  have bh' : Ex B (upd H a (.lst us)) := fun b o q => by
    rw [upd_ne (ne_of_none q hB)]
    exact s.bh b o q
  refine ⟨by rw [List.length_set]; exact s.len, ⟨fun j => if j = i then [a] else fp j, fun j u hu => ?_, fun j hn => ?_, fun j => ?_, fun j k b hjk hj hk => ?_, fun q m j hj => ?_⟩, fun q m => ?_, s.tnd, bh', s.b0, fun b o nl h => ?_, fun b n => ?_, s.old⟩
  · dsimp only
    by_cases hj : j = i
    · subst hj
      have q := set_self hu
      rw [if_pos rfl]
      rcases hx with rfl | rfl
      · cases q
        exact ⟨.ref a, hv, .own upd_same hB r.ows, fun b m => cd b (by rw [List.mem_singleton.mp m]; exact am)⟩
      · cases q
        exact ⟨.ref a, hv, .bor upd_same hB r.ows, cd.1, fun b m => cd.2 b (by rw [List.mem_singleton.mp m]; exact am)⟩
    · rw [List.getElem?_set_ne (Ne.symm hj)] at hu
      obtain ⟨w, hw, ow', cd'⟩ := h1 j u hu
      rw [if_neg hj]
      refine ⟨w, hw, ow'.mono (Evl.Ex.refl B) (fun b m => (ow'.free b m).1) (fun b m o q => ?_), cd'⟩
      rw [upd_ne (fun (z : b = a) => h4 j i b hj m (by rw [z]; exact am))]
      exact q
  · by_cases hj : j = i
    · subst hj
      exfalso
      rcases hx with rfl | rfl
      · exact hn (.own ys) (List.getElem?_set_self hi)
      · exact hn (.bor ys) (List.getElem?_set_self hi)
    · show (if j = i then [a] else fp j) = []
      rw [if_neg hj]
      exact h2 j fun u hu => hn u (by rw [List.getElem?_set_ne (Ne.symm hj)]; exact hu)
  · show (if j = i then [a] else fp j).Nodup
    split
    · exact List.nodup_cons.mpr ⟨by simp, List.nodup_nil⟩
    · exact h3 j
  · have hj : b ∈ (if j = i then [a] else fp j) := hj
    have hk : b ∈ (if k = i then [a] else fp k) := hk
    by_cases zj : j = i
    · rw [if_pos zj] at hj
      rw [if_neg (fun z => hjk (zj.trans z.symm))] at hk
      rw [List.mem_singleton.mp hj] at hk
      exact h4 i k a (fun z => hjk (zj.trans z)) am hk
    · rw [if_neg zj] at hj
      by_cases zk : k = i
      · rw [if_pos zk] at hk
        rw [List.mem_singleton.mp hk] at hj
        exact h4 j i a zj hj am
      · rw [if_neg zk] at hk
        exact h4 j k b hjk hj hk
  · have hj : q.1 ∈ (if j = i then [a] else fp j) := hj
    split at hj
    · exact h5 q m i (by rw [List.mem_singleton.mp hj]; exact am)
    · exact h5 q m j hj
  · obtain ⟨t1, t2, t3⟩ := s.tmp q m
    refine ⟨t1, ?_, t3⟩
    rw [upd_ne (fun (z : q.1 = a) => h5 q m i (by rw [z]; exact am))]
    exact t2
  · have nb : b ≠ a := fun z => by
      subst z
      rcases hx with rfl | rfl
      · have z := cd b am
        rw [h] at z
        cases z
      · rcases cd.2 b am with z | z
        · exact nl ⟨i, z⟩
        · rw [h] at z
          cases z
    rw [upd_ne nb]
    exact s.keep b o nl h
  · by_cases hb : b = a
    · subst hb
      rw [upd_same]
      exact fun z => (nomatch z)
    · rw [upd_ne hb]
      exact s.there b n
end

/-! ### statements -/
section
variable {X : Cx} {c : Ctx} {W : WX} {K : PySem.W.Frag}
/-- how a statement ends -/
def SEnd (K : PySem.W.Frag) (c : Ctx) (W : WX) (B : Hp) (Dn : Ends) (r : Rs Fl) : Prop := match r with
  | .ok .nx e' => ∀ σ' B' H', Ex B B' → StOk K c [] B' H' σ' e' → Dn.nx σ' H'
  | .ok .bk e' => ∀ σ' B' H', Ex B B' → StOk K c [] B' H' σ' e' → Dn.bk σ' H'
  | .ok .ct e' => ∀ σ' B' H', Ex B B' → StOk K c [] B' H' σ' e' → Dn.ct σ' H'
  | .ok (.rt d) e' => ∀ v σ' B' H', Ex B B' → StOk K c [] B' H' σ' e' → Sh K B' d v → Dn.rt v H'
  | .ex x e' => ∀ cls dd σ' B' H', Ex B B' → StOk K c [] B' H' σ' e' → RX K B' x cls dd → W cls dd σ' H'
  | .no => False
theorem liftS_eq {f : M Fl} {Dn : Ends} {σ : L2.St} {H : Hp} : liftS K c W f Dn σ H ↔ ∃ B e, StOk K c [] B H σ e ∧ SEnd K c W B Dn (f e) := Iff.rfl
theorem SEnd.mono {B B' : Hp} {Dn : Ends} {r : Rs Fl} (x : Ex B B') (h : SEnd K c W B Dn r) : SEnd K c W B' Dn r := by
  cases r with
  | no => exact h
  | ex y e => exact fun cls dd σ' B2 H' z => h cls dd σ' B2 H' (x.trans z)
  | ok fl e => cases fl with
    | rt d => exact fun v σ' B2 H' z => h v σ' B2 H' (x.trans z)
    | _ => exact fun σ' B2 H' z => h σ' B2 H' (x.trans z)
/-- from an expression on -/
theorem Pst.go {α : Type} {σ : L2.St} {B : Hp} {r : Rs α} {f : α → M Fl} {Dn : Ends} (h : SEnd K c W B Dn (r.bind f)) : Pst K c [] W σ B r (fun a e' B' _ => SEnd K c W B' Dn (f a e')) := by
  cases r with
  | ok a e => exact fun B' _ x => h.mono x
  | ex y e => exact fun cls dd B' H' x => h cls dd σ B' H' x
  | no => exact h
def sNext : M Fl := mret .nx
def sSeq (a b : M Fl) : M Fl := fun e => match a e with
  | .ok .nx e' => b e'
  | r => r
theorem ds_nil : PSs X [] (liftS X.K c W sNext) := PSs_of pss_nil fun Dn σ H q => by
  obtain ⟨B, e, st, m⟩ := q
  exact m σ B H (Evl.Ex.refl B) st
theorem ds_cons {st : Stmt} {rest : List Stmt} {f g : M Fl} (h : PS X st (liftS X.K c W f)) (r : PSs X rest (liftS X.K c W g)) : PSs X (st :: rest) (liftS X.K c W (sSeq f g)) :=
  PSs_of (pss_cons h r) fun Dn σ H q => by
    obtain ⟨B, e, st, m⟩ := q
    refine ⟨B, e, st, ?_⟩
    have m : SEnd X.K c W B Dn (match f e with
      | .ok .nx e' => g e'
      | r => r) := m
    show SEnd X.K c W B _ (f e)
    generalize f e = r at m ⊢
    cases r with
    | no => exact m
    | ex y e' => exact m
    | ok fl e' => cases fl with
      | nx => exact fun σ' B' H' x st' => ⟨B', e', st', SEnd.mono x m⟩
      | _ => exact m
theorem ds_one {st : Stmt} {f : M Fl} (h : PS X st (liftS X.K c W f)) : PSs X [st] (liftS X.K c W f) := pss_one h
def sPass : M Fl := mret .nx
def sBreak : M Fl := mret .bk
def sCont : M Fl := mret .ct
theorem ds_pass {pos : Pos} : PS X (.Pass pos) (liftS X.K c W sPass) := PS_of ps_pass fun Dn σ H q => by
  obtain ⟨B, e, st, m⟩ := q
  exact m σ B H (Evl.Ex.refl B) st
theorem ds_break {pos : Pos} : PS X (.Break pos) (liftS X.K c W sBreak) := PS_of ps_break fun Dn σ H q => by
  obtain ⟨B, e, st, m⟩ := q
  exact m σ B H (Evl.Ex.refl B) st
theorem ds_cont {pos : Pos} : PS X (.Continue pos) (liftS X.K c W sCont) := PS_of ps_continue fun Dn σ H q => by
  obtain ⟨B, e, st, m⟩ := q
  exact m σ B H (Evl.Ex.refl B) st
/-- return -/
def sRet (f : M D) : M Fl := mbind f fun d => if isSh d = true then mret (.rt d) else fun _ => .no
theorem RT.sh {K : PySem.W.Frag} {B : Hp} {σ : L2.St} {d : D} {v : V} (h : RT K B σ d v) (q : isSh d = true) : Sh K B d v := by
  cases d with
  | al i => exact absurd q Bool.false_ne_true
  | _ => exact h
theorem ds_ret {x : Expr} {f : M D} {pos : Pos} (h : PE X x (lift X.K c W f)) : PS X (.Return (some x) pos) (liftS X.K c W (sRet f)) := PS_of (ps_ret h) fun Dn σ H q => by
  obtain ⟨B, e, st, m⟩ := q
  refine ⟨[], B, e, st, (Pst.go (σ := σ) (show SEnd X.K c W B Dn ((f e).bind _) from m)).imp fun d e1 B1 H1 x1 m1 st1 v rv => ?_⟩
  by_cases hs : isSh d = true
  · rw [if_pos hs] at m1
    exact m1 v σ B1 H1 (Evl.Ex.refl _) st1 (rv.sh hs)
  · rw [if_neg hs] at m1
    exact m1.elim
def sRetN : M Fl := mret (.rt .non)
theorem ds_retN {pos : Pos} : PS X (.Return none pos) (liftS X.K c W sRetN) := PS_of ps_retN fun Dn σ H q => by
  obtain ⟨B, e, st, m⟩ := q
  exact m .non σ B H (Evl.Ex.refl B) st .non
/-- if -/
def sIf (t : M Bool) (a b : M Fl) : M Fl := mbind t fun k => if k = true then a else b
theorem ds_if {x : Expr} {a b : List Stmt} {t : M Bool} {f g : M Fl} {pos : Pos} (ht : PT X x (liftT X.K c W t)) (ha : PSs X a (liftS X.K c W f)) (hb : PSs X b (liftS X.K c W g)) : PS X (.If x a b pos) (liftS X.K c W (sIf t f g)) :=
  PS_of (ps_if ht ha hb) fun Dn σ H q => by
    obtain ⟨B, e, st, m⟩ := q
    refine ⟨[], B, e, st, (Pst.go (σ := σ) (show SEnd X.K c W B Dn ((t e).bind _) from m)).imp fun k e1 B1 H1 x1 m1 st1 => ?_⟩
    cases k with
    | true => exact ⟨B1, e1, st1, m1⟩
    | false => exact ⟨B1, e1, st1, m1⟩
/-- x = e -/
def sAsg (i : Nat) (f : M D) : M Fl := mbind f fun d => if isSh d = true then fun e => .ok .nx (e.set i (some d)) else fun _ => .no
theorem asg_conv {i : Nat} {f : M D} : ∀ Dn σ H, liftS X.K c W (sAsg i f) Dn σ H → tAsg (lift X.K c W f) (gName i) Dn σ H := fun Dn σ H q => by
  obtain ⟨B, e, st, m⟩ := q
  refine ⟨[], B, e, st, (Pst.go (σ := σ) (show SEnd X.K c W B Dn ((f e).bind _) from m)).imp fun d e1 B1 H1 x1 m1 st1 v rv => ?_⟩
  by_cases hs : isSh d = true
  · rw [if_pos hs] at m1
    exact m1 (σ.set i (some v)) B1 H1 (Evl.Ex.refl _) (st1.set (rv.sh hs))
  · rw [if_neg hs] at m1
    exact m1.elim
theorem ds_asg {i : Nat} {x : Str} {y : Expr} {f : M D} {pos pos' : Pos} (hN : X.N.Nodup) (hi : X.N[i]? = some x) (hx : Loc X.env.scope x) (h : PE X y (lift X.K c W f)) (hs : swapsWith y (some (.Name x pos')) pos.line X.env = pure false := by rfl)
    (hf : X.fn x = true ∨ X.env.scope.names.lookup x = some .local := by first | exact .inl rfl | exact .inr rfl | assumption) : PS X (.Assign [.Name x pos'] y pos) (liftS X.K c W (sAsg i f)) := PS_of (ps_set hN hi hx h hs hf) asg_conv
/-- x = a new list, which x owns -/
def sAsgF (i : Nat) (f : M (List D)) : M Fl := mbind f fun ds => fun e => .ok .nx (e.set i (some (.own ds)))
theorem asgF_conv {i : Nat} {f : M (List D)} : ∀ Dn σ H, liftS X.K c W (sAsgF i f) Dn σ H → tAsg (liftF X.K c W f) (gName i) Dn σ H := fun Dn σ H q => by
  obtain ⟨B, e, st, m⟩ := q
  refine ⟨[], B, e, st, (Pst.go (σ := σ) (show SEnd X.K c W B Dn ((f e).bind _) from m)).imp fun ds e1 B1 H1 x1 m1 p vs st1 r => ?_⟩
  exact m1 (σ.set i (some (.ref p))) B1 H1 (Evl.Ex.refl _) (st1.setF r)
theorem ds_asgF {i : Nat} {x : Str} {y : Expr} {f : M (List D)} {pos pos' : Pos} (hN : X.N.Nodup) (hi : X.N[i]? = some x) (hx : Loc X.env.scope x) (h : PE X y (liftF X.K c W f)) (hs : swapsWith y (some (.Name x pos')) pos.line X.env = pure false := by rfl)
    (hf : X.fn x = true ∨ X.env.scope.names.lookup x = some .local := by first | exact .inl rfl | exact .inr rfl | assumption) : PS X (.Assign [.Name x pos'] y pos) (liftS X.K c W (sAsgF i f)) := PS_of (ps_set hN hi hx h hs hf) asgF_conv
/-- an expression alone -/
def sDrop (f : M D) : M Fl := mbind f fun _ => mret .nx
theorem ds_expr {x : Expr} {f : M D} {pos : Pos} (h : PE X x (lift X.K c W f)) (hs : swapsWith x none pos.line X.env = pure false := by rfl) : PS X (.Expr x pos) (liftS X.K c W (sDrop f)) := PS_of (ps_expr h hs) fun Dn σ H q => by
  obtain ⟨B, e, st, m⟩ := q
  refine ⟨[], B, e, st, (Pst.go (σ := σ) (show SEnd X.K c W B Dn ((f e).bind _) from m)).imp fun d e1 B1 H1 x1 m1 st1 v rv => ?_⟩
  exact m1 σ B1 H1 (Evl.Ex.refl _) st1
end
end DL
end

section
set_option maxRecDepth 100000
set_option maxHeartbeats 2000000
namespace DL
open PySem L2
open Evl (Ex)

/-! ### items -/
def lsqA : D → Option (List D)
  | .lst xs => some xs
  | .klst xs => some xs
  | .own xs => some xs
  | .bor xs => some xs
  | _ => none
def shOnly (d : D) : Option D := if isSh d = true then some d else none
def dIdx (x y : D) : Option D := match y with
  | .int i => (match x with
    | .tup xs => atI xs i
    | .str s => if s.length ≤ 1000000 then (atI s.cps.toList i).map fun c => .str ⟨#[c]⟩ else none
    | x => (lsqA x).bind fun xs => (atI xs i).bind shOnly)
  | _ => none
theorem Ows.get {K : PySem.W.Frag} {B H : Hp} : ∀ {ds : List D} {vs : List V} {F : List Addr} {i : Nat} {d : D}, Ows K B H ds vs F → ds[i]? = some d → ∃ v G, vs[i]? = some v ∧ Ow K B H d v G
  | _, _, _, _, _, .nil, e => by simp at e
  | _, _, _, 0, _, .cons h _ _, e => by simp at e; subst e; exact ⟨_, _, rfl, h⟩
  | _, _, _, i + 1, _, .cons _ r _, e => by
    obtain ⟨v, G, h1, h2⟩ := Ows.get (i := i) r (by simpa using e)
    exact ⟨v, G, by simpa using h1, h2⟩
theorem Ow.shOf {K : PySem.W.Frag} {B H : Hp} {d : D} {v : V} {F : List Addr} (h : Ow K B H d v F) (q : isSh d = true) : Sh K B d v := by
  have h := h.inv
  cases d with
  | own _ => exact absurd q Bool.false_ne_true
  | bor _ => exact absurd q Bool.false_ne_true
  | al _ => exact absurd q Bool.false_ne_true
  | _ => exact h.1
theorem atI_len {α β : Type} {xs : List α} {ys : List β} (h : xs.length = ys.length) {i : Int} {x : α} (e : atI xs i = some x) : ∃ j : Nat, xs[j]? = some x ∧ ∀ y, ys[j]? = some y → atI ys i = some y := by
  unfold atI at e
  cases q : ixN xs.length i with
  | none =>
    rw [q] at e
    cases e
  | some j =>
    rw [q] at e
    refine ⟨j, e, fun y hy => ?_⟩
    unfold atI
    rw [← h, q]
    exact hy
theorem lsqA_ok {K : PySem.W.Frag} {B H : Hp} {d : D} {v : V} {xs : List D} (e : Ex B H) (h : RS K B H d v) (m : lsqA d = some xs) : ∃ a vs G, v = .ref a ∧ SqL K H a vs ∧ Ows K B H xs vs G := by
  cases d with
  | lst ys =>
    cases (show some ys = some xs from m)
    cases (show Sh K B (.lst xs) v from h) with
    | lst h1 r => exact ⟨_, _, _, rfl, SqL.of (e _ _ h1), r.ows⟩
  | klst ys =>
    cases (show some ys = some xs from m)
    cases (show Sh K B (.klst xs) v from h) with
    | klst h1 r => exact ⟨_, _, _, rfl, Evl.ex_l e h1, r.ows⟩
  | own ys =>
    cases (show some ys = some xs from m)
    obtain ⟨a, vs, G, q1, q2, q3⟩ := h
    exact ⟨a, vs, G, q1, SqL.of q2, q3⟩
  | bor ys =>
    cases (show some ys = some xs from m)
    obtain ⟨a, vs, G, q1, q2, q3⟩ := h
    exact ⟨a, vs, G, q1, SqL.of q2, q3⟩
  | _ => cases m
theorem ok_idx {K : PySem.W.Frag} : OpD K (rIx K) dIdx := by
  intro B H x y v u z Q e rx ry ho k
  unfold dIdx at ho
  split at ho
  · rename_i i
    cases (show Sh K B (.int i) u from ry)
    split at ho
    · rename_i xs
      obtain ⟨a, vs, rfl, h1, r⟩ := tsq_ok e rx (show tsq (.tup xs) = some xs from rfl)
      obtain ⟨j, h2, h3⟩ := atI_len r.length ho
      obtain ⟨w, h4, h5⟩ := r.get h2
      exact .inr (.inl ⟨a, vs, i, w, rfl, rfl, h1, h3 w h4, k w B H (Grow.refl e) h5⟩)
    · rename_i s
      cases (show Sh K B (.str s) v from rx)
      by_cases hl : s.length ≤ 1000000
      · rw [if_pos hl] at ho
        cases q : atI s.cps.toList i with
        | none =>
          rw [q] at ho
          cases ho
        | some c =>
          rw [q] at ho
          cases ho
          exact .inr (.inr ⟨s, i, c, rfl, rfl, line_ok hl, q, k _ B H (Grow.refl e) (.str _)⟩)
      · rw [if_neg hl] at ho
        cases ho
    · cases q : lsqA x with
      | none =>
        rw [q] at ho
        cases ho
      | some xs =>
        rw [q] at ho
        have ho : (atI xs i).bind shOnly = some z := ho
        cases q2 : atI xs i with
        | none =>
          rw [q2] at ho
          cases ho
        | some d =>
          rw [q2] at ho
          have ho : (if isSh d = true then some d else none) = some z := ho
          by_cases hs : isSh d = true
          · rw [if_pos hs] at ho
            cases ho
            obtain ⟨a, vs, G, rfl, h1, r⟩ := lsqA_ok e rx q
            obtain ⟨j, h2, h3⟩ := atI_len r.length q2
            obtain ⟨w, G', h4, h5⟩ := r.get h2
            exact .inl ⟨a, vs, i, w, rfl, rfl, h1, h3 w h4, k w B H (Grow.refl e) (h5.shOf hs)⟩
          · rw [if_neg hs] at ho
            cases ho
  · cases ho
section
variable {X : Cx} {c : Ctx} {W : WX} {K : PySem.W.Frag}
theorem de_idx {a b : Expr} {fa fb : M D} {pos : Pos} (ha : PE X a (lift X.K c W fa)) (hb : PE X b (lift X.K c W fb)) (hs : PlainIx b := by exact fun _ _ => rfl) : PE X (.Subscript a b pos) (lift X.K c W (eBin dIdx fa fb)) :=
  PE_of (pe_ix ix_seq ha hb hs) (bin_conv ok_idx)

/-! ### slices -/
def eNoPart : M (Option Int) := mret none
def iOf : D → Option (Option Int)
  | .int i => some (some i)
  | _ => none
def ePart (f : M D) : M (Option Int) := mbind f fun d => mopt (iOf d)
def liftO (K : PySem.W.Frag) (c : Ctx) (W : WX) (f : M (Option Int)) : TO := fun σ H Q => ∃ T B e, StOk K c T B H σ e ∧ Pst K c T W σ B (f e) fun o e' B' H' => StOk K c T B' H' σ e' → Q o H'
theorem do_none : PO X none (liftO X.K c W eNoPart) := ⟨fun pins s σ H Q I q => po_none.run pins s σ H Q I (by
  obtain ⟨T, B, e, st, m⟩ := q
  exact m B H (Evl.Ex.refl B) st)⟩
theorem do_some {x : Expr} {f : M D} (h : PE X x (lift X.K c W f)) : PO X (some x) (liftO X.K c W (ePart f)) := ⟨fun pins s σ H Q I q => (po_some h).run pins s σ H Q I (by
  obtain ⟨T, B, e, st, m⟩ := q
  refine ⟨T, B, e, st, m.bind.imp fun d e1 B1 H1 x1 m1 st1 v rv => ?_⟩
  cases d with
  | int i =>
    cases rv
    exact ⟨i, rfl, m1 B1 H1 (Evl.Ex.refl _) st1⟩
  | _ => exact m1.elim)⟩
def cutD (xs : List D) (lo hi : Option Int) : List D := (xs.drop (HT.sIx xs.length 0 lo)).take (HT.sIx xs.length xs.length hi - HT.sIx xs.length 0 lo)
theorem cut_shs {B : Hp} {xs : List D} {vs : List V} (r : Shs K B xs vs) (lo hi : Option Int) : Shs K B (cutD xs lo hi) (cutV vs lo hi) := by
  unfold cutD cutV
  rw [r.length]
  exact (r.drop _).take _
def dSlice (x : D) (lo hi : Option Int) : Option D := match x with
  | .tup xs => some (.tup (cutD xs lo hi))
  | .str s => if s.length ≤ 1000000 then some (.str (cutS s lo hi)) else none
  | x => (lsq x).map fun xs => .lst (cutD xs lo hi)
def rSlAll (K : PySem.W.Frag) : V → Option Int → Option Int → Hp → VK → Prop := fun x lo hi H Q => rSlL K x lo hi H Q ∨ rSlA K x lo hi H Q ∨ rSlS x lo hi H Q
theorem sl_all : SlR X (rSlAll X.K) := sl_list.or (sl_tupA.or sl_str)
def eSlice (f : M D) (lo hi : M (Option Int)) : M D := mbind f fun x => mbind lo fun l => mbind hi fun h => fun e => mopt (dSlice (rs e x) l h) e
theorem slice_ok {B H : Hp} {x : D} {v : V} {lo hi : Option Int} {z : D} {Q : VK} (e : Ex B H) (rx : RS K B H x v) (ho : dSlice x lo hi = some z) (k : ∀ w B' H', Grow B H B' H' → Sh K B' z w → Q w H') : rSlAll K v lo hi H Q := by
  unfold dSlice at ho
  split at ho
  · rename_i xs
    obtain ⟨a, vs, rfl, h1, r⟩ := tsq_ok e rx (show tsq (.tup xs) = some xs from rfl)
    cases ho
    refine .inr (.inl ⟨a, vs, rfl, h1, fun hw => ?_, fun _ p hp => ?_⟩)
    · rw [← r.length] at hw
      have ec : cutD xs lo hi = xs := by
        unfold cutD
        rw [hw.1, hw.2]
        simp
      rw [ec] at k
      exact k _ B H (Grow.refl e) (show Sh K B (.tup xs) (.ref a) from rx)
    · have g := Grow.new e (.tup (cutV vs lo hi)) hp
      exact k _ _ _ g (.tup (SqT.of upd_same) ((cut_shs r lo hi).mono g.b))
  · rename_i s
    cases (show Sh K B (.str s) v from rx)
    by_cases hl : s.length ≤ 1000000
    · rw [if_pos hl] at ho
      cases ho
      exact .inr (.inr ⟨s, rfl, line_ok hl, k _ B H (Grow.refl e) (.str _)⟩)
    · rw [if_neg hl] at ho
      cases ho
  · cases q : lsq x with
    | none =>
      rw [q] at ho
      cases ho
    | some xs =>
      rw [q] at ho
      cases ho
      obtain ⟨a, vs, rfl, h1, r⟩ := lsq_ok e rx q
      refine .inl ⟨a, vs, rfl, h1, fun p hp => ?_⟩
      have g := Grow.new e (.lst (cutV vs lo hi)) hp
      exact k _ _ _ g (.lst upd_same ((cut_shs r lo hi).mono g.b))
theorem de_slice {a : Expr} {lo hi : Option Expr} {f : M D} {fl fh : M (Option Int)} {pos p2 : Pos} (ha : PE X a (lift X.K c W f)) (hl : PO X lo (liftO X.K c W fl)) (hh : PO X hi (liftO X.K c W fh)) : PE X (.Subscript a (.Slice lo hi none p2) pos) (lift X.K c W (eSlice f fl fh)) :=
  PE_of (pe_slice sl_all ha hl hh) fun σ H Q q => by
    obtain ⟨T, B, e, st, m⟩ := q
    refine ⟨T, B, e, st, m.bind.imp fun x e1 B1 H1 x1 m1 st1 v rv => ?_⟩
    refine ⟨T, B1, e1, st1, m1.bind.imp fun l e2 B2 H2 x2 m2 st2 => ?_⟩
    refine ⟨T, B2, e2, st2, m2.bind.imp fun h e3 B3 H3 x3 m3 st3 => ?_⟩
    have m3 : Pst X.K c T W σ B3 (mopt (dSlice (rs e3 x) l h) e3) _ := m3
    cases ho : dSlice (rs e3 x) l h with
    | none =>
      rw [ho] at m3
      exact m3.elim
    | some z =>
      rw [ho] at m3
      exact slice_ok st3.ex (rs_ok st3 (rv.mono (x2.trans x3))) ho fun w B' H' g s => m3 B' H' g.b (st3.grow g) w (RT.of s)

/-! ### displays -/
def eTup (fs : M (List D)) : M D := mbind fs fun ds => if (ds.all isSh) = true ∧ ds.length ≤ 1000000 then mret (.tup ds) else fun _ => .no
theorem de_tup {es : List Expr} {fs : M (List D)} {x1} {pos : Pos} (h : PA X es (liftA X.K c W fs)) : PE X (.Tuple es x1 pos) (lift X.K c W (eTup fs)) := PE_of (pe_tup h) fun σ H Q q => by
  obtain ⟨T, B, e, st, m⟩ := q
  refine ⟨T, B, e, st, m.bind.imp fun ds e1 B1 H1 x1 m1 st1 vs rv => ?_⟩
  by_cases hs : (ds.all isSh) = true ∧ ds.length ≤ 1000000
  · rw [if_pos hs] at m1
    refine ⟨by rw [← rv.length]; exact line_ok hs.2, fun p hp => ?_⟩
    have g := Grow.new st1.ex (.tup vs) hp
    exact m1 _ _ g.b (st1.grow g) _ (RT.of (.tup (SqT.of upd_same) ((rv.shs hs.1).mono g.b)))
  · rw [if_neg hs] at m1
    exact m1.elim
/-- a new list at p that nobody owns -/
theorem StOk.fresh {T : List (Addr × HO)} {B H : Hp} {σ : L2.St} {e : Env} (s : StOk K c T B H σ e) {p : Addr} (hp : H p = none) (o : HO) : StOk K c ((p, o) :: T) B (upd H p o) σ e where
  len := s.len
  slots := by
    obtain ⟨fp, h1, h2, h3, h4, h5⟩ := s.slots
    have nm : ∀ i, p ∉ fp i := fun i m => by
      cases he : e[i]? with
      | none =>
        rw [h2 i (fun d z => by rw [he] at z; cases z)] at m
        cases m
      | some od => cases od with
        | none =>
          rw [h2 i (fun d z => by rw [he] at z; cases z)] at m
          cases m
        | some d =>
          obtain ⟨v, _, ow, _⟩ := h1 i d he
          exact (ow.free p m).2 hp
    refine ⟨fp, fun i d hd => ?_, h2, h3, h4, fun q m i hi => ?_⟩
    · obtain ⟨v, hv, ow, cd⟩ := h1 i d hd
      refine ⟨v, hv, ow.mono (Evl.Ex.refl B) (fun a m => (ow.free a m).1) (fun a m o q => ?_), cd⟩
      rw [upd_ne (fun (z : a = p) => nm i (z ▸ m))]
      exact q
    · rcases List.mem_cons.mp m with e | m
      · rw [e] at hi
        exact nm i hi
      · exact h5 q m i hi
  tmp := fun q m => by
    rcases List.mem_cons.mp m with e | m
    · rw [e]
      refine ⟨?_, upd_same, none_ex s.bh hp⟩
      show c.H0 p = none
      cases q : c.H0 p with
      | none => rfl
      | some o => exact absurd hp (s.there p (by rw [q]; exact fun z => (nomatch z)))
    · obtain ⟨t1, t2, t3⟩ := s.tmp q m
      refine ⟨t1, ?_, t3⟩
      rw [upd_ne (ne_of_none t2 hp)]
      exact t2
  tnd := List.nodup_cons.mpr ⟨fun m => by
    obtain ⟨q, mq, z⟩ := List.mem_map.mp m
    have t2 := (s.tmp q mq).2.1
    rw [z, hp] at t2
    exact (nomatch t2), s.tnd⟩
  bh := fun b u q => by
    rw [upd_ne (ne_of_none (s.bh b u q) hp)]
    exact s.bh b u q
  b0 := s.b0
  keep := fun a u nl h => by
    have z := s.keep a u nl h
    rw [upd_ne (ne_of_none z hp)]
    exact z
  there := fun a n => by
    have z := s.there a n
    rw [upd_ne (fun (w : a = p) => z (w ▸ hp))]
    exact z
  old := s.old
def eLstF (fs : M (List D)) : M (List D) := mbind fs fun ds => if (ds.all isSh) = true ∧ ds.length ≤ 1000000 then mret ds else fun _ => .no
theorem de_lstF {es : List Expr} {fs : M (List D)} {pos : Pos} (h : PA X es (liftA X.K c W fs)) : PE X (.List es pos) (liftF X.K c W (eLstF fs)) := PE_of (pe_lst h) fun σ H Q q => by
  obtain ⟨T, B, e, st, m⟩ := q
  refine ⟨T, B, e, st, m.bind.imp fun ds e1 B1 H1 x1 m1 st1 vs rv => ?_⟩
  by_cases hs : (ds.all isSh) = true ∧ ds.length ≤ 1000000
  · rw [if_pos hs] at m1
    refine ⟨by rw [← rv.length]; exact line_ok hs.2, fun p hp => ?_⟩
    exact m1 B1 _ (Evl.Ex.refl _) p vs (st1.fresh hp _) (rv.shs hs.1)
  · rw [if_neg hs] at m1
    exact m1.elim
/-- a new list handed on as shared -/
theorem StOk.freeze {T : List (Addr × HO)} {B H : Hp} {σ : L2.St} {e : Env} {p : Addr} {o : HO} (s : StOk K c ((p, o) :: T) B H σ e) : StOk K c T (upd B p o) H σ e ∧ Ex B (upd B p o) := by
  obtain ⟨hp0, hp, hb⟩ := s.tmp _ List.mem_cons_self
  have ex : Ex B (upd B p o) := Evl.Ex.new hb
  obtain ⟨fp, h1, h2, h3, h4, h5⟩ := s.slots
  refine ⟨⟨s.len, ⟨fp, fun i d hd => ?_, h2, h3, h4, fun q m => h5 q (List.mem_cons_of_mem _ m)⟩, fun q m => ?_, (List.nodup_cons.mp s.tnd).2, fun b u q => ?_, s.b0.trans ex, s.keep, s.there, fun a n z => ?_⟩, ex⟩
  · obtain ⟨v, hv, ow, cd⟩ := h1 i d hd
    refine ⟨v, hv, ow.mono ex (fun a m => ?_) (fun a m o q => q), cd⟩
    rw [upd_ne (fun (w : a = p) => h5 _ List.mem_cons_self i (w ▸ m))]
    exact (ow.free a m).1
  · obtain ⟨t1, t2, t3⟩ := s.tmp q (List.mem_cons_of_mem _ m)
    refine ⟨t1, t2, ?_⟩
    rw [upd_ne (s.tmp_ne q m)]
    exact t3
  · by_cases hbp : b = p
    · subst hbp
      rw [upd_same] at q
      rw [show H b = some o from hp]
      exact q
    · rw [upd_ne hbp] at q
      exact s.bh b u q
  · rw [upd_ne (fun (w : a = p) => n (w ▸ hp0))]
    exact s.old a n z
def eFrz (f : M (List D)) : M D := mbind f fun ds => mret (.lst ds)
theorem de_frz {x : Expr} {f : M (List D)} (h : PE X x (liftF X.K c W f)) : PE X x (lift X.K c W (eFrz f)) := PE_of h fun σ H Q q => by
  obtain ⟨T, B, e, st, m⟩ := q
  refine ⟨T, B, e, st, m.bind.imp fun ds e1 B1 H1 x1 m1 p vs st1 r => ?_⟩
  obtain ⟨st2, ex⟩ := st1.freeze
  exact m1 _ H1 ex st2 _ (RT.of (.lst upd_same (r.mono ex)))
/-- a name whose list becomes shared -/
def eVal (i : Nat) : M D := fun e => match e[i]? with
  | some (some (.own xs)) => if (xs.all isSh) = true then .ok (.lst xs) (e.set i (some (.lst xs))) else .no
  | some (some (.bor _)) => .no
  | some (some (.al _)) => .no
  | some (some d) => .ok d e
  | _ => .no
theorem Ows.nil_of {B H : Hp} : ∀ {ds : List D} {vs : List V} {G : List Addr}, Ows K B H ds vs G → (ds.all isSh) = true → G = []
  | _, _, _, .nil, _ => rfl
  | d :: ds, _, _, .cons h r q, a => by
    rw [List.all_cons, Bool.and_eq_true] at a
    have h2 := h.inv
    rw [q, Ows.nil_of r a.2, List.append_nil]
    cases d with
    | own _ => exact absurd a.1 Bool.false_ne_true
    | bor _ => exact absurd a.1 Bool.false_ne_true
    | al _ => exact absurd a.1 Bool.false_ne_true
    | _ => exact h2.2
theorem StOk.own_tmp {T : List (Addr × HO)} {B H : Hp} {σ : L2.St} {e : Env} (s : StOk K c T B H σ e) {i : Nat} {xs : List D} (he : e[i]? = some (some (.own xs))) (hs : (xs.all isSh) = true) :
    ∃ p vs, σ[i]? = some (some (.ref p)) ∧ Shs K B xs vs ∧ StOk K c ((p, .lst vs) :: T) B H σ (e.set i none) := by
  obtain ⟨fp, h1, h2, h3, h4, h5⟩ := s.slots
  obtain ⟨v, hv, ow, cd⟩ := h1 i _ he
  have ow := ow.inv
  obtain ⟨p, vs, G, rfl, q2, q3, q4, q5⟩ := ow
  have eG := q5.nil_of hs
  subst eG
  have t : StOk K c T B H σ (e.set i none) := s.drop i
  have pm : p ∈ fp i := by rw [q2]; exact List.mem_cons_self
  refine ⟨p, vs, hv, q5.shs hs, ?_⟩
  refine ⟨t.len, ⟨fun j => if j = i then [] else fp j, fun j u hu => ?_, fun j hn => ?_, fun j => ?_, fun j k a hjk hj hk => ?_, fun q m j hj => ?_⟩, fun q m => ?_, List.nodup_cons.mpr ⟨fun m => ?_, s.tnd⟩, t.bh, t.b0, t.keep, t.there, t.old⟩
  · dsimp only
    have hj : j ≠ i := fun z => by
      subst z
      have := set_self hu
      cases this
    rw [List.getElem?_set_ne (Ne.symm hj)] at hu
    obtain ⟨w, hw, ow', cd'⟩ := h1 j u hu
    rw [if_neg hj]
    exact ⟨w, hw, ow', cd'⟩
  · by_cases hj : j = i
    · exact if_pos hj
    · show (if j = i then [] else fp j) = []
      rw [if_neg hj]
      exact h2 j fun u hu => hn u (by rw [List.getElem?_set_ne (Ne.symm hj)]; exact hu)
  · show (if j = i then [] else fp j).Nodup
    split
    · exact List.nodup_nil
    · exact h3 j
  · have hj : a ∈ (if j = i then [] else fp j) := hj
    have hk : a ∈ (if k = i then [] else fp k) := hk
    split at hj
    · cases hj
    · split at hk
      · cases hk
      · exact h4 j k a hjk hj hk
  · have hj : q.1 ∈ (if j = i then [] else fp j) := hj
    split at hj
    · cases hj
    · rename_i nj
      rcases List.mem_cons.mp m with e | m
      · rw [e] at hj
        exact h4 i j p (fun z => nj z.symm) pm hj
      · exact h5 q m j hj
  · rcases List.mem_cons.mp m with e | m
    · rw [e]
      exact ⟨cd p pm, q3, q4⟩
    · exact s.tmp q m
  · obtain ⟨q, mq, z⟩ := List.mem_map.mp m
    exact h5 q mq i (by rw [z]; exact pm)
theorem set_back {α : Type} {l : List α} {i : Nat} {a b : α} (h : l[i]? = some b) : (l.set i a).set i b = l := by
  apply List.ext_getElem?
  intro j
  by_cases hj : j = i
  · subst hj
    rw [List.getElem?_set_self (by simpa using (List.getElem?_eq_some_iff.mp h).1), h]
  · rw [List.getElem?_set_ne (Ne.symm hj), List.getElem?_set_ne (Ne.symm hj)]
theorem set_same {α : Type} {l : List α} {i : Nat} {b : α} (h : l[i]? = some b) : l.set i b = l := by
  have z := set_back (a := b) h
  apply List.ext_getElem?
  intro j
  by_cases hj : j = i
  · subst hj
    rw [List.getElem?_set_self (by simpa using (List.getElem?_eq_some_iff.mp h).1), h]
  · rw [List.getElem?_set_ne (Ne.symm hj)]
theorem set_set {α : Type} {l : List α} {i : Nat} {a b : α} : (l.set i a).set i b = l.set i b := by
  apply List.ext_getElem?
  intro j
  by_cases hj : j = i
  · subst hj
    by_cases hl : j < l.length
    · rw [List.getElem?_set_self (by simpa using hl), List.getElem?_set_self hl]
    · rw [List.getElem?_eq_none (by simpa using hl), List.getElem?_eq_none (by simpa using hl)]
  · rw [List.getElem?_set_ne (Ne.symm hj), List.getElem?_set_ne (Ne.symm hj), List.getElem?_set_ne (Ne.symm hj)]
theorem de_val {x : Expr} {i : Nat} (h : PE X x (tVar i)) : PE X x (lift X.K c W (eVal i)) := PE_of h fun σ H Q q => by
  obtain ⟨T, B, e, st, m⟩ := q
  obtain ⟨fp, s1, _⟩ := st.slots
  unfold eVal at m
  cases he : e[i]? with
  | none =>
    rw [he] at m
    exact m.elim
  | some o =>
    rw [he] at m
    cases o with
    | none => exact m.elim
    | some d =>
      obtain ⟨v, hv, ow, _⟩ := s1 i d he
      refine ⟨v, hv, ?_⟩
      have ow := ow.inv
      cases d with
      | own xs =>
        have m : Pst X.K c T W σ B (if (xs.all isSh) = true then Rs.ok (D.lst xs) (e.set i (some (D.lst xs))) else Rs.no) _ := m
        by_cases hs : (xs.all isSh) = true
        · rw [if_pos hs] at m
          obtain ⟨p, vs, hv', r, st1⟩ := st.own_tmp he hs
          rw [hv] at hv'
          cases hv'
          obtain ⟨st2, ex⟩ := st1.freeze
          have sh : Sh X.K (upd B p (.lst vs)) (.lst xs) (.ref p) := .lst upd_same (r.mono ex)
          have st3 := st2.set (i := i) sh
          rw [set_same hv, set_set] at st3
          exact m _ H ex st3 _ (RT.of sh)
        · rw [if_neg hs] at m
          exact m.elim
      | bor xs => exact m.elim
      | al j => exact m.elim
      | _ => exact m B H (Evl.Ex.refl B) st v (RT.of ow.1)
end
end DL
end

section
set_option maxRecDepth 100000
set_option maxHeartbeats 2000000
namespace DL
open PySem L2
open Evl (Ex)

/-! ### calls of built-ins, by values -/
/-- the arguments as they stand -/
def RSs (K : PySem.W.Frag) (B H : Hp) : List D → List V → Prop
  | [], vs => vs = []
  | d :: ds, vs => ∃ v us, vs = v :: us ∧ RS K B H d v ∧ RSs K B H ds us
def CallD (K : PySem.W.Frag) (r : List V → Hp → VK → Prop) (op : List D → Option D) : Prop := ∀ (B H : Hp) (ds : List D) (vs : List V) (z : D) (Q : VK), Ex B H → RSs K B H ds vs → op ds = some z →
  (∀ w B' H', Grow B H B' H' → Sh K B' z w → Q w H') → r vs H Q
def eBlt (op : List D → Option D) (fs : M (List D)) : M D := mbind fs fun ds => fun e => mopt (op (ds.map (rs e))) e
section
variable {X : Cx} {c : Ctx} {W : WX} {K : PySem.W.Frag} {fs : M (List D)} {op : List D → Option D} {r : List V → Hp → VK → Prop} {x : Str} {p pos : Pos} {e : Expr} {es : List Expr}
theorem rss_ok {T : List (Addr × HO)} {B H : Hp} {σ : L2.St} {e : Env} (st : StOk K c T B H σ e) : ∀ {ds : List D} {vs : List V}, RTs K B σ ds vs → RSs K B H (ds.map (rs e)) vs
  | [], _, h => h
  | _ :: _, _, ⟨v, us, q, h, r⟩ => ⟨v, us, q, rs_ok st h, rss_ok st r⟩
theorem blt_conv (ok : CallD X.K r op) : ∀ σ H Q, lift X.K c W (eBlt op fs) σ H Q → tCB r (liftA X.K c W fs) σ H Q := fun σ H Q q => by
  obtain ⟨T, B, e, st, m⟩ := q
  refine ⟨T, B, e, st, m.bind.imp fun ds e1 B1 H1 x1 m1 st1 vs rv => ?_⟩
  have m1 : Pst X.K c T W σ B1 (mopt (op (ds.map (rs e1))) e1) _ := m1
  cases ho : op (ds.map (rs e1)) with
  | none =>
    rw [ho] at m1
    exact m1.elim
  | some z =>
    rw [ho] at m1
    exact ok B1 H1 _ vs z Q st1.ex (rss_ok st1 rv) ho fun w B' H' g s => m1 B' H' g.b (st1.grow g) w (RT.of s)
theorem de_blt {id : String} (hc : CallR X (.builtin id) r) (ok : CallD X.K r op) (hg : Gl X x) (hm : X.mg x = none) (hv : bootBuiltins x = some (.builtin id)) (ha : PA X (e :: es) (liftA X.K c W fs)) (hn : x ≠ "__name__" := by decide) (hdb : (x == ("__debug__" : Str)) = false := by decide)
    (he : starEach (e :: es) X.env = (false, eval e X.env) :: starEach es X.env := by rfl) (hpl : (backTo pos (starEach es X.env)).any (·.1) = false := by rfl) : PE X (.Call (.Name x p) (e :: es) [] pos) (lift X.K c W (eBlt op fs)) :=
  PE_of (pe_callB hc hg hm hv ha hn hdb he hpl) (blt_conv ok)
theorem de_bltTy {T : String} (hc : CallR X (.type T) r) (ok : CallD X.K r op) (hg : Gl X x) (hm : X.mg x = none) (hv : bootBuiltins x = some (.type T)) (ha : PA X (e :: es) (liftA X.K c W fs)) (hn : x ≠ "__name__" := by decide) (hdb : (x == ("__debug__" : Str)) = false := by decide)
    (he : starEach (e :: es) X.env = (false, eval e X.env) :: starEach es X.env := by rfl) (hpl : (backTo pos (starEach es X.env)).any (·.1) = false := by rfl) : PE X (.Call (.Name x p) (e :: es) [] pos) (lift X.K c W (eBlt op fs)) :=
  PE_of (pe_callTy hc hg hm hv ha hn hdb he hpl) (blt_conv ok)
theorem de_bltFn {id : String} (hc : CallR X (.builtin id) r) (ok : CallD X.K r op) (hg : Gl X x) (hm : X.mg x = some (.builtin id)) (ha : PA X (e :: es) (liftA X.K c W fs)) (hdb : (x == ("__debug__" : Str)) = false := by decide)
    (he : starEach (e :: es) X.env = (false, eval e X.env) :: starEach es X.env := by rfl) (hpl : (backTo pos (starEach es X.env)).any (·.1) = false := by rfl) : PE X (.Call (.Name x p) (e :: es) [] pos) (lift X.K c W (eBlt op fs)) :=
  PE_of (pe_callBfun hc hg hm ha hdb he hpl) (blt_conv ok)
end
/-- one int in, one value out -/
def d1Int (f : Int → Option D) : List D → Option D
  | [.int i] => f i
  | _ => none
theorem d1Int_some {f : Int → Option D} {ds : List D} {z : D} (h : d1Int f ds = some z) : ∃ i, ds = [.int i] ∧ f i = some z := by
  unfold d1Int at h
  split at h
  · exact ⟨_, rfl, h⟩
  · cases h
theorem rss1 {K : PySem.W.Frag} {B H : Hp} {d : D} {vs : List V} (h : RSs K B H [d] vs) : ∃ v, vs = [v] ∧ RS K B H d v := by
  obtain ⟨v, us, rfl, h1, h2⟩ := h
  cases (show _ = _ from h2)
  exact ⟨v, rfl, h1⟩
theorem rss2 {K : PySem.W.Frag} {B H : Hp} {d d' : D} {vs : List V} (h : RSs K B H [d, d'] vs) : ∃ v v', vs = [v, v'] ∧ RS K B H d v ∧ RS K B H d' v' := by
  obtain ⟨v, us, rfl, h1, h2⟩ := h
  obtain ⟨v', rfl, h3⟩ := rss1 h2
  exact ⟨v, v', rfl, h1, h3⟩
section
variable {K : PySem.W.Frag}
/-- abs -/
def dAbs : List D → Option D := d1Int fun i => some (.int (if i < 0 then -i else i))
theorem ok_abs : CallD K (fun xs H Q => ∃ i, xs = [.int i] ∧ Q (.int (if i < 0 then -i else i)) H) dAbs := by
  intro B H ds vs z Q e r ho k
  obtain ⟨i, rfl, q⟩ := d1Int_some ho
  cases q
  obtain ⟨v, rfl, h⟩ := rss1 r
  cases (show Sh K B (.int i) v from h)
  exact ⟨i, rfl, k _ B H (Grow.refl e) (.int _)⟩
/-- int(n), int(flag) -/
def dToInt : List D → Option D
  | [.int i] => some (.int i)
  | [.bl b] => some (.int (if b then 1 else 0))
  | _ => none
theorem ok_toInt : CallD K (fun xs H Q => (∃ i, xs = [.int i] ∧ Q (.int i) H) ∨ ∃ k, xs = [.bl k] ∧ Q (.int (if k then 1 else 0)) H) dToInt := by
  intro B H ds vs z Q e r ho k
  unfold dToInt at ho
  split at ho
  · rename_i i
    cases ho
    obtain ⟨v, rfl, h⟩ := rss1 r
    cases (show Sh K B (.int i) v from h)
    exact .inl ⟨i, rfl, k _ B H (Grow.refl e) (.int _)⟩
  · rename_i b
    cases ho
    obtain ⟨v, rfl, h⟩ := rss1 r
    cases (show Sh K B (.bl b) v from h)
    exact .inr ⟨b, rfl, k _ B H (Grow.refl e) (.int _)⟩
  · cases ho
/-- len -/
def dLen : List D → Option D
  | [.tup xs] => some (.int xs.length)
  | [.str s] => if s.length ≤ 1000000 then some (.int s.length) else none
  | [d] => (lsqA d).map fun xs => .int xs.length
  | _ => none
theorem ok_len : CallD K (fun xs H Q => ∃ x n, xs = [x] ∧ LenV K x H n ∧ Q (.int n) H) dLen := by
  intro B H ds vs z Q e r ho k
  unfold dLen at ho
  split at ho
  · rename_i xs
    cases ho
    obtain ⟨v, rfl, h⟩ := rss1 r
    obtain ⟨a, us, rfl, h1, h2⟩ := tsq_ok e h (show tsq (.tup xs) = some xs from rfl)
    exact ⟨.ref a, xs.length, rfl, .inr ⟨us, h1, h2.length⟩, k _ B H (Grow.refl e) (.int _)⟩
  · rename_i s
    obtain ⟨v, rfl, h⟩ := rss1 r
    cases (show Sh K B (.str s) v from h)
    by_cases hl : s.length ≤ 1000000
    · rw [if_pos hl] at ho
      cases ho
      exact ⟨.str s, s.length, rfl, ⟨line_ok hl, rfl⟩, k _ B H (Grow.refl e) (.int _)⟩
    · rw [if_neg hl] at ho
      cases ho
  · rename_i d _ _
    obtain ⟨v, rfl, h⟩ := rss1 r
    cases q : lsqA d with
    | none =>
      rw [q] at ho
      cases ho
    | some xs =>
      rw [q] at ho
      cases ho
      obtain ⟨a, us, G, rfl, h1, h2⟩ := lsqA_ok e h q
      exact ⟨.ref a, xs.length, rfl, .inl ⟨us, h1, h2.length⟩, k _ B H (Grow.refl e) (.int _)⟩
  · cases ho
/-- tuple(xs) -/
def dTuple : List D → Option D
  | [.tup xs] => some (.tup xs)
  | [d] => (lsq d).map .tup
  | _ => none
theorem ok_tuple : CallD K (fun xs H Q => ∃ p ys, xs = [.ref p] ∧ ((SqL K H p ys ∧ ∀ l, H l = none → Q (.ref l) (upd H l (.tup ys))) ∨ (SqT K H p ys ∧ Q (.ref p) H))) dTuple := by
  intro B H ds vs z Q e r ho k
  unfold dTuple at ho
  split at ho
  · rename_i xs
    cases ho
    obtain ⟨v, rfl, h⟩ := rss1 r
    obtain ⟨a, us, rfl, h1, h2⟩ := tsq_ok e h (show tsq (.tup xs) = some xs from rfl)
    exact ⟨a, us, rfl, .inr ⟨h1, k _ B H (Grow.refl e) h⟩⟩
  · rename_i d _
    obtain ⟨v, rfl, h⟩ := rss1 r
    cases q : lsq d with
    | none =>
      rw [q] at ho
      cases ho
    | some xs =>
      rw [q] at ho
      cases ho
      obtain ⟨a, us, rfl, h1, h2⟩ := lsq_ok e h q
      refine ⟨a, us, rfl, .inl ⟨h1, fun l hl => ?_⟩⟩
      have g := Grow.new e (.tup us) hl
      exact k _ _ _ g (.tup (SqT.of upd_same) (h2.mono g.b))
  · cases ho
/-- max, min of two ints -/
def dMax2 : List D → Option D
  | [.int i, .int j] => some (.int (if j > i then j else i))
  | _ => none
theorem ok_max2 : CallD K (fun xs H Q => ∃ i j, xs = [.int i, .int j] ∧ Q (.int (if j > i then j else i)) H) dMax2 := by
  intro B H ds vs z Q e r ho k
  unfold dMax2 at ho
  split at ho
  · rename_i i j
    cases ho
    obtain ⟨v, v', rfl, h1, h2⟩ := rss2 r
    cases (show Sh K B (.int i) v from h1)
    cases (show Sh K B (.int j) v' from h2)
    exact ⟨i, j, rfl, k _ B H (Grow.refl e) (.int _)⟩
  · cases ho
/-- the ints of a list -/
def intsOf : List D → Option (List Int)
  | [] => some []
  | .int i :: ds => (intsOf ds).map (i :: ·)
  | _ => none
theorem intsOf_ok {B : Hp} : ∀ {ds : List D} {vs : List V} {ns : List Int}, Shs K B ds vs → intsOf ds = some ns → vs = ns.map V.int
  | [], _, _, h, e => by cases h; cases e; rfl
  | .int i :: ds, _, ns, h, e => by
    cases h with
    | cons h1 r =>
      cases h1
      cases q : intsOf ds with
      | none =>
        rw [intsOf, q] at e
        cases e
      | some ms =>
        rw [intsOf, q] at e
        cases e
        rw [intsOf_ok r q] <;> rfl
  | .non :: _, _, _, _, e => by cases e
  | .bl _ :: _, _, _, _, e => by cases e
  | .str _ :: _, _, _, _, e => by cases e
  | .ty _ :: _, _, _, _, e => by cases e
  | .ref _ :: _, _, _, _, e => by cases e
  | .tup _ :: _, _, _, _, e => by cases e
  | .lst _ :: _, _, _, _, e => by cases e
  | .klst _ :: _, _, _, _, e => by cases e
  | .own _ :: _, _, _, _, e => by cases e
  | .bor _ :: _, _, _, _, e => by cases e
  | .al _ :: _, _, _, _, e => by cases e
def maxI : List Int → Option Int
  | [] => none
  | a :: r => some (r.foldl (fun m n => if n > m then n else m) a)
theorem foldl_max {r : List Int} : ∀ {a : Int}, (r.foldl (fun m n => if n > m then n else m) a = a ∨ r.foldl (fun m n => if n > m then n else m) a ∈ r) ∧ a ≤ r.foldl (fun m n => if n > m then n else m) a ∧ ∀ y ∈ r, y ≤ r.foldl (fun m n => if n > m then n else m) a := by
  induction r with
  | nil => exact fun {a} => ⟨.inl rfl, Int.le_refl _, fun y m => (nomatch m)⟩
  | cons b r ih =>
    intro a
    rw [List.foldl_cons]
    obtain ⟨h1, h2, h3⟩ := ih (a := if b > a then b else a)
    by_cases hb : b > a
    · rw [if_pos hb] at h1 h2 h3 ⊢
      refine ⟨.inr ?_, by omega, fun y m => ?_⟩
      · rcases h1 with h1 | h1
        · rw [h1]
          exact List.mem_cons_self
        · exact List.mem_cons_of_mem _ h1
      · rcases List.mem_cons.mp m with e | m
        · rw [e]
          exact h2
        · exact h3 y m
    · rw [if_neg hb] at h1 h2 h3 ⊢
      refine ⟨?_, h2, fun y m => ?_⟩
      · rcases h1 with h1 | h1
        · exact .inl h1
        · exact .inr (List.mem_cons_of_mem _ h1)
      · rcases List.mem_cons.mp m with e | m
        · rw [e]
          omega
        · exact h3 y m
def dMaxL : List D → Option D
  | [d] => (lsq d).bind fun xs => (intsOf xs).bind fun ns => (maxI ns).map .int
  | _ => none
theorem ok_maxL : CallD K (rMax K) dMaxL := by
  intro B H ds vs z Q e r ho k
  unfold dMaxL at ho
  split at ho
  · rename_i d
    obtain ⟨v, rfl, h⟩ := rss1 r
    cases q : lsq d with
    | none =>
      rw [q] at ho
      cases ho
    | some xs =>
      rw [q] at ho
      have ho : ((intsOf xs).bind fun ns => (maxI ns).map D.int) = some z := ho
      cases q2 : intsOf xs with
      | none =>
        rw [q2] at ho
        cases ho
      | some ns =>
        rw [q2] at ho
        have ho : (maxI ns).map D.int = some z := ho
        obtain ⟨a, us, rfl, h1, h2⟩ := lsq_ok e h q
        rw [intsOf_ok h2 q2] at h1
        cases ns with
        | nil => cases ho
        | cons n r =>
          cases ho
          refine ⟨a, n :: r, rfl, h1, by simp, fun m hm hle => ?_⟩
          obtain ⟨f1, f2, f3⟩ := foldl_max (r := r) (a := n)
          have em : m = r.foldl (fun m n => if n > m then n else m) n := by
            apply Int.le_antisymm
            · rcases List.mem_cons.mp hm with e | hm
              · rw [e]
                exact f2
              · exact f3 m hm
            · rcases f1 with f1 | f1
              · rw [f1]
                exact hle n List.mem_cons_self
              · exact hle _ (List.mem_cons_of_mem _ f1)
          rw [em]
          exact k _ B H (Grow.refl e) (.int _)
  · cases ho
/-- sum of a list of ints -/
def dSum : List D → Option D
  | [d] => (lsq d).bind fun xs => (intsOf xs).map fun ns => .int ns.sum
  | _ => none
theorem ok_sum : CallD K (rSum K) dSum := by
  intro B H ds vs z Q e r ho k
  unfold dSum at ho
  split at ho
  · rename_i d
    obtain ⟨v, rfl, h⟩ := rss1 r
    cases q : lsq d with
    | none =>
      rw [q] at ho
      cases ho
    | some xs =>
      rw [q] at ho
      have ho : ((intsOf xs).map fun ns => D.int ns.sum) = some z := ho
      cases q2 : intsOf xs with
      | none =>
        rw [q2] at ho
        cases ho
      | some ns =>
        rw [q2] at ho
        cases ho
        obtain ⟨a, us, rfl, h1, h2⟩ := lsq_ok e h q
        rw [intsOf_ok h2 q2] at h1
        exact ⟨a, ns, rfl, h1, k _ B H (Grow.refl e) (.int _)⟩
  · cases ho
/-- all of a list of bools -/
def blsOf : List D → Option (List Bool)
  | [] => some []
  | .bl b :: ds => (blsOf ds).map (b :: ·)
  | _ => none
theorem blsOf_ok {B : Hp} : ∀ {ds : List D} {vs : List V} {ns : List Bool}, Shs K B ds vs → blsOf ds = some ns → vs = ns.map V.bl
  | [], _, _, h, e => by cases h; cases e; rfl
  | .bl i :: ds, _, ns, h, e => by
    cases h with
    | cons h1 r =>
      cases h1
      cases q : blsOf ds with
      | none =>
        rw [blsOf, q] at e
        cases e
      | some ms =>
        rw [blsOf, q] at e
        cases e
        rw [blsOf_ok r q] <;> rfl
  | .non :: _, _, _, _, e => by cases e
  | .int _ :: _, _, _, _, e => by cases e
  | .str _ :: _, _, _, _, e => by cases e
  | .ty _ :: _, _, _, _, e => by cases e
  | .ref _ :: _, _, _, _, e => by cases e
  | .tup _ :: _, _, _, _, e => by cases e
  | .lst _ :: _, _, _, _, e => by cases e
  | .klst _ :: _, _, _, _, e => by cases e
  | .own _ :: _, _, _, _, e => by cases e
  | .bor _ :: _, _, _, _, e => by cases e
  | .al _ :: _, _, _, _, e => by cases e
def dAll : List D → Option D
  | [d] => (lsq d).bind fun xs => (blsOf xs).map fun bs => .bl (bs.all id)
  | _ => none
theorem ok_all : CallD K (rAll K) dAll := by
  intro B H ds vs z Q e r ho k
  unfold dAll at ho
  split at ho
  · rename_i d
    obtain ⟨v, rfl, h⟩ := rss1 r
    cases q : lsq d with
    | none =>
      rw [q] at ho
      cases ho
    | some xs =>
      rw [q] at ho
      have ho : ((blsOf xs).map fun bs => D.bl (bs.all id)) = some z := ho
      cases q2 : blsOf xs with
      | none =>
        rw [q2] at ho
        cases ho
      | some ns =>
        rw [q2] at ho
        cases ho
        obtain ⟨a, us, rfl, h1, h2⟩ := lsq_ok e h q
        rw [blsOf_ok h2 q2] at h1
        exact ⟨a, ns, rfl, h1, k _ B H (Grow.refl e) (.bl _)⟩
  · cases ho
/-- isinstance(x, T), T a built-in type -/
def tyName : D → Option String
  | .non => some "NoneType"
  | .bl _ => some "bool"
  | .int _ => some "int"
  | .str _ => some "str"
  | .tup _ => some "tuple"
  | .lst _ => some "list"
  | .own _ => some "list"
  | .bor _ => some "list"
  | _ => none
def dIsi : List D → Option D
  | [x, .ty n] => (tyName x).bind fun t => (kitB t n).map .bl
  | _ => none
theorem ty_ok {B H : Hp} {d : D} {v : V} {t : String} (e : Ex B H) (h : RS K B H d v) (q : tyName d = some t) : TyX K H v (.type t) := by
  cases d with
  | non => cases q; cases (show Sh K B .non v from h); exact .base .non
  | bl b => cases q; cases (show Sh K B (.bl b) v from h); exact .base (.bl _)
  | int i => cases q; cases (show Sh K B (.int i) v from h); exact .base (.int _)
  | str s => cases q; cases (show Sh K B (.str s) v from h); exact .base (.str _)
  | tup xs =>
    cases q
    obtain ⟨a, vs, rfl, h1, _⟩ := tsq_ok e h (show tsq (.tup xs) = some xs from rfl)
    rcases h1 with (h1 | ⟨o, h1⟩) | ⟨o, its, n, h1, h2, _⟩
    · exact .base (.tup h1)
    · exact .fTuple h1
    · exact .kTuple h1 h2
  | lst xs =>
    cases q
    cases (show Sh K B (.lst xs) v from h) with
    | lst h1 r => exact .base (.lst (e _ _ h1))
  | own xs =>
    cases q
    obtain ⟨a, vs, G, rfl, h1, _⟩ := h
    exact .base (.lst h1)
  | bor xs =>
    cases q
    obtain ⟨a, vs, G, rfl, h1, _⟩ := h
    exact .base (.lst h1)
  | _ => cases q
theorem ok_isi : CallD K (rIsi K) dIsi := by
  intro B H ds vs z Q e r ho k
  unfold dIsi at ho
  split at ho
  · rename_i x n
    obtain ⟨v, v', rfl, h1, h2⟩ := rss2 r
    cases (show Sh K B (.ty n) v' from h2)
    cases q : tyName x with
    | none =>
      rw [q] at ho
      cases ho
    | some t =>
      rw [q] at ho
      have ho : (kitB t n).map D.bl = some z := ho
      cases q2 : kitB t n with
      | none =>
        rw [q2] at ho
        cases ho
      | some b =>
        rw [q2] at ho
        cases ho
        exact ⟨v, .ty n, .type t, .type n, b, rfl, .ty n, ty_ok e h1 q, kit_ty q2, k _ B H (Grow.refl e) (.bl _)⟩
  · cases ho
end
def rGcd2 : List V → Hp → VK → Prop := rGcd
def dGcd2 : List D → Option D
  | [.int a, .int b] => some (.int ((Nat.gcd a.natAbs b.natAbs : Nat) : Int))
  | _ => none
theorem ok_gcd2 {K : PySem.W.Frag} : CallD K rGcd dGcd2 := by
  intro B H ds vs z Q e r ho k
  unfold dGcd2 at ho
  split at ho
  · rename_i i j
    cases ho
    obtain ⟨v, v', rfl, h1, h2⟩ := rss2 r
    cases (show Sh K B (.int i) v from h1)
    cases (show Sh K B (.int j) v' from h2)
    exact ⟨i, j, rfl, k _ B H (Grow.refl e) (.int _)⟩
  · cases ho
end DL
end

section
set_option maxRecDepth 100000
set_option maxHeartbeats 2000000
namespace DL
open PySem L2
open Evl (Ex)
/-! #### math.gcd of many -/
theorem args_gcd4 (a b c d : Value) : argsOk "math.gcd" ⟨[a, b, c, d], []⟩ := by unfold argsOk; kernel_rfl
theorem args_gcd6 (a b c d e f : Value) : argsOk "math.gcd" ⟨[a, b, c, d, e, f], []⟩ := by unfold argsOk; kernel_rfl
theorem run_gcd4 (a b c d : Int) (t u v w : Tok) : Gives (Builtin.«math.gcd» ⟨[.int a t, .int b u, .int c v, .int d w], []⟩) (.int ((((((Nat.gcd 0 a.natAbs).gcd b.natAbs).gcd c.natAbs).gcd d.natAbs : Nat) : Int))) :=
  .of_wp fun M A E s Q h => by obtain ⟨hp, g, d, tk, os⟩ := s; wp_walk; exact ⟨_, rfl, h⟩
theorem run_gcd6 (a b c d i j : Int) (t u v w x y : Tok) : Gives (Builtin.«math.gcd» ⟨[.int a t, .int b u, .int c v, .int d w, .int i x, .int j y], []⟩) (.int ((((((((Nat.gcd 0 a.natAbs).gcd b.natAbs).gcd c.natAbs).gcd d.natAbs).gcd i.natAbs).gcd j.natAbs : Nat) : Int))) :=
  .of_wp fun M A E s Q h => by obtain ⟨hp, g, d, tk, os⟩ := s; wp_walk; exact ⟨_, rfl, h⟩
def gcdAll (ns : List Int) : Nat := ns.foldl (fun g n => g.gcd n.natAbs) 0
def rGcdN : List V → Hp → VK → Prop := fun vs H Q => ∃ ns : List Int, vs = ns.map V.int ∧ (ns.length = 2 ∨ ns.length = 4 ∨ ns.length = 6) ∧ Q (.int (gcdAll ns : Int)) H
theorem vals_ints : ∀ {ns : List Int} {us : List Value}, Vals (ns.map V.int) us → ∃ ts : List Tok, ts.length = ns.length ∧ us = List.zipWith Value.int ns ts
  | [], _, .nil => ⟨[], rfl, rfl⟩
  | n :: ns, _, .cons ⟨t, h⟩ r => by
    obtain ⟨ts, h1, h2⟩ := vals_ints r
    exact ⟨t :: ts, by simp [h1], by rw [h, h2] <;> rfl⟩
theorem cr_gcdN {X : Cx} : CallR X (.builtin "math.gcd") rGcdN := by
  intro pins s σ H vs us Q I r h
  obtain ⟨ns, rfl, hl, q⟩ := h
  obtain ⟨ts, h1, rfl⟩ := vals_ints r
  rcases hl with hl | hl | hl
  · match ns, ts, hl, h1, q with
    | [a, b], [t, u], _, _, q =>
      exact call_function_meets PySem.W.MGF.kind_gcd PySem.W.MGF.plain_gcd PySem.W.MGF.entry_gcd (PySem.W.MGF.args_gcd _ _) (PySem.W.mg_run_gcd a t b u).meets ⟨.int _, H, I.tok _, ⟨_, rfl⟩, q⟩
  · match ns, ts, hl, h1, q with
    | [a, b, c, d], [t, u, v, w], _, _, q =>
      exact call_function_meets PySem.W.MGF.kind_gcd PySem.W.MGF.plain_gcd PySem.W.MGF.entry_gcd (args_gcd4 _ _ _ _) (run_gcd4 a b c d t u v w).meets ⟨.int _, H, I.tok _, ⟨_, rfl⟩, q⟩
  · match ns, ts, hl, h1, q with
    | [a, b, c, d, i, j], [t, u, v, w, x, y], _, _, q =>
      exact call_function_meets PySem.W.MGF.kind_gcd PySem.W.MGF.plain_gcd PySem.W.MGF.entry_gcd (args_gcd6 _ _ _ _ _ _) (run_gcd6 a b c d i j t u v w x y).meets ⟨.int _, H, I.tok _, ⟨_, rfl⟩, q⟩
def dGcd (ds : List D) : Option D := (intsOf ds).bind fun ns => if ns.length = 2 ∨ ns.length = 4 ∨ ns.length = 6 then some (.int (gcdAll ns : Int)) else none
theorem rss_shs {K : PySem.W.Frag} {B H : Hp} : ∀ {ds : List D} {vs : List V} {ns : List Int}, RSs K B H ds vs → intsOf ds = some ns → vs = ns.map V.int
  | [], _, _, h, e => by cases (show _ = _ from h); cases e; rfl
  | .int i :: ds, _, ns, ⟨v, us, rfl, h1, r⟩, e => by
    cases (show Sh K B (.int i) v from h1)
    cases q : intsOf ds with
    | none =>
      rw [intsOf, q] at e
      cases e
    | some ms =>
      rw [intsOf, q] at e
      cases e
      rw [rss_shs r q] <;> rfl
  | .non :: _, _, _, _, e => by cases e
  | .bl _ :: _, _, _, _, e => by cases e
  | .str _ :: _, _, _, _, e => by cases e
  | .ty _ :: _, _, _, _, e => by cases e
  | .ref _ :: _, _, _, _, e => by cases e
  | .tup _ :: _, _, _, _, e => by cases e
  | .lst _ :: _, _, _, _, e => by cases e
  | .klst _ :: _, _, _, _, e => by cases e
  | .own _ :: _, _, _, _, e => by cases e
  | .bor _ :: _, _, _, _, e => by cases e
  | .al _ :: _, _, _, _, e => by cases e
theorem ok_gcd {K : PySem.W.Frag} : CallD K rGcdN dGcd := by
  intro B H ds vs z Q e r ho k
  unfold dGcd at ho
  cases q : intsOf ds with
  | none =>
    rw [q] at ho
    cases ho
  | some ns =>
    rw [q] at ho
    have ho : (if ns.length = 2 ∨ ns.length = 4 ∨ ns.length = 6 then some (D.int (gcdAll ns : Int)) else none) = some z := ho
    by_cases hl : ns.length = 2 ∨ ns.length = 4 ∨ ns.length = 6
    · rw [if_pos hl] at ho
      cases ho
      exact ⟨ns, rss_shs r q, hl, k _ B H (Grow.refl e) (.int _)⟩
    · rw [if_neg hl] at ho
      cases ho
end DL
end

section
set_option maxRecDepth 100000
set_option maxHeartbeats 2000000
namespace DL
open PySem L2
open Evl (Ex)
section
variable {X : Cx} {c : Ctx} {W : WX} {K : PySem.W.Frag}

/-! ### and, or, not, a if t else b, - -/
def tAndD (a b : M Bool) : M Bool := mbind a fun k => if k = true then b else mret false
def tOrD (a b : M Bool) : M Bool := mbind a fun k => if k = true then mret true else b
def tNotD (a : M Bool) : M Bool := mbind a fun k => mret (!k)
theorem and_conv {a b : M Bool} : ∀ σ H Q, liftT X.K c W (tAndD a b) σ H Q → tAnd (liftT X.K c W a) (liftT X.K c W b) σ H Q := fun σ H Q q => by
  obtain ⟨T, B, e, st, m⟩ := q
  refine ⟨T, B, e, st, m.bind.imp fun k e1 B1 H1 x1 m1 st1 => ?_⟩
  cases k with
  | true => exact ⟨T, B1, e1, st1, m1⟩
  | false => exact m1 B1 H1 (Evl.Ex.refl _) st1
theorem or_conv {a b : M Bool} : ∀ σ H Q, liftT X.K c W (tOrD a b) σ H Q → tOr (liftT X.K c W a) (liftT X.K c W b) σ H Q := fun σ H Q q => by
  obtain ⟨T, B, e, st, m⟩ := q
  refine ⟨T, B, e, st, m.bind.imp fun k e1 B1 H1 x1 m1 st1 => ?_⟩
  cases k with
  | true => exact m1 B1 H1 (Evl.Ex.refl _) st1
  | false => exact ⟨T, B1, e1, st1, m1⟩
theorem PW_of {e : Expr} {t t' : TT} (h : PW X e t) (k : ∀ σ H Q, t' σ H Q → t σ H Q) : PW X e t' := ⟨fun wh pins s σ H Q I q => h.run wh pins s σ H Q I (k σ H Q q)⟩
theorem dw_and1 {a : Expr} {f : M Bool} {pos : Pos} (h : PT X a (liftT X.K c W f)) : PW X (.BoolOp .And [a] pos) (liftT X.K c W f) := pw_and1 h
theorem dw_or1 {a : Expr} {f : M Bool} {pos : Pos} (h : PT X a (liftT X.K c W f)) : PW X (.BoolOp .Or [a] pos) (liftT X.K c W f) := pw_or1 h
theorem dw_and {a b : Expr} {rest : List Expr} {f g : M Bool} {pos : Pos} (h : PT X a (liftT X.K c W f)) (r : PW X (.BoolOp .And (b :: rest) pos) (liftT X.K c W g)) : PW X (.BoolOp .And (a :: b :: rest) pos) (liftT X.K c W (tAndD f g)) := PW_of (pw_and h r) and_conv
theorem dw_or {a b : Expr} {rest : List Expr} {f g : M Bool} {pos : Pos} (h : PT X a (liftT X.K c W f)) (r : PW X (.BoolOp .Or (b :: rest) pos) (liftT X.K c W g)) : PW X (.BoolOp .Or (a :: b :: rest) pos) (liftT X.K c W (tOrD f g)) := PW_of (pw_or h r) or_conv
theorem dt_not {a : Expr} {f : M Bool} {pos : Pos} (h : PT X a (liftT X.K c W f)) : PT X (.UnaryOp .Not a pos) (liftT X.K c W (tNotD f)) := PT_of (pt_not h) fun σ H Q q => by
  obtain ⟨T, B, e, st, m⟩ := q
  exact ⟨T, B, e, st, m.bind.imp fun k e1 B1 H1 x1 m1 st1 => m1 B1 H1 (Evl.Ex.refl _) st1⟩
/-- as values -/
def eAndD (a b : M D) : M D := mbind a fun x => match x with
  | .bl k => if k = true then b else mret (.bl false)
  | _ => fun _ => .no
def eOrD (a b : M D) : M D := mbind a fun x => match x with
  | .bl k => if k = true then mret (.bl true) else b
  | _ => fun _ => .no
def eNotD (a : M D) : M D := mbind a fun x => match x with
  | .bl k => mret (.bl (!k))
  | _ => fun _ => .no
theorem de_one {a : Expr} {o} {f : M D} {pos : Pos} (h : PE X a (lift X.K c W f)) : PE X (.BoolOp o [a] pos) (lift X.K c W f) := pe_one h
theorem de_and {a b : Expr} {rest : List Expr} {f g : M D} {pos : Pos} (h : PE X a (lift X.K c W f)) (r : PE X (.BoolOp .And (b :: rest) pos) (lift X.K c W g)) : PE X (.BoolOp .And (a :: b :: rest) pos) (lift X.K c W (eAndD f g)) := PE_of (pe_and h r) fun σ H Q q => by
  obtain ⟨T, B, e, st, m⟩ := q
  refine ⟨T, B, e, st, m.bind.imp fun x e1 B1 H1 x1 m1 st1 v rv => ?_⟩
  cases x with
  | bl k =>
    cases rv
    refine ⟨k, rfl, ?_⟩
    cases k with
    | true => exact ⟨T, B1, e1, st1, m1⟩
    | false => exact m1 B1 H1 (Evl.Ex.refl _) st1 _ (RT.of (.bl false))
  | _ => exact m1.elim
theorem de_or {a b : Expr} {rest : List Expr} {f g : M D} {pos : Pos} (h : PE X a (lift X.K c W f)) (r : PE X (.BoolOp .Or (b :: rest) pos) (lift X.K c W g)) : PE X (.BoolOp .Or (a :: b :: rest) pos) (lift X.K c W (eOrD f g)) := PE_of (pe_or h r) fun σ H Q q => by
  obtain ⟨T, B, e, st, m⟩ := q
  refine ⟨T, B, e, st, m.bind.imp fun x e1 B1 H1 x1 m1 st1 v rv => ?_⟩
  cases x with
  | bl k =>
    cases rv
    refine ⟨k, rfl, ?_⟩
    cases k with
    | true => exact m1 B1 H1 (Evl.Ex.refl _) st1 _ (RT.of (.bl true))
    | false => exact ⟨T, B1, e1, st1, m1⟩
  | _ => exact m1.elim
theorem de_not {a : Expr} {f : M D} {pos : Pos} (h : PE X a (lift X.K c W f)) : PE X (.UnaryOp .Not a pos) (lift X.K c W (eNotD f)) := PE_of (pe_not h) fun σ H Q q => by
  obtain ⟨T, B, e, st, m⟩ := q
  refine ⟨T, B, e, st, m.bind.imp fun x e1 B1 H1 x1 m1 st1 v rv => ?_⟩
  cases x with
  | bl k =>
    cases rv
    exact ⟨k, rfl, m1 B1 H1 (Evl.Ex.refl _) st1 _ (RT.of (.bl _))⟩
  | _ => exact m1.elim
def eIf (t : M Bool) (a b : M D) : M D := mbind t fun k => if k = true then a else b
theorem de_if {t a b : Expr} {f : M Bool} {g h : M D} {pos : Pos} (ht : PT X t (liftT X.K c W f)) (ha : PE X a (lift X.K c W g)) (hb : PE X b (lift X.K c W h)) : PE X (.IfExp t a b pos) (lift X.K c W (eIf f g h)) := PE_of (pe_ifExp ht ha hb) fun σ H Q q => by
  obtain ⟨T, B, e, st, m⟩ := q
  refine ⟨T, B, e, st, m.bind.imp fun k e1 B1 H1 x1 m1 st1 => ?_⟩
  cases k with
  | true => exact ⟨T, B1, e1, st1, m1⟩
  | false => exact ⟨T, B1, e1, st1, m1⟩
def dNeg : D → Option D
  | .int i => some (.int (-i))
  | _ => none
theorem de_neg {a : Expr} {f : M D} {pos : Pos} (h : PE X a (lift X.K c W f)) : PE X (.UnaryOp .USub a pos) (lift X.K c W (eUn dNeg f)) := PE_of (pe_un un_neg h) fun σ H Q q => by
  obtain ⟨T, B, e, st, m⟩ := q
  refine ⟨T, B, e, st, m.bind.imp fun x e1 B1 H1 x1 m1 st1 v rv => ?_⟩
  have m1 : Pst X.K c T W σ B1 (mopt (dNeg (rs e1 x)) e1) _ := m1
  have r := rs_ok st1 rv
  cases q : rs e1 x with
  | int i =>
    rw [q] at m1 r
    cases (show Sh X.K B1 (.int i) v from r)
    exact ⟨i, rfl, m1 B1 H1 (Evl.Ex.refl _) st1 _ (RT.of (.int _))⟩
  | _ =>
    rw [q] at m1
    exact m1.elim
/-- a value's truth as a test -/
def dTru (x : D) : Option Bool := match x with
  | .non => some false
  | .bl b => some b
  | .int i => some (i != 0)
  | .str s => if s.length ≤ 1000000 then some ((s.length : Int) != 0) else none
  | .tup xs => some (!xs.isEmpty)
  | x => (lsqA x).map fun xs => !xs.isEmpty
def tTruD (f : M D) : M Bool := mbind f fun x => fun e => mopt (dTru (rs e x)) e
theorem isEmpty_len {α β : Type} {xs : List α} {ys : List β} (h : xs.length = ys.length) : (!xs.isEmpty) = !ys.isEmpty := by
  cases xs with
  | nil => cases ys with
    | nil => rfl
    | cons _ _ => cases h
  | cons _ _ => cases ys with
    | nil => cases h
    | cons _ _ => rfl
theorem tru_D {B H : Hp} {x : D} {v : V} {k : Bool} (e : Ex B H) (r : RS K B H x v) (ho : dTru x = some k) : TruV K v H k := by
  unfold dTru at ho
  split at ho
  · cases ho; cases (show Sh K B .non v from r); rfl
  · rename_i b; cases ho; cases (show Sh K B (.bl k) v from r); rfl
  · rename_i i; cases ho; cases (show Sh K B (.int i) v from r); rfl
  · rename_i s
    cases (show Sh K B (.str s) v from r)
    by_cases hl : s.length ≤ 1000000
    · rw [if_pos hl] at ho
      cases ho
      exact ⟨line_ok hl, rfl⟩
    · rw [if_neg hl] at ho
      cases ho
  · rename_i xs
    cases ho
    obtain ⟨a, us, rfl, h1, h2⟩ := tsq_ok e r (show tsq (.tup xs) = some xs from rfl)
    exact .inr (.inl ⟨us, h1, isEmpty_len h2.length⟩)
  · cases q : lsqA x with
    | none =>
      rw [q] at ho
      cases ho
    | some xs =>
      rw [q] at ho
      cases ho
      obtain ⟨a, us, G, rfl, h1, h2⟩ := lsqA_ok e r q
      exact .inl ⟨us, h1, isEmpty_len h2.length⟩
theorem dt_tru {x : Expr} {f : M D} (h : PE X x (lift X.K c W f)) (he : ∀ whole, isTrue x X.env whole = (do let v ← whole; standAt x.pos; holding [v] (truthy v)) := by intro _; rfl) : PT X x (liftT X.K c W (tTruD f)) := PT_of (pt_truth h he) fun σ H Q q => by
  obtain ⟨T, B, e, st, m⟩ := q
  refine ⟨T, B, e, st, m.bind.imp fun d e1 B1 H1 x1 m1 st1 v rv => ?_⟩
  have m1 : Pst X.K c T W σ B1 (mopt (dTru (rs e1 d)) e1) _ := m1
  cases ho : dTru (rs e1 d) with
  | none =>
    rw [ho] at m1
    exact m1.elim
  | some k =>
    rw [ho] at m1
    exact ⟨k, tru_D st1.ex (rs_ok st1 rv) ho, m1 B1 H1 (Evl.Ex.refl _) st1⟩

/-! ### a list of one's own changed -/
/-- what an alias stands for -/
def ownAt (e : Env) (d : D) : Option (Nat × D × List D) := match d with
  | .al i => (match e[i]? with
    | some (some (.own xs)) => some (i, .own xs, xs)
    | some (some (.bor xs)) => some (i, .bor xs, xs)
    | _ => none)
  | _ => none
theorem ownAt_ok {T : List (Addr × HO)} {B H : Hp} {σ : L2.St} {e : Env} {d d0 : D} {v : V} {i : Nat} {xs : List D} (st : StOk K c T B H σ e) (r : RT K B σ d v) (h : ownAt e d = some (i, d0, xs)) :
    e[i]? = some (some d0) ∧ (d0 = .own xs ∨ d0 = .bor xs) ∧ ∃ a vs G, v = .ref a ∧ σ[i]? = some (some (.ref a)) ∧ H a = some (.lst vs) ∧ Ows K B H xs vs G := by
  unfold ownAt at h
  split at h
  · rename_i j
    obtain ⟨fp, s1, _⟩ := st.slots
    split at h
    · rename_i ys q
      cases h
      obtain ⟨u, hu, ow, _⟩ := s1 _ _ q
      rw [show σ[i]? = some (some v) from r] at hu
      cases hu
      have ow := ow.inv
      obtain ⟨a, vs, G, rfl, _, q3, _, q5⟩ := ow
      exact ⟨q, .inl rfl, a, vs, G, rfl, r, q3, q5⟩
    · rename_i ys q
      cases h
      obtain ⟨u, hu, ow, _⟩ := s1 _ _ q
      rw [show σ[i]? = some (some v) from r] at hu
      cases hu
      have ow := ow.inv
      obtain ⟨a, vs, G, rfl, _, q3, _, q5⟩ := ow
      exact ⟨q, .inr rfl, a, vs, G, rfl, r, q3, q5⟩
    · cases h
  · cases h
theorem RT.al_keep {B B' : Hp} {σ : L2.St} {d : D} {v : V} {e : Env} {z : Nat × D × List D} (h : RT K B σ d v) (q : ownAt e d = some z) : RT K B' σ d v := by
  cases d with
  | al i => exact h
  | _ => cases q
theorem ownAt_al {e : Env} {d d0 : D} {i : Nat} {xs : List D} (h : ownAt e d = some (i, d0, xs)) : d = .al i := by
  unfold ownAt at h
  split at h
  · split at h <;> cases h <;> rfl
  · cases h
/-- x.append(y) -/
def appE (e : Env) (o y : D) : Option Env := (ownAt e o).bind fun t => if (t.2.2.all isSh) = true ∧ isSh y = true ∧ t.2.2.length < 1000000 then some (e.set t.1 (relab (some t.2.1) (t.2.2 ++ [y]))) else none
def sApp (fo fy : M D) : M Fl := mbind fo fun o => fun e => if (ownAt e o).isSome = true then (mbind fy fun y => fun e => match appE e o y with
  | some e' => .ok .nx e'
  | none => .no) e else .no
theorem ds_app {o y : Expr} {fo fy : M D} {apos cpos pos : Pos} (ho : PE X o (lift X.K c W fo)) (hy : PE X y (lift X.K c W fy))
    (hs : swapsWith (.Call (.Attribute o "append" apos) [y] [] cpos) none pos.line X.env = pure false := by rfl)
    (hbase : attributeBase o "append" X.env (eval o X.env) = eval o X.env := by rfl)
    (hfew : ((backTo cpos (starEach (y :: []) X.env)).all (fun x => !x.1) && (backToKw cpos (keywordEach [] X.env)).all (fun x => x.1.isSome)
      && decide ((y :: []).length + ([] : List Keyword).length + (if ([] : List Keyword).isEmpty then 0 else 1) < 30)) = true := by rfl)
    (hline : (apos.endLine == cpos.line) = true := by rfl) (he : starEach (y :: []) X.env = (false, eval y X.env) :: starEach [] X.env := by rfl) :
    PS X (.Expr (.Call (.Attribute o "append" apos) [y] [] cpos) pos) (liftS X.K c W (sApp fo fy)) :=
  PS_of (ps_expr (pe_bm PySem.F.plainAttrs_list PySem.F.slot_list_append PySem.F.type_list_append mt_append ho (pa_cons hy pa_nil he) hbase hfew hline he) hs) fun Dn σ H q => by
    obtain ⟨B, e, st, m⟩ := q
    refine ⟨[], B, e, st, (Pst.go (σ := σ) (show SEnd X.K c W B Dn ((fo e).bind _) from m)).imp fun d e1 B1 H1 x1 m1 st1 v rv => ?_⟩
    by_cases hi : (ownAt e1 d).isSome = true
    · have m1 : SEnd X.K c W B1 Dn ((fy e1).bind fun y => fun e => match appE e d y with
        | some e' => .ok .nx e'
        | none => .no) := by
        have m1 : SEnd X.K c W B1 Dn (if (ownAt e1 d).isSome = true then _ else _) := m1
        rw [if_pos hi] at m1
        exact m1
      obtain ⟨z, hz⟩ := Option.isSome_iff_exists.mp hi
      obtain ⟨i, d0, xs⟩ := z
      obtain ⟨a1, a2, a, vs, G, rfl, a3, a4, a5⟩ := ownAt_ok st1 rv hz
      refine ⟨.inl ⟨rfl, vs, SqL.of a4⟩, [], B1, e1, st1, (Pst.go (σ := σ) m1).imp fun y e2 B2 H2 x2 m2 st2 u ru => ?_⟩
      have m2 : SEnd X.K c W B2 Dn (match appE e2 d y with
        | some e' => .ok .nx e'
        | none => .no) := m2
      cases q : appE e2 d y with
      | none =>
        rw [q] at m2
        exact m2.elim
      | some e' =>
        rw [q] at m2
        unfold appE at q
        cases q2 : ownAt e2 d with
        | none =>
          rw [q2] at q
          cases q
        | some t =>
          obtain ⟨j, d1, ys⟩ := t
          rw [q2] at q
          have q : (if (ys.all isSh) = true ∧ isSh y = true ∧ ys.length < 1000000 then some (e2.set j (relab (some d1) (ys ++ [y]))) else none) = some e' := q
          by_cases hc : (ys.all isSh) = true ∧ isSh y = true ∧ ys.length < 1000000
          · rw [if_pos hc] at q
            cases q
            obtain ⟨b1, b2, b, us, G', eb, b3, b4, b5⟩ := ownAt_ok st2 (rv.al_keep hz) q2
            cases eb
            have r := b5.shs hc.1
            refine ⟨a, us, u, rfl, rfl, b4, Nat.lt_of_lt_of_le (by rw [← b5.length]; exact hc.2.2) (line_ok (Nat.le_refl _)), ?_⟩
            exact m2 σ B2 _ (Evl.Ex.refl _) (st2.write b1 b2 b3 b4 (by rw [List.all_append, hc.1]; simp [hc.2.1]) (r.append (.cons (ru.sh hc.2.1) .nil)))
          · rw [if_neg hc] at q
            cases q
    · exfalso
      have m1 : SEnd X.K c W B1 Dn (if (ownAt e1 d).isSome = true then _ else _) := m1
      rw [if_neg hi] at m1
      exact m1
/-- x[i] = y -/
def subE (e : Env) (o i y : D) : Option Env := match i with
  | .int k => (ownAt e o).bind fun t => (ixN t.2.2.length k).bind fun j => if (t.2.2.all isSh) = true ∧ isSh y = true then some (e.set t.1 (relab (some t.2.1) (t.2.2.set j y))) else none
  | _ => none
def sSub (fo fi fy : M D) : M Fl := mbind fy fun y => if isSh y = true then mbind fo fun o => mbind fi fun i => fun e => match subE e o i y with
  | some e' => .ok .nx e'
  | none => .no
  else fun _ => .no
theorem Shs.set {B : Hp} {d : D} {v : V} (h : Sh K B d v) : ∀ {ds : List D} {vs : List V} (i : Nat), Shs K B ds vs → Shs K B (ds.set i d) (vs.set i v)
  | _, _, _, .nil => .nil
  | _, _, 0, .cons _ r => .cons h r
  | _, _, i + 1, .cons h' r => .cons h' (Shs.set h i r)
theorem ds_sub {o i y : Expr} {fo fi fy : M D} {spos pos : Pos} (ho : PE X o (lift X.K c W fo)) (hi : PE X i (lift X.K c W fi)) (hy : PE X y (lift X.K c W fy))
    (hs : swapsWithSole [.Subscript o i spos] y pos.line X.env = pure false := by rfl) (hw : swappedStores [.Subscript o i spos] y X.env = pure none := by rfl)
    (h1 : (assignEach [.Subscript o i spos] X.env).map (·.2) = [assign (.Subscript o i spos) X.env] := by rfl)
    (ha : ∀ v, assign (.Subscript o i spos) X.env v = (do
      let ov ← holding [v] (eval o X.env)
      let iv ← holding [v, ov] (eval i X.env)
      standAt spos
      holding [v, ov, iv] (setItem ov iv v)
      release [v, ov, iv] []) := by intro _; rfl) :
    PS X (.Assign [.Subscript o i spos] y pos) (liftS X.K c W (sSub fo fi fy)) :=
  PS_of (ps_asg hy (pg_sub ho hi set_list ha) hs hw h1) fun Dn σ H q => by
    obtain ⟨B, e, st, m⟩ := q
    refine ⟨[], B, e, st, (Pst.go (σ := σ) (show SEnd X.K c W B Dn ((fy e).bind _) from m)).imp fun y e1 B1 H1 x1 m1 st1 u ru => ?_⟩
    by_cases hy : isSh y = true
    · rw [if_pos hy] at m1
      refine ⟨[], B1, e1, st1, (Pst.go (σ := σ) m1).imp fun d e2 B2 H2 x2 m2 st2 v rv => ?_⟩
      refine ⟨[], B2, e2, st2, (Pst.go (σ := σ) m2).imp fun k e3 B3 H3 x3 m3 st3 w rw' => ?_⟩
      have m3 : SEnd X.K c W B3 Dn (match subE e3 d k y with
        | some e' => .ok .nx e'
        | none => .no) := m3
      cases q : subE e3 d k y with
      | none =>
        rw [q] at m3
        exact m3.elim
      | some e' =>
        rw [q] at m3
        unfold subE at q
        cases k with
        | int k =>
          cases rw'
          have q : ((ownAt e3 d).bind fun t => (ixN t.2.2.length k).bind fun j => if (t.2.2.all isSh) = true ∧ isSh y = true then some (e3.set t.1 (relab (some t.2.1) (t.2.2.set j y))) else none) = some e' := q
          cases q2 : ownAt e3 d with
          | none =>
            rw [q2] at q
            cases q
          | some t =>
            obtain ⟨j, d1, ys⟩ := t
            rw [q2] at q
            have q : ((ixN ys.length k).bind fun n => if (ys.all isSh) = true ∧ isSh y = true then some (e3.set j (relab (some d1) (ys.set n y))) else none) = some e' := q
            cases q3 : ixN ys.length k with
            | none =>
              rw [q3] at q
              cases q
            | some n =>
              rw [q3] at q
              have q : (if (ys.all isSh) = true ∧ isSh y = true then some (e3.set j (relab (some d1) (ys.set n y))) else none) = some e' := q
              by_cases hc : (ys.all isSh) = true ∧ isSh y = true
              · rw [if_pos hc] at q
                cases q
                obtain ⟨b1, b2, b, us, G', rfl, b3, b4, b5⟩ := ownAt_ok st3 (rv.al_keep q2) q2
                have r := b5.shs hc.1
                refine ⟨b, us, k, n, rfl, rfl, b4, by rw [← r.length]; exact q3, ?_⟩
                exact m3 σ B3 _ (Evl.Ex.refl _) (st3.write b1 b2 b3 b4 (List.all_eq_true.mpr fun z mz => by
                  rcases List.mem_or_eq_of_mem_set mz with mz | mz
                  · exact List.all_eq_true.mp hc.1 z mz
                  · rw [mz]
                    exact hc.2) (r.set ((ru.mono (x2.trans x3)).sh hy) n))
              · rw [if_neg hc] at q
                cases q
        | _ => cases q
    · rw [if_neg hy] at m1
      exact m1.elim
end
end DL
end

section
set_option maxRecDepth 100000
set_option maxHeartbeats 2000000
namespace DL
open PySem L2
open Evl (Ex)
section
variable {X : Cx} {c : Ctx} {W : WX} {K : PySem.W.Frag}

/-! ### targets -/
abbrev TgF := D → Env → Option Env
/-- the slots at S may change -/
def liftG (K : PySem.W.Frag) (c : Ctx) (S : List Nat) (t : TgF) : TG := fun v σ H Q => ∃ T B e d, StOk K c T B H σ e ∧ Sh K B d v ∧ match t d e with
  | some e' => ∀ σ' B' H', σ'.length = σ.length → (∀ i, i ∉ S → σ'[i]? = σ[i]?) → Ex B B' → StOk K c T B' H' σ' e' → Q σ' H'
  | none => False
def liftGs (K : PySem.W.Frag) (c : Ctx) (S : List Nat) (t : List D → Env → Option Env) : TGs := fun vs σ H Q => ∃ T B e ds, StOk K c T B H σ e ∧ Shs K B ds vs ∧ match t ds e with
  | some e' => ∀ σ' B' H', σ'.length = σ.length → (∀ i, i ∉ S → σ'[i]? = σ[i]?) → Ex B B' → StOk K c T B' H' σ' e' → Q σ' H'
  | none => False
def gN (i : Nat) : TgF := fun d e => some (e.set i (some d))
def gsNil : List D → Env → Option Env := fun ds e => match ds with
  | [] => some e
  | _ => none
def gsCons (t : TgF) (u : List D → Env → Option Env) : List D → Env → Option Env := fun ds e => match ds with
  | d :: r => (t d e).bind (u r)
  | [] => none
/-- of a sequence of n items -/
def gT (n : Nat) (t : List D → Env → Option Env) : TgF := fun d e => match d with
  | .tup xs => if xs.length = n then t xs e else none
  | .lst xs => if xs.length = n then t xs e else none
  | .klst xs => if xs.length = n then t xs e else none
  | _ => none
theorem PG_of {x : Expr} {t t' : TG} (h : PG X x t) (k : ∀ v σ H Q, t' v σ H Q → t v σ H Q) : PG X x t' := ⟨fun pins s σ H v u Q I r q => h.run pins s σ H v u Q I r (k v σ H Q q)⟩
theorem PGs_of {x : List Expr} {t t' : TGs} (h : PGs X x t) (k : ∀ v σ H Q, t' v σ H Q → t v σ H Q) : PGs X x t' := ⟨fun pins s σ H v u Q I r q => h.run pins s σ H v u Q I r (k v σ H Q q)⟩
theorem PG_or {x : Expr} {t u : TG} (h : PG X x t) (h' : PG X x u) : PG X x (fun v σ H Q => t v σ H Q ∨ u v σ H Q) := ⟨fun pins s σ H v w Q I r q => by
  rcases q with q | q
  · exact h.run pins s σ H v w Q I r q
  · exact h'.run pins s σ H v w Q I r q⟩
theorem dg_name {i : Nat} {x : Str} {pos : Pos} (hN : X.N.Nodup) (hi : X.N[i]? = some x) (hx : Loc X.env.scope x) (hf : X.fn x = true ∨ X.env.scope.names.lookup x = some .local := by first | exact .inl rfl | exact .inr rfl | assumption) : PG X (.Name x pos) (liftG X.K c [i] (gN i)) :=
  PG_of (pg_name hN hi hx hf) fun v σ H Q q => by
    obtain ⟨T, B, e, d, st, sh, m⟩ := q
    refine m (σ.set i (some v)) B H (by rw [List.length_set]) (fun j hj => ?_) (Evl.Ex.refl B) (st.set sh)
    rw [List.getElem?_set_ne (fun z => hj (by simp [z]))]
theorem dgs_nil : PGs X [] (liftGs X.K c [] gsNil) := PGs_of pgs_nil fun vs σ H Q q => by
  obtain ⟨T, B, e, ds, st, sh, m⟩ := q
  cases ds with
  | nil =>
    cases sh
    exact ⟨rfl, m σ B H rfl (fun _ _ => rfl) (Evl.Ex.refl B) st⟩
  | cons d r => exact m.elim
theorem dgs_cons {x : Expr} {xs : List Expr} {S S' : List Nat} {t : TgF} {u : List D → Env → Option Env} (h : PG X x (liftG X.K c S t)) (r : PGs X xs (liftGs X.K c S' u))
    (hs : (assignEach (x :: xs) X.env).map (·.2) = assign x X.env :: (assignEach xs X.env).map (·.2) := by rfl) : PGs X (x :: xs) (liftGs X.K c (S ++ S') (gsCons t u)) := PGs_of (pgs_cons h r hs) fun vs σ H Q q => by
  obtain ⟨T, B, e, ds, st, sh, m⟩ := q
  cases ds with
  | nil => exact m.elim
  | cons d ds =>
    cases sh with
    | @cons _ v _ vs h1 h2 =>
      have m : match (t d e).bind (u ds) with
        | some e' => ∀ σ' B' H', σ'.length = σ.length → (∀ i, i ∉ S ++ S' → σ'[i]? = σ[i]?) → Ex B B' → StOk X.K c T B' H' σ' e' → Q σ' H'
        | none => False := m
      refine ⟨v, vs, rfl, T, B, e, d, st, h1, ?_⟩
      cases q : t d e with
      | none =>
        rw [q] at m
        exact m.elim
      | some e1 =>
        rw [q] at m
        exact fun σ1 B1 H1 l1 k1 x1 st1 => ⟨T, B1, e1, ds, st1, h2.mono x1, by
          have m : match u ds e1 with
            | some e' => ∀ σ' B' H', σ'.length = σ.length → (∀ i, i ∉ S ++ S' → σ'[i]? = σ[i]?) → Ex B B' → StOk X.K c T B' H' σ' e' → Q σ' H'
            | none => False := m
          cases q2 : u ds e1 with
          | none =>
            rw [q2] at m
            exact m.elim
          | some e2 =>
            rw [q2] at m
            exact fun σ2 B2 H2 l2 k2 x2 st2 => m σ2 B2 H2 (l2.trans l1) (fun i hi => (k2 i fun z => hi (List.mem_append_right _ z)).trans (k1 i fun z => hi (List.mem_append_left _ z))) (x1.trans x2) st2⟩
theorem dg_tup {es : List Expr} {k : Nat} {S : List Nat} {t : List D → Env → Option Env} {n : Nat} {pos : Pos} (hc : X.calm = true) (h : PGs X es (liftGs X.K c S t))
    (hn : (assignEach es X.env).length = n := by rfl) (hst : (assignEach es X.env).findIdx? (·.1) = none := by rfl) : PG X (.Tuple es k pos) (liftG X.K c S (gT n t)) :=
  PG_of (PG_or (pg_tup hc h hn hst) (pg_lst hc h hn hst)) fun v σ H Q q => by
    obtain ⟨T, B, e, d, st, sh, m⟩ := q
    cases d with
    | tup xs =>
      have m : match (if xs.length = n then t xs e else none) with
        | some e' => _
        | none => False := m
      by_cases hl : xs.length = n
      · rw [if_pos hl] at m
        cases sh with
        | tup h1 r => exact .inl ⟨_, _, rfl, Evl.ex_t st.bh h1, r.length.symm.trans hl, T, B, e, xs, st, r, m⟩
      · rw [if_neg hl] at m
        exact m.elim
    | lst xs =>
      have m : match (if xs.length = n then t xs e else none) with
        | some e' => _
        | none => False := m
      by_cases hl : xs.length = n
      · rw [if_pos hl] at m
        cases sh with
        | lst h1 r => exact .inr ⟨_, _, rfl, SqL.of (st.bh _ _ h1), r.length.symm.trans hl, T, B, e, xs, st, r, m⟩
      · rw [if_neg hl] at m
        exact m.elim
    | klst xs =>
      have m : match (if xs.length = n then t xs e else none) with
        | some e' => _
        | none => False := m
      by_cases hl : xs.length = n
      · rw [if_pos hl] at m
        cases sh with
        | klst h1 r => exact .inr ⟨_, _, rfl, Evl.ex_l st.bh h1, r.length.symm.trans hl, T, B, e, xs, st, r, m⟩
      · rw [if_neg hl] at m
        exact m.elim
    | _ => exact m.elim
/-- (a, b) = e -/
def sUnp (t : TgF) (f : M D) : M Fl := mbind f fun d => if isSh d = true then fun e => match t d e with
  | some e' => .ok .nx e'
  | none => .no
  else fun _ => .no
theorem ds_unp {tg x : Expr} {S : List Nat} {t : TgF} {f : M D} {pos : Pos} (h : PE X x (lift X.K c W f)) (hg : PG X tg (liftG X.K c S t)) (hs : swapsWithSole [tg] x pos.line X.env = pure false := by rfl) (hw : swappedStores [tg] x X.env = pure none := by rfl)
    (h1 : (assignEach [tg] X.env).map (·.2) = [assign tg X.env] := by rfl) : PS X (.Assign [tg] x pos) (liftS X.K c W (sUnp t f)) := PS_of (ps_asg h hg hs hw h1) fun Dn σ H q => by
  obtain ⟨B, e, st, m⟩ := q
  refine ⟨[], B, e, st, (Pst.go (σ := σ) (show SEnd X.K c W B Dn ((f e).bind _) from m)).imp fun d e1 B1 H1 x1 m1 st1 v rv => ?_⟩
  by_cases hs : isSh d = true
  · rw [if_pos hs] at m1
    have m1 : SEnd X.K c W B1 Dn (match t d e1 with
      | some e' => .ok .nx e'
      | none => .no) := m1
    refine ⟨[], B1, e1, d, st1, rv.sh hs, ?_⟩
    cases q : t d e1 with
    | none =>
      rw [q] at m1
      exact m1.elim
    | some e2 =>
      rw [q] at m1
      exact fun σ' B' H' _ _ x st' => m1 σ' B' H' x st'
  · rw [if_neg hs] at m1
    exact m1.elim
/-- a, b = x, y of local names -/
def sPar (i j : Nat) (fs : M (List D)) : M Fl := mbind fs fun ds => match ds with
  | [a, b] => if isSh a = true ∧ isSh b = true then fun e => .ok .nx ((e.set i (some a)).set j (some b)) else fun _ => .no
  | _ => fun _ => .no
theorem ds_par {i j : Nat} {x y : Str} {a b : Expr} {fs : M (List D)} {px py pt pos : Pos} {kt k2 pt2} (hc : X.calm = true) (hN : X.N.Nodup) (hi : X.N[i]? = some x) (hj : X.N[j]? = some y) (hij : i ≠ j)
    (hx : X.env.scope.names.lookup x = some .local) (hy : X.env.scope.names.lookup y = some .local) (ha : PA X [a, b] (liftA X.K c W fs))
    (hw : swappedStores [.Tuple [.Name x px, .Name y py] kt pt] (.Tuple [a, b] k2 pt2) X.env = pure (some [x, y]))
    (hs : swapsWithSole [.Tuple [.Name x px, .Name y py] kt pt] (.Tuple [a, b] k2 pt2) pos.line X.env = pure false := by rfl) :
    PS X (.Assign [.Tuple [.Name x px, .Name y py] kt pt] (.Tuple [a, b] k2 pt2) pos) (liftS X.K c W (sPar i j fs)) := PS_of (ps_par hc hN hi hj hij hx hy ha hw hs) fun Dn σ H q => by
  obtain ⟨B, e, st, m⟩ := q
  refine ⟨[], B, e, st, (Pst.go (σ := σ) (show SEnd X.K c W B Dn ((fs e).bind _) from m)).imp fun ds e1 B1 H1 x1 m1 st1 vs rv => ?_⟩
  cases ds with
  | nil => exact m1.elim
  | cons p ds => cases ds with
    | nil => exact m1.elim
    | cons q ds => cases ds with
      | nil =>
        have m1 : SEnd X.K c W B1 Dn ((if isSh p = true ∧ isSh q = true then fun e => .ok .nx ((e.set i (some p)).set j (some q)) else fun _ => .no : M Fl) e1) := m1
        obtain ⟨v, us, rfl, r1, v', us', rfl, r2, r3⟩ := rv
        cases (show _ = _ from r3)
        by_cases hs : isSh p = true ∧ isSh q = true
        · rw [if_pos hs] at m1
          exact ⟨v, v', rfl, m1 _ B1 H1 (Evl.Ex.refl _) ((st1.set (r1.sh hs.1)).set (r2.sh hs.2))⟩
        · rw [if_neg hs] at m1
          exact m1.elim
      | cons _ _ => exact m1.elim

/-! ### what is walked -/
structure ItOk (K : PySem.W.Frag) (B0 : Hp) (J : It) (ds : List D) : Prop where
  go : ∀ i B H, Ex B0 B → Ex B H → i < ds.length → J.go i H
  stop : ∀ i B H, Ex B0 B → Ex B H → ds.length ≤ i → J.stop i H
  yld : ∀ i B H x H', Ex B0 B → Ex B H → i < ds.length → J.yld i H x H' → ∃ B' d, Grow B H B' H' ∧ ds[i]? = some d ∧ Sh K B' d x
def liftI (K : PySem.W.Frag) (c : Ctx) (W : WX) (f : M (List D)) : TI := fun σ H R => ∃ T B e, StOk K c T B H σ e ∧ Pst K c T W σ B (f e) fun ds e' B' H' => StOk K c T B' H' σ e' → ∀ J, ItOk K B' J ds → R J H'
theorem PI_of {tg x : Expr} {t t' : TI} (h : PI X tg x t) (k : ∀ σ H R, t' σ H R → t σ H R) : PI X tg x t' := ⟨fun pins s σ H R I q => h.run pins s σ H R I (k σ H R q)⟩
theorem PI_or {tg x : Expr} {t u : TI} (h : PI X tg x t) (h' : PI X tg x u) : PI X tg x (fun σ H R => t σ H R ∨ u σ H R) := ⟨fun pins s σ H R I q => by
  rcases q with q | q
  · exact h.run pins s σ H R I q
  · exact h'.run pins s σ H R I q⟩
theorem it_tup {B0 : Hp} {a : Addr} {vs : List V} {ds : List D} (h : SqT K B0 a vs) (r : Shs K B0 ds vs) : ItOk K B0 (Itt K a) ds where
  go := fun i B H x y hi => ⟨vs, vs[i]'(by rw [← r.length]; exact hi), Evl.ex_t (x.trans y) h, by simp [← r.length, hi]⟩
  stop := fun i B H x y hi => ⟨vs, Evl.ex_t (x.trans y) h, by rw [← r.length]; exact hi⟩
  yld := fun i B H x H' e1 e2 hi hy => by
    obtain ⟨rfl, hy⟩ := hy
    have hd : ds[i]? = some (ds[i]) := by simp [hi]
    obtain ⟨w, h4, h5⟩ := r.get hd
    have hv := hy vs (Evl.ex_t (e1.trans e2) h)
    rw [h4] at hv
    cases hv
    exact ⟨B, ds[i], Grow.refl e2, hd, h5.mono e1⟩
theorem it_list {B0 : Hp} {a : Addr} {vs : List V} {ds : List D} (h : SqL K B0 a vs) (r : Shs K B0 ds vs) : ItOk K B0 (Itl K a) ds where
  go := fun i B H x y hi => ⟨vs, vs[i]'(by rw [← r.length]; exact hi), Evl.ex_l (x.trans y) h, by simp [← r.length, hi]⟩
  stop := fun i B H x y hi => ⟨vs, Evl.ex_l (x.trans y) h, by rw [← r.length]; exact hi⟩
  yld := fun i B H x H' e1 e2 hi hy => by
    obtain ⟨rfl, hy⟩ := hy
    have hd : ds[i]? = some (ds[i]) := by simp [hi]
    obtain ⟨w, h4, h5⟩ := r.get hd
    have hv := hy vs (Evl.ex_l (e1.trans e2) h)
    rw [h4] at hv
    cases hv
    exact ⟨B, ds[i], Grow.refl e2, hd, h5.mono e1⟩
theorem it_range {B0 : Hp} {lo : Int} {n : Nat} : ItOk K B0 (Itr lo n) ((List.range n).map fun i : Nat => D.int (lo + (i : Int))) where
  go := fun i B H _ _ hi => by
    have hi : i < n := by simpa using hi
    exact hi
  stop := fun i B H _ _ hi => by
    have hi : n ≤ i := by simpa using hi
    exact hi
  yld := fun i B H x H' e1 e2 hi hy => by
    obtain ⟨rfl, rfl⟩ := hy
    have hi : i < n := by simpa using hi
    exact ⟨B, .int (lo + i), Grow.refl e2, by simp [hi], .int _⟩
/-- a sequence -/
def seqSh : D → Option (List D)
  | .lst xs => some xs
  | .klst xs => some xs
  | .tup xs => some xs
  | _ => none
def eIter (f : M D) : M (List D) := mbind f fun d => mopt (seqSh d)
theorem di_seq {tg x : Expr} {f : M D} (h : PE X x (lift X.K c W f)) : PI X tg x (liftI X.K c W (eIter f)) := PI_of (PI_or (pi_list h) (pi_tup h)) fun σ H R q => by
  obtain ⟨T, B, e, st, m⟩ := q
  -- which of both it is, is told by the value that f gives
  have m2 := m.bind
  cases q : f e with
  | no =>
    rw [q] at m2
    exact m2.elim
  | ex y e' =>
    rw [q] at m2
    exact .inl ⟨T, B, e, st, by rw [q]; exact m2⟩
  | ok d e1 =>
    rw [q] at m2
    have goL : (∃ xs, d = .lst xs ∨ d = .klst xs) → iList X.K (lift X.K c W f) σ H R := fun ⟨xs, hd⟩ => by
      refine ⟨T, B, e, st, ?_⟩
      rw [q]
      exact fun B1 H1 x1 st1 v rv => by
        rcases hd with rfl | rfl
        · have rv : Sh X.K B1 (.lst xs) v := rv
          cases rv with
          | lst h1 r => exact ⟨_, rfl, ⟨_, SqL.of (st1.bh _ _ h1)⟩, m2 B1 H1 x1 B1 H1 (Evl.Ex.refl _) st1 _ (it_list (SqL.of h1) r)⟩
        · have rv : Sh X.K B1 (.klst xs) v := rv
          cases rv with
          | klst h1 r => exact ⟨_, rfl, ⟨_, Evl.ex_l st1.bh h1⟩, m2 B1 H1 x1 B1 H1 (Evl.Ex.refl _) st1 _ (it_list h1 r)⟩
    cases d with
    | lst xs => exact .inl (goL ⟨xs, .inl rfl⟩)
    | klst xs => exact .inl (goL ⟨xs, .inr rfl⟩)
    | tup xs =>
      refine .inr ⟨T, B, e, st, ?_⟩
      rw [q]
      exact fun B1 H1 x1 st1 v rv => by
        have rv : Sh X.K B1 (.tup xs) v := rv
        cases rv with
        | tup h1 r => exact ⟨_, rfl, ⟨_, Evl.ex_t st1.bh h1⟩, m2 B1 H1 x1 B1 H1 (Evl.Ex.refl _) st1 _ (it_tup h1 r)⟩
    | _ => exact (m2 B H (Evl.Ex.refl _)).elim
/-- range(n), range(a, b) -/
def rg (lo hi : Int) : List D := (List.range (hi - lo).toNat).map fun i : Nat => D.int (lo + (i : Int))
def rgOf : List D → Option (List D)
  | [.int j] => if -1000000 ≤ j ∧ j ≤ 1000000 then some (rg 0 j) else none
  | _ => none
def rgOf2 : List D → Option (List D)
  | [.int i, .int j] => if -1000000 ≤ i ∧ i ≤ 1000000 ∧ -1000000 ≤ j ∧ j ≤ 1000000 then some (rg i j) else none
  | _ => none
def rgOf3 : List D → Option (List D)
  | [.int i, .int j, .int k] => if -1000000 ≤ i ∧ i ≤ 1000000 ∧ -1000000 ≤ j ∧ j ≤ 1000000 ∧ k = -1 then some ((List.range (i - j).toNat).map fun n : Nat => D.int (i - (n : Int))) else none
  | _ => none
def eRange (fs : M (List D)) : M (List D) := mbind fs fun ds => mopt (rgOf ds)
def eRange2 (fs : M (List D)) : M (List D) := mbind fs fun ds => mopt (rgOf2 ds)
theorem di_range1 {tg a : Expr} {fs : M (List D)} {p pos : Pos} (hg : Gl X "range") (hm : X.mg "range" = none) (ha : PA X [a] (liftA X.K c W fs)) (hs : starEach [a] X.env = [(false, eval a X.env)] := by rfl) : PI X tg (.Call (.Name "range" p) [a] [] pos) (liftI X.K c W (eRange fs)) :=
  PI_of (pi_range1 hg hm ha hs) fun σ H R q => by
    obtain ⟨T, B, e, st, m⟩ := q
    refine ⟨T, B, e, st, m.bind.imp fun ds e1 B1 H1 x1 m1 st1 vs rv => ?_⟩
    have m1 : Pst X.K c T W σ B1 (mopt (rgOf ds) e1) _ := m1
    cases ds with
    | nil => exact m1.elim
    | cons d ds => cases ds with
      | nil =>
        obtain ⟨v, us, rfl, r1, r2⟩ := rv
        cases (show _ = _ from r2)
        cases d with
        | int j =>
          cases r1
          by_cases hj : -1000000 ≤ j ∧ j ≤ 1000000
          · rw [rgOf, if_pos hj] at m1
            refine ⟨j, rfl, by omega, by omega, m1 B1 H1 (Evl.Ex.refl _) st1 _ ?_⟩
            have z : j.toNat = (j - 0).toNat := by omega
            rw [z]
            exact it_range
          · rw [rgOf, if_neg hj] at m1
            exact m1.elim
        | _ => exact m1.elim
      | cons d2 ds => cases d <;> exact m1.elim
theorem di_range2 {tg a b : Expr} {fs : M (List D)} {p pos : Pos} (hg : Gl X "range") (hm : X.mg "range" = none) (ha : PA X [a, b] (liftA X.K c W fs)) (hs : starEach [a, b] X.env = [(false, eval a X.env), (false, eval b X.env)] := by rfl) (hs2 : starEach [b] X.env = [(false, eval b X.env)] := by rfl) :
    PI X tg (.Call (.Name "range" p) [a, b] [] pos) (liftI X.K c W (eRange2 fs)) :=
  PI_of (pi_range2 hg hm ha hs hs2) fun σ H R q => by
    obtain ⟨T, B, e, st, m⟩ := q
    refine ⟨T, B, e, st, m.bind.imp fun ds e1 B1 H1 x1 m1 st1 vs rv => ?_⟩
    have m1 : Pst X.K c T W σ B1 (mopt (rgOf2 ds) e1) _ := m1
    cases q : rgOf2 ds with
    | none =>
      rw [q] at m1
      exact m1.elim
    | some xs =>
      rw [q] at m1
      unfold rgOf2 at q
      split at q
      · rename_i i j
        by_cases hj : -1000000 ≤ i ∧ i ≤ 1000000 ∧ -1000000 ≤ j ∧ j ≤ 1000000
        · rw [if_pos hj] at q
          cases q
          obtain ⟨v, us, rfl, r1, v', us', rfl, r2, r3⟩ := rv
          cases (show _ = _ from r3)
          cases (show Sh X.K B1 (.int i) v from r1)
          cases (show Sh X.K B1 (.int j) v' from r2)
          exact ⟨i, j, rfl, by omega, m1 B1 H1 (Evl.Ex.refl _) st1 _ it_range⟩
        · rw [if_neg hj] at q
          cases q
      · cases q

/-! ### for -/
def forL (t : TgF) (b : M Fl) : List D → M Fl
  | [] => mret .nx
  | d :: ds => fun e => match t d e with
    | none => .no
    | some e1 => match b e1 with
      | .ok .nx e2 => forL t b ds e2
      | .ok .ct e2 => forL t b ds e2
      | .ok .bk e2 => .ok .nx e2
      | r => r
def sFor (it : M (List D)) (t : TgF) (b : M Fl) : M Fl := mbind it fun ds => forL t b ds
theorem drop_cons {α : Type} {l : List α} {i : Nat} {a : α} (h : l[i]? = some a) : l.drop i = a :: l.drop (i + 1) := by
  obtain ⟨hi, e⟩ := List.getElem?_eq_some_iff.mp h
  rw [← e]
  exact List.drop_eq_getElem_cons hi
theorem ds_for {tg x : Expr} {body : List Stmt} {S : List Nat} {t : TgF} {f : M (List D)} {g : M Fl} {pos : Pos} (hp : PassesOwn (model X.prog X.w) X.A X.env X.xe) (hc : X.calm = true) (hi : PI X tg x (liftI X.K c W f)) (hg : PG X tg (liftG X.K c S t)) (hb : PSs X body (liftS X.K c W g))
    (hs : ∀ y, foldedSetIterable x X.env y = pure y := by intro _; rfl) : PS X (.For tg x body [] pos) (liftS X.K c W (sFor f t g)) := PS_of (ps_for hp hc hi hg hb hs) fun Dn σ H q => by
  obtain ⟨B, e, st, m⟩ := q
  refine ⟨[], B, e, st, (Pst.go (σ := σ) (show SEnd X.K c W B Dn ((f e).bind _) from m)).imp fun ds e1 B1 H1 x1 m1 st1 J hJ => ?_⟩
  refine ⟨fun i n σ' H' => n = ds.length - i ∧ i ≤ ds.length ∧ ∃ B' e', Ex B1 B' ∧ StOk X.K c [] B' H' σ' e' ∧ SEnd X.K c W B' Dn (forL t g (ds.drop i) e'), ⟨ds.length, by simp, Nat.zero_le _, B1, e1, Evl.Ex.refl _, st1, m1⟩, ?_⟩
  rintro i n σ' H' ⟨rfl, hle, B2, e2, x2, st2, m2⟩
  by_cases hlt : i < ds.length
  · refine .inr ⟨hJ.go i B2 H' x2 st2.ex hlt, fun σ3 H3 => ∃ B3 e3, Ex B1 B3 ∧ StOk X.K c [] B3 H3 σ3 e3 ∧ SEnd X.K c W B3 Dn (forL t g (ds.drop (i + 1)) e3), fun σ3 H3 ⟨B3, e3, y3, st3, m3⟩ => ⟨ds.length - (i + 1), by omega, rfl, hlt, B3, e3, y3, st3, m3⟩, fun v H3 hy => ?_⟩
    obtain ⟨B3, d, gr, hd, sh⟩ := hJ.yld i B2 H' v H3 x2 st2.ex hlt hy
    rw [drop_cons hd] at m2
    have m2 : SEnd X.K c W B2 Dn (match t d e2 with
      | none => .no
      | some e1 => match g e1 with
        | .ok .nx e2 => forL t g (ds.drop (i + 1)) e2
        | .ok .ct e2 => forL t g (ds.drop (i + 1)) e2
        | .ok .bk e2 => .ok .nx e2
        | r => r) := m2
    refine ⟨[], B3, e2, d, st2.grow gr, sh, ?_⟩
    cases q : t d e2 with
    | none =>
      rw [q] at m2
      exact m2.elim
    | some e3 =>
      rw [q] at m2
      have m2 : SEnd X.K c W B2 Dn (match g e3 with
        | .ok .nx e2 => forL t g (ds.drop (i + 1)) e2
        | .ok .ct e2 => forL t g (ds.drop (i + 1)) e2
        | .ok .bk e2 => .ok .nx e2
        | r => r) := m2
      refine fun σ4 B4 H4 _ _ x4 st4 => ⟨B4, e3, st4, ?_⟩
      generalize g e3 = r at m2 ⊢
      have x24 : Ex B2 B4 := gr.b.trans x4
      cases r with
      | no => exact m2
      | ex y e' => exact SEnd.mono x24 m2
      | ok fl e' => cases fl with
        | nx => exact fun σ5 B5 H5 x5 st5 => ⟨B5, e', (x2.trans x24).trans x5, st5, SEnd.mono (x24.trans x5) m2⟩
        | ct => exact fun σ5 B5 H5 x5 st5 => ⟨B5, e', (x2.trans x24).trans x5, st5, SEnd.mono (x24.trans x5) m2⟩
        | bk => exact SEnd.mono x24 m2
        | rt d => exact SEnd.mono x24 m2
  · have hi : i = ds.length := by omega
    subst hi
    rw [List.drop_length] at m2
    exact .inl ⟨hJ.stop _ B2 H' x2 st2.ex (Nat.le_refl _), m2 σ' B2 H' (Evl.Ex.refl _) st2⟩

/-! ### while -/
def whL (t : M Bool) (b : M Fl) : Nat → M Fl
  | 0 => fun _ => .no
  | n + 1 => fun e => (t e).bind fun k e1 => if k = true then match b e1 with
      | .ok .nx e2 => whL t b n e2
      | .ok .ct e2 => whL t b n e2
      | .ok .bk e2 => .ok .nx e2
      | r => r
    else .ok .nx e1
theorem ds_while {x : Expr} {body : List Stmt} {t : M Bool} {g : M Fl} {pos : Pos} (n : Nat) (hp : PassesOwn (model X.prog X.w) X.A X.env X.xe) (ht : PT X x (liftT X.K c W t)) (hb : PSs X body (liftS X.K c W g)) : PS X (.While x body [] pos) (liftS X.K c W (whL t g n)) :=
  PS_of (ps_while hp ht hb) fun Dn σ H q => by
    obtain ⟨B, e, st, m⟩ := q
    refine ⟨fun n σ' H' => ∃ B' e', Ex B B' ∧ StOk X.K c [] B' H' σ' e' ∧ SEnd X.K c W B' Dn (whL t g n e'), ⟨n, B, e, Evl.Ex.refl _, st, m⟩, ?_⟩
    rintro n σ1 H1 ⟨B1, e1, x1, st1, m1⟩
    cases n with
    | zero => exact m1.elim
    | succ n =>
      refine ⟨[], B1, e1, st1, (Pst.go (σ := σ1) (show SEnd X.K c W B1 Dn ((t e1).bind _) from m1)).imp fun k e2 B2 H2 x2 m2 st2 => ?_⟩
      cases k with
      | false => exact m2 σ1 B2 H2 (Evl.Ex.refl _) st2
      | true =>
        have m2 : SEnd X.K c W B2 Dn (match g e2 with
          | .ok .nx e2 => whL t g n e2
          | .ok .ct e2 => whL t g n e2
          | .ok .bk e2 => .ok .nx e2
          | r => r) := m2
        refine ⟨fun σ3 H3 => ∃ B3 e3, Ex B B3 ∧ StOk X.K c [] B3 H3 σ3 e3 ∧ SEnd X.K c W B3 Dn (whL t g n e3), fun σ3 H3 h => ⟨n, Nat.lt_succ_self n, h⟩, B2, e2, st2, ?_⟩
        have x02 : Ex B B2 := x1.trans x2
        generalize g e2 = r at m2 ⊢
        cases r with
        | no => exact m2
        | ex y e' => exact m2
        | ok fl e' => cases fl with
          | nx => exact fun σ5 B5 H5 x5 st5 => ⟨B5, e', x02.trans x5, st5, SEnd.mono x5 m2⟩
          | ct => exact fun σ5 B5 H5 x5 st5 => ⟨B5, e', x02.trans x5, st5, SEnd.mono x5 m2⟩
          | bk => exact m2
          | rt d => exact m2
end
end DL
end

section
set_option maxRecDepth 100000
set_option maxHeartbeats 2000000
namespace DL
open PySem L2
open Evl (Ex)
section
variable {X : Cx} {c : Ctx} {W : WX} {K : PySem.W.Frag}
abbrev W0 : WX := fun _ _ _ _ => False
/-- the block's own names forgotten -/
def eWipe (e : Env) : List Nat → Env
  | [] => e
  | v :: vs => (eWipe e vs).set v none
theorem eWipe_none {e : Env} {i : Nat} {d : D} : ∀ {vs : List Nat}, (eWipe e vs)[i]? = some (some d) → i ∉ vs ∧ e[i]? = some (some d)
  | [], h => ⟨by simp, h⟩
  | v :: vs, h => by
    have h : ((eWipe e vs).set v none)[i]? = some (some d) := h
    have hi : i ≠ v := fun z => by
      subst z
      have := set_self h
      cases this
    rw [List.getElem?_set_ne (Ne.symm hi)] at h
    obtain ⟨h1, h2⟩ := eWipe_none h
    exact ⟨by simp only [List.mem_cons, not_or]; exact ⟨hi, h1⟩, h2⟩
theorem eWipe_length {e : Env} : ∀ {vs : List Nat}, (eWipe e vs).length = e.length
  | [] => rfl
  | v :: vs => by
    show ((eWipe e vs).set v none).length = e.length
    rw [List.length_set, eWipe_length]
/-- slots that the environment does not know may be anything -/
theorem StOk.other {T : List (Addr × HO)} {B H : Hp} {σ σ' : L2.St} {e : Env} (s : StOk K c T B H σ e) (hl : σ'.length = σ.length) (h : ∀ (i : Nat) (d : D), e[i]? = some (some d) → σ'[i]? = σ[i]?) : StOk K c T B H σ' e := by
  obtain ⟨fp, h1, h2, h3, h4, h5⟩ := s.slots
  refine ⟨s.len.trans hl.symm, ⟨fp, fun i d hd => ?_, h2, h3, h4, h5⟩, s.tmp, s.tnd, s.bh, s.b0, s.keep, s.there, s.old⟩
  obtain ⟨v, hv, ow, cd⟩ := h1 i d hd
  exact ⟨v, (h i d hd).trans hv, ow, cd⟩
theorem StOk.wipeE {T : List (Addr × HO)} {B H : Hp} {σ : L2.St} {e : Env} (s : StOk K c T B H σ e) : ∀ vs : List Nat, StOk K c T B H σ (eWipe e vs)
  | [] => s
  | v :: vs => (StOk.wipeE s vs).drop v
theorem wipe_at {σ : L2.St} {i : Nat} : ∀ {vs : List Nat}, i ∉ vs → (wipe σ vs)[i]? = σ[i]?
  | [], _ => rfl
  | v :: vs, h => by
    simp only [List.mem_cons, not_or] at h
    show ((wipe σ vs).set v none)[i]? = σ[i]?
    rw [List.getElem?_set_ne (Ne.symm h.1), wipe_at h.2]
theorem wipe_in {σ : L2.St} {i : Nat} : ∀ {vs : List Nat}, i ∈ vs → i < σ.length → (wipe σ vs)[i]? = some none
  | v :: vs, h, hl => by
    show ((wipe σ vs).set v none)[i]? = some none
    by_cases hi : i = v
    · subst hi
      exact List.getElem?_set_self (by rw [wipe_length]; exact hl)
    · rw [List.getElem?_set_ne (Ne.symm hi)]
      exact wipe_in ((List.mem_cons.mp h).resolve_left hi) hl
theorem wipe_eq {σ σ' : L2.St} {vs : List Nat} (hl : σ'.length = σ.length) (h : ∀ i, i ∉ vs → σ'[i]? = σ[i]?) : wipe σ' vs = wipe σ vs := by
  apply List.ext_getElem?
  intro i
  by_cases hi : i ∈ vs
  · by_cases hs : i < σ.length
    · rw [wipe_in hi hs, wipe_in hi (by rw [hl]; exact hs)]
    · rw [List.getElem?_eq_none (by rw [wipe_length]; omega), List.getElem?_eq_none (by rw [wipe_length]; omega)]
  · rw [wipe_at hi, wipe_at hi, h i hi]
/-- the list that is being made grows -/
theorem StOk.tmpUpd {T : List (Addr × HO)} {B H : Hp} {σ : L2.St} {e : Env} {p : Addr} {o u : HO} (s : StOk K c ((p, o) :: T) B H σ e) : StOk K c ((p, u) :: T) B (upd H p u) σ e := by
  obtain ⟨fp, h1, h2, h3, h4, h5⟩ := s.slots
  obtain ⟨t1, t2, t3⟩ := s.tmp _ List.mem_cons_self
  refine ⟨s.len, ⟨fp, fun i d hd => ?_, h2, h3, h4, fun q m i => ?_⟩, fun q m => ?_, s.tnd, fun b w q => ?_, s.b0, fun a w nl h => ?_, fun a n => ?_, s.old⟩
  · obtain ⟨v, hv, ow, cd⟩ := h1 i d hd
    refine ⟨v, hv, ow.mono (Evl.Ex.refl B) (fun a m => (ow.free a m).1) (fun a m o q => ?_), cd⟩
    rw [upd_ne (fun (z : a = p) => h5 _ List.mem_cons_self i (z ▸ m))]
    exact q
  · rcases List.mem_cons.mp m with z | m
    · rw [z]
      exact h5 (p, o) List.mem_cons_self i
    · exact h5 q (List.mem_cons_of_mem _ m) i
  · rcases List.mem_cons.mp m with z | m
    · rw [z]
      exact ⟨t1, upd_same, t3⟩
    · obtain ⟨q1, q2, q3⟩ := s.tmp q (List.mem_cons_of_mem _ m)
      refine ⟨q1, ?_, q3⟩
      rw [upd_ne (s.tmp_ne q m)]
      exact q2
  · rw [upd_ne (ne_of_none q t3)]
    exact s.bh b w q
  · have nb : a ≠ p := fun z => by
      rw [z] at h
      rw [show c.H0 p = none from t1] at h
      cases h
    rw [upd_ne nb]
    exact s.keep a w nl h
  · by_cases hb : a = p
    · rw [hb, upd_same]
      exact fun z => (nomatch z)
    · rw [upd_ne hb]
      exact s.there a n
/-! ### comprehensions -/
def Rs.bindN {α β : Type} (r : Rs α) (f : α → M β) : Rs β := match r with
  | .ok a e => f a e
  | _ => .no
def compL (vs : List Nat) (t : TgF) (ft : M Bool) (fe : M D) : List D → List D → M (List D)
  | [], acc => fun e => .ok acc e
  | d :: ds, acc => fun e => match t d e with
    | none => .no
    | some e1 => (ft e1).bindN fun k e2 => if k = true then (fe e2).bindN fun y e3 => if isSh y = true ∧ acc.length < 1000000 then compL vs t ft fe ds (acc ++ [y]) (eWipe e3 vs) else .no
      else compL vs t ft fe ds acc (eWipe e2 vs)
def eComp (it : M (List D)) (vs : List Nat) (t : TgF) (ft : M Bool) (fe : M D) : M (List D) := mbind it fun ds => fun e => compL vs t ft fe ds [] (eWipe e vs)
def tYesD : M Bool := mret true
theorem dts_nil : PTs X [] (liftT X.K c W tYesD) := ⟨fun pins s σ H Q I q => pts_nil.run pins s σ H Q I (by
  obtain ⟨T, B, e, st, m⟩ := q
  exact m B H (Evl.Ex.refl B) st)⟩
theorem dts_one {x : Expr} {f : M Bool} (h : PT X x (liftT X.K c W f)) : PTs X [x] (liftT X.K c W f) := pts_one h
theorem bindN_go {α β : Type} {T : List (Addr × HO)} {σ : L2.St} {B : Hp} {r : Rs α} {f : α → M β} {k : β → Env → Hp → Hp → Prop} (h : Pst K c T W σ B (r.bindN f) k) : ∀ T' σ', Pst K c T' W0 σ' B r (fun a e' B' _ => Pst K c T W σ B' (f a e') k) := fun T' σ' => by
  cases r with
  | ok a e => exact fun B' _ x => Pst.mono x h
  | ex y e => exact h.elim
  | no => exact h
theorem comp_conv {it : M (List D)} {vs S : List Nat} {t : TgF} {ft : M Bool} {fe : M D} (hS : ∀ i ∈ S, i ∈ vs) : ∀ σ H Q, liftF X.K c W (eComp it vs t ft fe) σ H Q → tLc (liftI X.K c W it) (liftG X.K c S t) (liftT X.K c W0 ft) (lift X.K c W0 fe) vs σ H Q := fun σ H Q q => by
  obtain ⟨T, B, e, st, m⟩ := q
  refine ⟨T, B, e, st, m.bind.imp fun ds e1 B1 H1 x1 m1 st1 J hJ Dl hD => ?_⟩
  refine ⟨fun i n H' => n = ds.length - i ∧ i ≤ ds.length ∧ ∃ B' e' acc us, Ex B1 B' ∧ StOk X.K c ((Dl, .lst us) :: T) B' H' (wipe σ vs) e' ∧ (∀ j d, e'[j]? = some (some d) → j ∉ vs) ∧ Shs X.K B' acc us ∧
      Pst X.K c T W σ B' (compL vs t ft fe (ds.drop i) acc e') (fun zs e'' B'' H'' => ∀ p ws, StOk X.K c ((p, .lst ws) :: T) B'' H'' σ e'' → Shs X.K B'' zs ws → Q (.ref p) H''),
    ⟨ds.length, by simp, Nat.zero_le _, B1, eWipe e1 vs, [], [], Evl.Ex.refl _, ?_, fun j d h => (eWipe_none h).1, .nil, m1⟩, ?_⟩
  · refine ((st1.fresh hD _).wipeE vs).other (wipe_length σ vs) fun i d h => wipe_at (eWipe_none h).1
  · rintro i n H2 ⟨rfl, hle, B2, e2, acc, us, x2, st2, hv, sa, m2⟩
    by_cases hlt : i < ds.length
    · refine .inr ⟨hJ.go i B2 H2 x2 st2.ex hlt, fun H' => ∃ B' e' acc us, Ex B1 B' ∧ StOk X.K c ((Dl, .lst us) :: T) B' H' (wipe σ vs) e' ∧ (∀ j d, e'[j]? = some (some d) → j ∉ vs) ∧ Shs X.K B' acc us ∧
          Pst X.K c T W σ B' (compL vs t ft fe (ds.drop (i + 1)) acc e') (fun zs e'' B'' H'' => ∀ p ws, StOk X.K c ((p, .lst ws) :: T) B'' H'' σ e'' → Shs X.K B'' zs ws → Q (.ref p) H''),
        fun H' h => ⟨ds.length - (i + 1), by omega, rfl, hlt, h⟩, fun v H3 hy => ?_⟩
      obtain ⟨B3, d, gr, hd, sh⟩ := hJ.yld i B2 H2 v H3 x2 st2.ex hlt hy
      rw [drop_cons hd] at m2
      have m2 : Pst X.K c T W σ B2 (match t d e2 with
        | none => .no
        | some e1 => (ft e1).bindN fun k e2 => if k = true then (fe e2).bindN fun y e3 => if isSh y = true ∧ acc.length < 1000000 then compL vs t ft fe (ds.drop (i + 1)) (acc ++ [y]) (eWipe e3 vs) else .no
          else compL vs t ft fe (ds.drop (i + 1)) acc (eWipe e2 vs)) _ := m2
      refine ⟨(Dl, .lst us) :: T, B3, e2, d, st2.grow gr, sh, ?_⟩
      cases q : t d e2 with
      | none =>
        rw [q] at m2
        exact m2.elim
      | some e3 =>
        rw [q] at m2
        refine fun σ4 B4 H4 l4 k4 x4 st4 => ?_
        have ew : wipe σ4 vs = wipe σ vs := wipe_eq (l4.trans (wipe_length σ vs)) fun j hj => (k4 j fun z => hj (hS j z)).trans (wipe_at hj)
        have x24 : Ex B2 B4 := gr.b.trans x4
        have back : ∀ {B' H' : Hp} {e' : Env} {us' : List V}, StOk X.K c ((Dl, .lst us') :: T) B' H' σ4 e' → StOk X.K c ((Dl, .lst us') :: T) B' H' (wipe σ vs) (eWipe e' vs) := fun {B' H' e' us'} s => by
          rw [← ew]
          exact (s.wipeE vs).other (wipe_length σ4 vs) fun i d h => wipe_at (eWipe_none h).1
        refine ⟨ew, (Dl, .lst us) :: T, B4, e3, st4, (bindN_go (Pst.mono x24 m2) _ _).imp fun k e5 B5 H5 x5 m5 st5 => ?_⟩
        cases k with
        | false =>
          rw [if_neg Bool.false_ne_true] at m5
          rw [if_neg Bool.false_ne_true]
          exact ⟨B5, eWipe e5 vs, acc, us, (x2.trans x24).trans x5, back st5, fun j d h => (eWipe_none h).1, sa.mono (x24.trans x5), m5⟩
        | true =>
          rw [if_pos rfl] at m5
          rw [if_pos rfl]
          refine ⟨(Dl, .lst us) :: T, B5, e5, st5, (bindN_go m5 _ _).imp fun y e6 B6 H6 x6 m6 st6 w rw' => ?_⟩
          by_cases hc : isSh y = true ∧ acc.length < 1000000
          · rw [if_pos hc] at m6
            obtain ⟨_, t2, _⟩ := st6.tmp _ List.mem_cons_self
            refine ⟨us, t2, Nat.lt_of_lt_of_le (by rw [← sa.length]; exact hc.2) (line_ok (Nat.le_refl _)), ?_⟩
            exact ⟨B6, eWipe e6 vs, acc ++ [y], us ++ [w], ((x2.trans x24).trans x5).trans x6, back st6.tmpUpd, fun j d h => (eWipe_none h).1, (sa.mono ((x24.trans x5).trans x6)).append (.cons (rw'.sh hc.1) .nil), m6⟩
          · rw [if_neg hc] at m6
            exact m6.elim
    · have hi : i = ds.length := by omega
      subst hi
      rw [List.drop_length] at m2
      refine .inl ⟨hJ.stop _ B2 H2 x2 st2.ex (Nat.le_refl _), m2 B2 H2 (Evl.Ex.refl _) Dl us (st2.other (wipe_length σ vs).symm fun j d h => (wipe_at (hv j d h)).symm) sa⟩
theorem de_lc {elt tg iter : Expr} {ifs : List Expr} {scope : Scope} {own : List (Str × Nat)} {S : List Nat} {pos : Pos} {it : M (List D)} {t : TgF} {ft : M Bool} {fe : M D} (hc : X.calm = true) (hN : X.N.Nodup) (hi : PI X tg iter (liftI X.K c W it)) (ok : BlkOk X.N X.env.scope scope own) (hS : ∀ i ∈ S, i ∈ own.map (·.2))
    (hg : ∀ (s : Shared) (H : Hp) (C : Addr) (cl : List (Str × Addr)) (fp : List Addr), PG (X.blk s H scope (compEnvC scope cl C X.env) fp) tg (liftG X.K c S t)) (ht : ∀ (s : Shared) (H : Hp) (C : Addr) (cl : List (Str × Addr)) (fp : List Addr), PTs (X.blk s H scope (compEnvC scope cl C X.env) fp) ifs (liftT X.K c W0 ft))
    (he : ∀ (s : Shared) (H : Hp) (C : Addr) (cl : List (Str × Addr)) (fp : List Addr), PE (X.blk s H scope (compEnvC scope cl C X.env) fp) elt (lift X.K c W0 fe)) (hs : ∀ x, foldedSetIterable iter X.env x = pure x := by intro _; rfl) :
    PE X (.ListComp elt [⟨tg, iter, ifs, 0⟩] scope pos) (liftF X.K c W (eComp it (own.map (·.2)) t ft fe)) := PE_of (pe_lc hc hN hi ok hg ht he hs) (comp_conv hS)
/-- name = [..] on one line -/
theorem ds_setLc {i : Nat} {y : Str} {py : Pos} {elt tg iter : Expr} {ifs : List Expr} {scope : Scope} {own : List (Str × Nat)} {S : List Nat} {pos spos : Pos} {it : M (List D)} {t : TgF} {ft : M Bool} {fe : M D} (hc : X.calm = true) (hN : X.N.Nodup) (hy : X.N[i]? = some y) (hyl : X.env.scope.names.lookup y = some .local)
    (hsw : swapsWith (.ListComp elt [⟨tg, iter, ifs, 0⟩] scope pos) (some (.Name y py)) spos.line X.env = pure true) (hi : PI X tg iter (liftI X.K c W it)) (ok : BlkOk X.N X.env.scope scope own) (hS : ∀ i ∈ S, i ∈ own.map (·.2))
    (hg : ∀ (s : Shared) (H : Hp) (C : Addr) (cl : List (Str × Addr)) (fp : List Addr), PG (X.blk s H scope (compEnvC scope cl C X.env) fp) tg (liftG X.K c S t)) (ht : ∀ (s : Shared) (H : Hp) (C : Addr) (cl : List (Str × Addr)) (fp : List Addr), PTs (X.blk s H scope (compEnvC scope cl C X.env) fp) ifs (liftT X.K c W0 ft))
    (he : ∀ (s : Shared) (H : Hp) (C : Addr) (cl : List (Str × Addr)) (fp : List Addr), PE (X.blk s H scope (compEnvC scope cl C X.env) fp) elt (lift X.K c W0 fe)) (hs : ∀ x, foldedSetIterable iter X.env x = pure x := by intro _; rfl) :
    PS X (.Assign [.Name y py] (.ListComp elt [⟨tg, iter, ifs, 0⟩] scope pos) spos) (liftS X.K c W (sAsgF i (eComp it (own.map (·.2)) t ft fe))) :=
  PS_of (ps_setLc hc hN hy hyl hsw hi ok hg ht he hs) fun Dn σ H q => comp_conv hS σ H _ (asgF_conv Dn σ H q)
end
end DL
end

section
set_option maxRecDepth 100000
set_option maxHeartbeats 2000000
namespace DL
open PySem L2
open Evl (Ex)

/-! ### a def by its name -/
/-- the def x computes F on n arguments -/
def Fn (P : Program) (w : World) (K : PySem.W.Frag) (mg : Str → Option Value) (base : Heap) (x : Str) (k n : Nat) (F : List D → Rs D) : Prop :=
  ∃ (f : Addr) (fd : FuncData) (ps : List Str), FnOk P w K mg base (L2.CX P w) k f fd ps (spF K n F) ∧ mg x = some (.ref f) ∧ PySem.W.keepIn K (.ref f) = true ∧ Binds K fd ps []
section
variable {P : Program} {w : World} {K : PySem.W.Frag} {mg : Str → Option Value} {base : Heap}
theorem fn_mkB {x qual : Str} {params : Arguments} {body : List Stmt} {scope : Scope} {dvs : List V} {kws : List (Str × V)} {f : Addr} {fd : FuncData} {N ps : List Str} {k n : Nat} {g : M Fl} (F : FunD K x qual params body scope dvs kws f fd) (S : FnScope N ps scope) (hn : ps.length = n) (hN : ps.length ≤ N.length)
    (hb : ∀ (cdv : Value) (A : Around) (outer : List PySem.Env) (s : Shared) (H : Hp) (E : XK) (c : Ctx) (W : WX), Body (cxOf (L2.CX P w) P w K mg base N qual scope f cdv A outer s H E) W k →
      PSs (cxOf (L2.CX P w) P w K mg base N qual scope f cdv A outer s H E) body (liftS K c W g)) :
    FnOk P w K mg base (L2.CX P w) (k + 1) f fd ps (spF K n (runF N.length g)) := by
  subst hn
  refine F.ok S (fun vs H Q E h => ?_) (fun cdv A outer s H vs Q E hr h => ?_)
  · obtain ⟨B, ds, fp, a, hl, _⟩ := h
    rw [a.len, hl]
  · obtain ⟨B, ds, fp, a, hl, m⟩ := h
    refine ⟨_, hb cdv A outer s H E { vs := vs, B0 := B, H0 := H, fp0 := fp } (fun cls d _ H' => E cls d H') ⟨⟨takes_of rfl rfl rfl rfl, rfl, hr⟩, rfl, rfl, passes_of rfl⟩, ?_⟩
    refine ⟨B, _, start_ok a (by omega), ?_⟩
    unfold runF at m
    generalize g (ds.map some ++ List.replicate (N.length - ds.length) none) = r at m ⊢
    cases r with
    | no => exact m
    | ex y e =>
      by_cases hb : borOk ds e = true
      · rw [endF, if_pos hb] at m
        exact fun cls dd σ' B' H' x st rx => by
          obtain ⟨fp', o⟩ := outs_ok a st hb
          exact m cls dd B' H' fp' (after_ok st) rx o
      · rw [endF, if_neg hb] at m
        exact m.elim
    | ok fl e => cases fl with
      | nx =>
        by_cases hb : borOk ds e = true
        · rw [endF, if_pos hb] at m
          exact fun σ' B' H' x st => by
            obtain ⟨fp', o⟩ := outs_ok a st hb
            exact m .non B' H' fp' (after_ok st) .non o
        · rw [endF, if_neg hb] at m
          exact m.elim
      | rt d =>
        by_cases hb : borOk ds e = true
        · rw [endF, if_pos hb] at m
          exact fun v σ' B' H' x st sh => by
            obtain ⟨fp', o⟩ := outs_ok a st hb
            exact m v B' H' fp' (after_ok st) sh o
        · rw [endF, if_neg hb] at m
          exact m.elim
      | bk => exact m.elim
      | ct => exact m.elim
end
section
variable {X : Cx} {c : Ctx} {W : WX} {k kf n : Nat} {x : Str} {p pos : Pos} {e : Expr} {es : List Expr} {fs : M (List D)} {Fm : List D → Rs D}
theorem Bx.blk (b : Bx X W k) {s : Shared} {H : Hp} {scope : Scope} {cenv : PySem.Env} {fp : List Addr} : Bx (X.blk s H scope cenv fp) W0 k := ⟨takes0, b.calm, b.room⟩
theorem de_fn (b : Bx X W k) (F : Fn X.prog X.w X.K X.mg X.base x kf n Fm) (hk : kf ≤ k) (hg : Gl X x) (ha : PA X (e :: es) (liftA X.K c W fs)) (hdb : (x == ("__debug__" : Str)) = false := by decide)
    (he : starEach (e :: es) X.env = (false, eval e X.env) :: starEach es X.env := by rfl) (hpl : (backTo pos (starEach es X.env)).any (·.1) = false := by rfl) : PE X (.Call (.Name x p) (e :: es) [] pos) (lift X.K c W (eCall n Fm fs)) := by
  obtain ⟨f, fd, ps, F1, F2, F3, F4⟩ := F
  exact de_call b F1 hk hg F2 F3 F4 ha hdb he hpl
end
/-- the law's end -/
theorem law_ok {K : PySem.W.Frag} {F : List D → Rs D} {most : Nat} (hF : ∀ ns : List Int, ns.length ≤ most → ∃ outs, F [.klst (ns.map D.int)] = .ok (.bl true) outs)
    (H : Hp) (a : Addr) (ns : List Int) (hl : ns.length ≤ most) (h : SqL K H a (ns.map V.int)) : spF K 1 F [.ref a] H (fun v _ => v = .bl true) fun _ _ _ => False := by
  have shI : ∀ ns : List Int, Shs K H (ns.map D.int) (ns.map V.int) := fun ns => by
    induction ns with
    | nil => exact .nil
    | cons n ns ih => exact .cons (.int n) ih
  obtain ⟨outs, e⟩ := hF ns hl
  refine ⟨H, [.klst (ns.map D.int)], fun _ => [], ⟨Evl.Ex.refl H, rfl, fun i d hd => ?_, fun _ _ => rfl, fun _ => List.nodup_nil, fun _ _ _ _ m => (nomatch m), fun i xs hx => ?_, fun i j hx => ?_⟩, rfl, ?_⟩
  · cases i with
    | zero =>
      cases hd
      exact ⟨_, rfl, .sh (.klst h (shI ns))⟩
    | succ i => simp at hd
  · cases i with
    | zero => cases hx
    | succ i => simp at hx
  · cases i with
    | zero => cases hx
    | succ i => simp at hx
  · rw [e]
    exact fun v B' H' fp' _ sh _ => by
      cases sh
      rfl
end DL
end

section
set_option maxRecDepth 100000
set_option maxHeartbeats 2000000
namespace DL
open PySem L2
open Evl (Ex)
/-! ### a call that leaves defaults out -/
def aMore (dds : List D) (fs : M (List D)) : M (List D) := mbind fs fun ds => mret (ds ++ dds)
section
variable {X : Cx} {c : Ctx} {W : WX} {k kf n : Nat} {f : Addr} {fd : FuncData} {ps : List Str} {x : Str} {p pos : Pos} {e : Expr} {es : List Expr} {fs : M (List D)} {Fm : List D → Rs D} {dds : List D} {dvs : List V} {us : List Value}
theorem rts_more {K : PySem.W.Frag} {B : Hp} {σ : L2.St} (h : Shs K B dds dvs) : ∀ {ds : List D} {vs : List V}, RTs K B σ ds vs → RTs K B σ (ds ++ dds) (vs ++ dvs)
  | [], vs, r => by
    have : vs = [] := r
    subst this
    show RTs K B σ dds dvs
    clear r
    induction dds generalizing dvs with
    | nil =>
      cases h
      rfl
    | cons d ds ih =>
      cases h with
      | cons h1 h2 => exact ⟨_, _, rfl, RT.of h1, ih h2⟩
  | d :: ds, vs, r => by
    obtain ⟨v, us, rfl, r1, r2⟩ := r
    exact ⟨v, us ++ dvs, rfl, r1, rts_more h r2⟩
theorem call_convD (hd : ∀ B, Shs X.K B dds dvs) : ∀ σ H Q, lift X.K c W (eCall n Fm (aMore dds fs)) σ H Q → tCallSD (spF X.K n Fm) dvs (WE W) (liftA X.K c W fs) σ H Q := fun σ H Q q => by
  obtain ⟨T, B, e, st, m⟩ := q
  have m0 := m.bind
  have m1 := Pst.bind (r := fs e) (g := fun ds => mret (ds ++ dds)) m0
  refine ⟨T, B, e, st, m1.imp fun ds0 e1 B1 H1 x1 m2 st1 vs rv0 => ?_⟩
  have m1 := m2 B1 H1 (Evl.Ex.refl _)
  have rv := rts_more (hd B1) rv0
  generalize ds0 ++ dds = ds at m1 rv
  show spF X.K n Fm (vs ++ dvs) H1 Q (WE W σ)
  generalize vs ++ dvs = vs at rv ⊢
  have m1 : Pst X.K c T W σ B1 (if ds.length = n ∧ alN ds = true ∧ (ds.map (rsB e1)).all noOwn = true then
    match Fm (ds.map (rsB e1)) with
    | .ok r outs => .ok r (putO e1 ds outs)
    | .ex x outs => .ex x (putO e1 ds outs)
    | .no => .no
  else .no) _ := m1
  by_cases hc : ds.length = n ∧ alN ds = true ∧ (ds.map (rsB e1)).all noOwn = true
  · rw [if_pos hc] at m1
    obtain ⟨h1, h2, h3⟩ := hc
    obtain ⟨fp, a1, a2, a3, a4, a5, A⟩ := call_args st1 rv h2 h3
    refine ⟨B1, ds.map (rsB e1), lentFp fp ds, A, by rw [List.length_map]; exact h1, ?_⟩
    generalize Fm (ds.map (rsB e1)) = r at m1 ⊢
    cases r with
    | no => exact m1
    | ok d outs => exact fun v B' H' gp af sh o => m1 B' H' af.b (call_after st1 a1 a2 a3 a4 a5 rv h2 af o A) v (RT.of sh)
    | ex y outs => exact fun cls dd B' H' gp af rx o => m1 cls dd B' H' af.b (call_after st1 a1 a2 a3 a4 a5 rv h2 af o A) rx
  · rw [if_neg hc] at m1
    exact m1.elim
theorem de_callD (b : Bx X W k) (F : FnOk X.prog X.w X.K X.mg X.base (L2.CX X.prog X.w) kf f fd ps (spF X.K n Fm)) (hk : kf ≤ k) (hg : Gl X x) (hm : X.mg x = some (.ref f)) (hp : PySem.W.keepIn X.K (.ref f) = true) (hb : Binds X.K fd ps us) (hv : Vals dvs us) (hd : ∀ B, Shs X.K B dds dvs)
    (ha : PA X (e :: es) (liftA X.K c W fs)) (hdb : (x == ("__debug__" : Str)) = false := by decide) (he : starEach (e :: es) X.env = (false, eval e X.env) :: starEach es X.env := by rfl) (hpl : (backTo pos (starEach es X.env)).any (·.1) = false := by rfl) :
    PE X (.Call (.Name x p) (e :: es) [] pos) (lift X.K c W (eCall n Fm (aMore dds fs))) :=
  PE_of (pe_callSD F (b.room.mono hk) hg hm hp hb hv (fun σ => passAt b.tk σ) ha hdb he hpl) (call_convD hd)
end
end DL
end

section
set_option maxRecDepth 100000
set_option maxHeartbeats 2000000
namespace DL
open PySem L2

/-! ### a constant of the module -/
mutual
def shB (K : PySem.W.Frag) : D → Value → Bool
  | .non, .none => true
  | .bl b, .bool c => b == c
  | .int i, .int j _ => decide (i = j)
  | .str x, .str y _ => decide (x = y)
  | .tup ds, .ref a => (match K.lookup a with
    | some ⟨.type c, _, .seq its _, _⟩ => decide (c = "tuple") && (decide (its.size ≤ sizeLine) && shsB K ds its.toList)
    | _ => false)
  | .klst ds, .ref a => (match K.lookup a with
    | some ⟨.type c, none, .seq its _, _⟩ => decide (c = "list") && (decide (its.size ≤ sizeLine) && shsB K ds its.toList)
    | _ => false)
  | _, _ => false
def shsB (K : PySem.W.Frag) : List D → List Value → Bool
  | [], [] => true
  | d :: ds, u :: us => shB K d u && shsB K ds us
  | _, _ => false
end
section
variable {K : PySem.W.Frag}
mutual
theorem shB_ok : ∀ (d : D) (u : Value), shB K d u = true → ∃ v, RelV v u ∧ ∀ B, Sh K B d v
  | .non, .none, _ => ⟨.non, rfl, fun _ => .non⟩
  | .bl b, .bool c, h => ⟨.bl b, by
      have e : b = c := eq_of_beq (show (b == c) = true from h)
      rw [e]
      rfl, fun _ => .bl b⟩
  | .int i, .int j t, h => ⟨.int i, ⟨t, by rw [show i = j from of_decide_eq_true h]⟩, fun _ => .int i⟩
  | .str x, .str y t, h => ⟨.str x, ⟨t, by rw [show x = y from of_decide_eq_true h]⟩, fun _ => .str x⟩
  | .tup ds, .ref a, h => by
      rw [shB] at h
      cases q : K.lookup a with
      | none => rw [q] at h; cases h
      | some o =>
        obtain ⟨oc, od, dt, osl⟩ := o
        rw [q] at h
        cases oc with
        | type c => cases dt with
          | seq its n =>
            obtain ⟨h1, h2⟩ := He.ba (show (decide (c = "tuple") && (decide (its.size ≤ sizeLine) && shsB K ds its.toList)) = true from h)
            obtain ⟨h3, h4⟩ := He.ba h2
            obtain ⟨vs, r, s⟩ := shsB_ok ds its.toList h4
            exact ⟨.ref a, rfl, fun B => .tup (.inr ⟨_, its, n, q, congrArg Value.type (of_decide_eq_true h1), rfl, of_decide_eq_true h3, r⟩) (s B)⟩
          | _ => cases h
        | _ => cases dt <;> cases h
  | .klst ds, .ref a, h => by
      rw [shB] at h
      cases q : K.lookup a with
      | none => rw [q] at h; cases h
      | some o =>
        obtain ⟨oc, od, dt, osl⟩ := o
        rw [q] at h
        cases oc with
        | type c => cases od with
          | none => cases dt with
            | seq its n =>
              obtain ⟨h1, h2⟩ := He.ba (show (decide (c = "list") && (decide (its.size ≤ sizeLine) && shsB K ds its.toList)) = true from h)
              obtain ⟨h3, h4⟩ := He.ba h2
              obtain ⟨vs, r, s⟩ := shsB_ok ds its.toList h4
              exact ⟨.ref a, rfl, fun B => .klst (.inr ⟨_, its, n, q, congrArg Value.type (of_decide_eq_true h1), rfl, rfl, of_decide_eq_true h3, r⟩) (s B)⟩
            | _ => cases h
          | some _ => cases dt <;> cases h
        | _ => cases od <;> cases dt <;> cases h
theorem shsB_ok : ∀ (ds : List D) (us : List Value), shsB K ds us = true → ∃ vs, Vals vs us ∧ ∀ B, Shs K B ds vs
  | [], [], _ => ⟨[], .nil, fun _ => .nil⟩
  | d :: ds, u :: us, h => by
      rw [shsB] at h
      obtain ⟨h1, h2⟩ := He.ba h
      obtain ⟨v, r, s⟩ := shB_ok d u h1
      obtain ⟨vs, rs, ss⟩ := shsB_ok ds us h2
      exact ⟨v :: vs, .cons r rs, fun B => .cons (s B) (ss B)⟩
end
theorem shB_ref {d : D} {a : Addr} (h : shB K d (.ref a) = true) : ∀ B, Sh K B d (.ref a) := by
  obtain ⟨v, r, s⟩ := shB_ok d _ h
  cases (show absV (.ref a) = some v from r.abs)
  exact s
end
/-- the module's name x is the constant d, an object -/
def cstB (x : Str) (d : D) (K : PySem.W.Frag) : Bool := shB K d (.ref (He.ga K x))
/-- the module's name x is the builtin n -/
def bltB (x : Str) (n : String) (K : PySem.W.Frag) : Bool := He.eqO (PySem.W.nsIn K mainGlobals x) (some (some (.builtin n)))
theorem bltB_ok {K : PySem.W.Frag} {h : Heap} {mg : Str → Option Value} (X : K.In h) (G : h.Ns mainGlobals mg) {x : Str} {n : String} (c : bltB x n K = true) : mg x = some (.builtin n) := PySem.W.mg_of X G (He.eqO_ok c)

/-! ### the Hook -/
def obsX (fa : List He.Fa) (fn : List He.DefD) (ex : List (PySem.W.Frag → Bool)) (K : PySem.W.Frag) : He.AlD :=
  (((fa.all fun f => f.ok K) && fn.all fun d => d.ok K) && ex.all fun f => f K, fn.map fun d => He.fnW K d.at_)
def SaysX (fa : List He.Fa) (fn : List He.DefD) (ex : List (PySem.W.Frag → Bool)) (K : PySem.W.Frag) : Prop := obsX fa fn ex K = He.valD fn
theorem SaysX.toD {fa : List He.Fa} {fn : List He.DefD} {ex : List (PySem.W.Frag → Bool)} {K : PySem.W.Frag} (c : SaysX fa fn ex K) : He.SaysD fa fn K := by
  have e1 := congrArg (fun z : He.AlD => z.1) c
  have e2 : fn.map (fun d => He.fnW K d.at_) = fn.map He.DefD.val := congrArg (fun z : He.AlD => z.2) c
  have e3 := (He.ba (show ((((fa.all fun f => f.ok K) && fn.all fun d => d.ok K)) && ex.all fun f => f K) = true from e1)).1
  exact Prod.ext_iff.mpr ⟨e3, e2⟩
theorem SaysX.ext {fa : List He.Fa} {fn : List He.DefD} {ex : List (PySem.W.Frag → Bool)} {K : PySem.W.Frag} (c : SaysX fa fn ex K) (i : Nat) {f : PySem.W.Frag → Bool} (h : ex[i]? = some f := by rfl) : f K = true := by
  have e1 := congrArg (fun z : He.AlD => z.1) c
  have e3 := (He.ba (show ((((fa.all fun f => f.ok K) && fn.all fun d => d.ok K)) && ex.all fun f => f K) = true from e1)).2
  exact List.all_eq_true.mp e3 f (List.mem_of_getElem? h)
def obsXG (n : Nat) (fa : List He.Fa) (fn : List He.DefD) (ex : List (PySem.W.Frag → Bool)) (g : Addr → Option Obj) : He.AlD := obsX fa fn ex (He.frG g (He.asD g n))
def hookX (n : Nat) (fa : List He.Fa) (fn : List He.DefD) (ex : List (PySem.W.Frag → Bool)) : PySem.W.Hook where
  α := He.AlD
  obs := fun s => obsXG n fa fn ex s.heap.get?
  val := fun _ => He.valD fn
  says := fun _ h => ∃ K : PySem.W.Frag, K.In h ∧ SaysX fa fn ex K
  of := fun _ _ e => ⟨_, He.frG_in, e⟩
  keeps := fun _ _ _ ⟨K, hK, c⟩ k => ⟨K, PySem.W.Frag.In.keeps hK k, c⟩
theorem obsXG_eq {n : Nat} {fa : List He.Fa} {fn : List He.DefD} {ex : List (PySem.W.Frag → Bool)} {g : Addr → Option Obj} {s : Shared} (h : ∀ a, g a = s.heap.get? a) : obsXG n fa fn ex g = (hookX n fa fn ex).obs s := by
  have e : g = s.heap.get? := funext h
  rw [e] <;> rfl
/-- the same over written addresses -/
def obsLG (as : List Addr) (fa : List He.Fa) (fn : List He.DefD) (ex : List (PySem.W.Frag → Bool)) (g : Addr → Option Obj) : He.AlD := obsX fa fn ex (He.frG g as)
def hookL (as : List Addr) (fa : List He.Fa) (fn : List He.DefD) (ex : List (PySem.W.Frag → Bool)) : PySem.W.Hook where
  α := He.AlD
  obs := fun s => obsLG as fa fn ex s.heap.get?
  val := fun _ => He.valD fn
  says := fun _ h => ∃ K : PySem.W.Frag, K.In h ∧ SaysX fa fn ex K
  of := fun _ _ e => ⟨_, He.frG_in, e⟩
  keeps := fun _ _ _ ⟨K, hK, c⟩ k => ⟨K, PySem.W.Frag.In.keeps hK k, c⟩
theorem obsLG_eq {as : List Addr} {fa : List He.Fa} {fn : List He.DefD} {ex : List (PySem.W.Frag → Bool)} {g : Addr → Option Obj} {s : Shared} (h : ∀ a, g a = s.heap.get? a) : obsLG as fa fn ex g = (hookL as fa fn ex).obs s := by
  have e : g = s.heap.get? := funext h
  rw [e] <;> rfl
/-- no exception leaves the law -/
theorem cx_no {P : Program} {w : World} (H : Hp) (s : Shared) (e : Value) (s' : Shared) : L2.CX P w [] H s (fun _ _ _ => False) e s' → False := fun ⟨_, _, _, _, _, _, _, _, _, _, _, _, z⟩ => z
/-- the law, by its function: every list of ints of its length answers True -/
theorem walk_ofW {l : PySem.W.OpenLaw} {n k : Nat} {q : Program} {loose : List Str} {XP : (Str → Option Value) → Heap → Prop} {YP : World → Heap → Prop} {d : DefRec} {x : Str} {F : List D → Rs D}
    (hm : l.most = some n) (hs : n ≤ sizeLine) (hd : d.params.defaults = []) (hr : Room k callerA) (plain : ∀ ns : List Int, ns.length ≤ n → ∃ outs, F [.klst (ns.map D.int)] = .ok (.bl true) outs)
    (Hf : ∀ (w : World) (mg : Str → Option Value) (fa : Addr) (h : Heap), YP w h → h.Ns mainGlobals mg → mg d.name = some (.ref fa) → ∃ (K : PySem.W.Frag) (fd : FuncData),
      K.In h ∧ (∀ (s : Shared) (u : Value), BindsTo s fd ⟨[u], []⟩ [(x, u)]) ∧ ∀ base : Heap, FnOk l.prog w K mg base (L2.CX l.prog w) k fa fd [x] (spF K 1 F)) :
    PySem.W.WalkO q loose XP YP l.row.toRowW d [] fun f us => PySem.call f us := by
  refine Att.attach_call hm hd fun w t₀ t₁ mg mb fa o pm cd doc a vs ns G Y hq _ _ hg ho hi hl hx => ?_
  obtain ⟨K, fd, KX, hb, hF⟩ := Hf w mg fa _ Y G.T.g hg
  refine law_call KX G.T.g G.T.b G.T.builtins G.T.nolimit hx ho hi (Nat.le_trans hl hs) hr (fun base _ _ => hF base) hb (fun H _ hS => ?_) fun H e t => cx_no H t₁ e t
  exact law_ok plain H a ns hl hS
end DL
end

section
set_option maxRecDepth 100000
set_option maxHeartbeats 2000000
namespace DL
open PySem PySem.Spec PyProof.Rows L2
open Evl (Ex)
/-! ### raise C() of an own class -/
theorem mk_own0 {X : Cx} {C : Addr} {bmB : List Value} {B newId initId : String} {x : Str} {p pos : Pos} (F : ExcBaseFacts B newId initId bmB) (q : PySem.W.excIn X.K C bmB newId = true) (gC : X.mg x = some (.ref C))
    (kC : PySem.W.keepIn X.K (.ref C) = true) (r : Raises X (.ref C)) (hg : Gl X x) (hdb : (x == ("__debug__" : Str)) = false := by decide) : PMk X (.Call (.Name x p) [] [] pos) (fun _ H Q => Q (.ref C) none H) := by
  intro pins s σ H Q I h
  refine wpAny_Call_Name_kw (ld_glob I hg gC ?_ hdb)
  refine PySem.W.callWith_K0 I.kIn kC ?_
  obtain ⟨bm, N, nm, qn, bs, hdct, sn, sub, ab, col, dd, k0, k1, k2, k3, k5, mN, hC, hN, hni, T⟩ := exc_obj I.kIn q
  exact wpAny_call_exc_subT F T hC hN hni (fun h' e hm => mk_of I hm r h (I.hok.gone hm.new)) (Nat.zero_le _)
/-- what is known of an own exception class -/
structure XC (K : PySem.W.Frag) (mg : Str → Option Value) (x : Str) : Prop where
  ok : (He.Fa.exc x).ok K = true
  gl : mg x = some (.ref (He.ga K x))
def sRaise0 (x : Str) : M Fl := fun e => .ex ⟨x, []⟩ e
theorem ds_raise0 {X : Cx} {c : Ctx} {W : WX} {k : Nat} {x : Str} {p pos pos' : Pos} (b : Bx X W k) (T : XC X.K X.mg x) (hg : Gl X x) (hdb : (x == ("__debug__" : Str)) = false := by decide) :
    PS X (.Raise (some (.Call (.Name x p) [] [] pos)) none pos') (liftS X.K c W (sRaise0 x)) := by
  obtain ⟨h1, h2, h3, h4⟩ := He.exc_ok T.ok
  refine PS_of (ps_raise b.calm b.tk (mk_own0 PySem.F.excBase_ValueError h1 T.gl h2 (raises_own h3 h4) hg hdb)) fun Dn σ H q => ?_
  obtain ⟨B, e, st, m⟩ := q
  exact m (.ref (He.ga X.K x)) none σ B H (Ex.refl B) st ⟨rfl, .inl ⟨rfl, rfl⟩⟩
end DL
namespace DL
open PySem L2
/-! ### a def with defaults -/
/-- the def x, called with N - dds.length arguments -/
def FnD (P : Program) (w : World) (K : PySem.W.Frag) (mg : Str → Option Value) (base : Heap) (x : Str) (k N : Nat) (F : List D → Rs D) (dds : List D) : Prop :=
  ∃ (f : Addr) (fd : FuncData) (ps : List Str) (us : List Value) (dvs : List V), FnOk P w K mg base (L2.CX P w) k f fd ps (spF K N F) ∧ mg x = some (.ref f) ∧ PySem.W.keepIn K (.ref f) = true ∧ Binds K fd ps us ∧ Vals dvs us ∧ ∀ B, Shs K B dds dvs
theorem de_fnD {X : Cx} {c : Ctx} {W : WX} {k kf n : Nat} {x : Str} {p pos : Pos} {e : Expr} {es : List Expr} {fs : M (List D)} {Fm : List D → Rs D} {dds : List D} (b : Bx X W k) (F : FnD X.prog X.w X.K X.mg X.base x kf n Fm dds) (hk : kf ≤ k) (hg : Gl X x)
    (ha : PA X (e :: es) (liftA X.K c W fs)) (hdb : (x == ("__debug__" : Str)) = false := by decide)
    (he : starEach (e :: es) X.env = (false, eval e X.env) :: starEach es X.env := by rfl) (hpl : (backTo pos (starEach es X.env)).any (·.1) = false := by rfl) : PE X (.Call (.Name x p) (e :: es) [] pos) (lift X.K c W (eCall n Fm (aMore dds fs))) := by
  obtain ⟨f, fd, ps, us, dvs, F1, F2, F3, F4, F5, F6⟩ := F
  exact de_callD b F1 hk hg F2 F3 F4 F5 F6 ha hdb he hpl
end DL
namespace DL
open PySem L2
abbrev dPow : D → D → Option D := dInt2 fun i j => if 0 ≤ j ∧ j ≤ 1000000 ∧ i.natAbs < 2 ^ 64 then some (.int (i ^ j.toNat)) else none
theorem ok_pow {K : PySem.W.Frag} : OpD K (rI CPow fun i j => .int (i ^ j.toNat)) dPow := ok_intC (fun _ _ h => h) fun _ _ _ => .int _
end DL
end

section
set_option maxRecDepth 100000
set_option maxHeartbeats 2000000
namespace DL
open PySem L2
/-! ### a < b < c -/
def eChain (op op' : D → D → Option D) (fa fb fc : M D) : M D := mbind fa fun x => mbind fb fun y => fun e => match op (rs e x) (rs e y) with
  | some (.bl true) => mbind fc (fun w => fun e => mopt (op' (rs e y) (rs e w)) e) e
  | some (.bl false) => .ok (.bl false) e
  | _ => .no
section
variable {X : Cx} {c : Ctx} {W : WX} {a b d : Expr} {fa fb fc : M D} {pos : Pos} {op op' : D → D → Option D} {r r' : R2}
theorem chain_conv (ok : OpD X.K r op) (ok' : OpD X.K r' op') : ∀ σ H Q, lift X.K c W (eChain op op' fa fb fc) σ H Q → tChain r r' (lift X.K c W fa) (lift X.K c W fb) (lift X.K c W fc) σ H Q := fun σ H Q q => by
  obtain ⟨T, B, e, st, m⟩ := q
  refine ⟨T, B, e, st, m.bind.imp fun x e1 B1 H1 x1 m1 st1 v rv => ?_⟩
  refine ⟨T, B1, e1, st1, m1.bind.imp fun y e2 B2 H2 x2 m2 st2 u ru => ?_⟩
  have m2 : Pst X.K c T W σ B2 (match op (rs e2 x) (rs e2 y) with
    | some (.bl true) => mbind fc (fun w => fun e => mopt (op' (rs e y) (rs e w)) e) e2
    | some (.bl false) => .ok (.bl false) e2
    | _ => .no) _ := m2
  cases ho : op (rs e2 x) (rs e2 y) with
  | none =>
    rw [ho] at m2
    exact m2.elim
  | some z =>
    rw [ho] at m2
    refine ok B2 H2 _ _ v u z _ st2.ex (rs_ok st2 (rv.mono x2)) (rs_ok st2 ru) ho fun w B' H' g s => ?_
    have st3 := st2.grow g
    cases z with
    | bl k =>
      cases s
      refine ⟨k, rfl, ?_⟩
      cases k with
      | true =>
        have m3 := Pst.bind (r := fc e2) (g := fun w => fun e => mopt (op' (rs e y) (rs e w)) e) (Pst.mono g.b m2)
        refine ⟨T, B', e2, st3, m3.imp fun w e3 B3 H3 x3 m4 st4 v' rv' => ?_⟩
        have m4 : Pst X.K c T W σ B3 (mopt (op' (rs e3 y) (rs e3 w)) e3) _ := m4
        cases ho' : op' (rs e3 y) (rs e3 w) with
        | none =>
          rw [ho'] at m4
          exact m4.elim
        | some z' =>
          rw [ho'] at m4
          exact ok' B3 H3 _ _ u v' z' Q st4.ex (rs_ok st4 ((ru.mono g.b).mono x3)) (rs_ok st4 rv') ho' fun w B' H' g s => m4 B' H' g.b (st4.grow g) w (RT.of s)
      | false => exact m2 B' H' g.b st3 (.bl false) (RT.of (.bl false))
    | _ => exact m2.elim
theorem de_chain {o o' : CmpOp} (hr : OpR X (compareOp o) r) (ok : OpD X.K r op) (hr' : OpR X (compareOp o') r') (ok' : OpD X.K r' op') (ha : PE X a (lift X.K c W fa)) (hb : PE X b (lift X.K c W fb)) (hc : PE X d (lift X.K c W fc))
    (hm : lastMarks [o, o'] [b, d] = false := by with_unfolding_all rfl) : PE X (.Compare a [o, o'] [b, d] pos) (lift X.K c W (eChain op op' fa fb fc)) := PE_of (pe_chain hr hr' ha hb hc hm) (chain_conv ok ok')
theorem dt_chain {o o' : CmpOp} (hr : OpR X (compareOp o) r) (ok : OpD X.K r op) (hr' : OpR X (compareOp o') r') (ok' : OpD X.K r' op') (ha : PE X a (lift X.K c W fa)) (hb : PE X b (lift X.K c W fb)) (hc : PE X d (lift X.K c W fc))
    (hm : lastMarks [o, o'] [b, d] = false := by with_unfolding_all rfl) : PT X (.Compare a [o, o'] [b, d] pos) (liftT X.K c W (tOf (eChain op op' fa fb fc))) :=
  PT_of (pt_chain hr hr' ha hb hc hm) fun σ H Q q => by
    obtain ⟨T, B, e, st, m⟩ := test_conv σ H Q q
    exact chain_conv ok ok' σ H _ ⟨T, B, e, st, m⟩
end
end DL
namespace DL
open PySem L2
/-! ### x += e of ints -/
def sAugI (i : Nat) (g : Int → Int → Int) (fe : M D) : M Fl := fun e => match e[i]? with
  | some (some (.int n)) => mbind fe (fun y => fun e1 => match rs e1 y with
    | .int k => .ok .nx (e1.set i (some (.int (g n k))))
    | _ => .no) e
  | _ => .no
section
variable {X : Cx} {c : Ctx} {W : WX}
theorem aug_conv {i : Nat} {g : Int → Int → Int} {fe : M D} : ∀ Dn σ H, liftS X.K c W (sAugI i g fe) Dn σ H → tAug i (lift X.K c W fe) (ipI g) Dn σ H := fun Dn σ H q => by
  obtain ⟨B, e, st, m⟩ := q
  obtain ⟨fp, s1, _⟩ := st.slots
  unfold sAugI at m
  cases he : e[i]? with
  | none =>
    rw [he] at m
    exact m.elim
  | some o =>
    rw [he] at m
    cases o with
    | none => exact m.elim
    | some d =>
      cases d with
      | int n =>
        obtain ⟨v, hv, ow, _⟩ := s1 i _ he
        cases (show Sh X.K B (.int n) v from ow.shOf rfl)
        refine ⟨.int n, hv, [], B, e, st, (Pst.go (σ := σ) (show SEnd X.K c W B Dn ((fe e).bind _) from m)).imp fun d e1 B1 H1 x1 m1 st1 u ru => ?_⟩
        have r2 := rs_ok st1 ru
        generalize hz : rs e1 d = z at m1 r2
        cases z with
        | int k =>
          cases (show Sh X.K B1 (.int k) u from r2)
          exact ⟨n, k, rfl, rfl, m1 (σ.set i (some (.int (g n k)))) B1 H1 (Evl.Ex.refl _) (st1.set (.int _))⟩
        | _ => exact m1.elim
      | _ => exact m.elim
theorem ds_aug {i : Nat} {g : Int → Int → Int} {x : Str} {y : Expr} {fe : M D} {op : Operator} {pos pos' : Pos} (hN : X.N.Nodup) (hi : X.N[i]? = some x) (hx : Loc X.env.scope x) (h : PE X y (lift X.K c W fe)) (ho : PIp X op (ipI g))
    (hf : X.fn x = true ∨ X.env.scope.names.lookup x = some .local := by first | exact .inl rfl | exact .inr rfl | assumption) : PS X (.AugAssign (.Name x pos') op y pos) (liftS X.K c W (sAugI i g fe)) := PS_of (ps_aug hN hi hx h ho hf) aug_conv
end
end DL
end

section
set_option maxRecDepth 100000
set_option maxHeartbeats 2000000
namespace DL
open PySem L2
/-! ### f(e, .., k = v): no exception may leave -/
/-- F at the arguments ds -/
def eAt (n : Nat) (F : List D → Rs D) (ds : List D) : M D := fun e => if ds.length = n ∧ alN ds = true ∧ (ds.map (rsB e)).all noOwn = true then
    match F (ds.map (rsB e)) with
    | .ok r outs => .ok r (putO e ds outs)
    | _ => .no
  else .no
/-- g puts positional values, defaults, keywords' values in the parameters' order -/
def eCallK (n np nk : Nat) (F : List D → Rs D) (g : List D → List D → List D → List D) (dds : List D) (fs ks : M (List D)) : M D := mbind fs fun ds => mbind ks fun zs => fun e => if ds.length = np ∧ zs.length = nk then eAt n F (g ds dds zs) e else .no
section
variable {X : Cx} {c : Ctx} {W : WX} {k kf n np : Nat} {f : Addr} {fd : FuncData} {ps ks : List Str} {x : Str} {p pos kpos : Pos} {e : Expr} {es : List Expr} {kws : List Keyword} {nm : Option Str} {fs zs : M (List D)} {fe : M D} {Fm : List D → Rs D} {dds : List D} {dvs : List V}
theorem dk_nil : PK X [] (liftA X.K c W aNil) := ⟨fun pos pins s σ H Q I q => pk_nil.run pos pins s σ H Q I (by
  obtain ⟨T, B, e, st, m⟩ := q
  exact m B H (Evl.Ex.refl B) st [] rfl)⟩
theorem dk_cons (h : PE X e (lift X.K c W fe)) (r : PK X kws (liftA X.K c W fs)) : PK X (⟨nm, e, kpos⟩ :: kws) (liftA X.K c W (aCons fe fs)) := ⟨fun pos pins s σ H Q I q => (pk_cons h r).run pos pins s σ H Q I (by
  obtain ⟨T, B, e, st, m⟩ := q
  refine ⟨T, B, e, st, m.bind.imp fun d e1 B1 H1 x1 m1 st1 v rv => ?_⟩
  refine ⟨T, B1, e1, st1, m1.bind.imp fun ds e2 B2 H2 x2 m2 st2 us ru => ?_⟩
  exact m2 B2 H2 (Evl.Ex.refl _) st2 (v :: us) ⟨v, us, rfl, rv.mono x2, ru⟩)⟩
theorem at_core {T : List (Addr × HO)} {B1 H1 : Hp} {σ : L2.St} {e1 : Env} {ds : List D} {vs : List V} {Q : VK} (st1 : StOk X.K c T B1 H1 σ e1) (rv : RTs X.K B1 σ ds vs)
    (m1 : Pst X.K c T W σ B1 (eAt n Fm ds e1) fun d e' B' H' => StOk X.K c T B' H' σ e' → ∀ v, RT X.K B' σ d v → Q v H') : spF X.K n Fm vs H1 Q fun _ _ _ => False := by
  unfold eAt at m1
  by_cases hc : ds.length = n ∧ alN ds = true ∧ (ds.map (rsB e1)).all noOwn = true
  · rw [if_pos hc] at m1
    obtain ⟨h1, h2, h3⟩ := hc
    obtain ⟨fp, a1, a2, a3, a4, a5, A⟩ := call_args st1 rv h2 h3
    refine ⟨B1, ds.map (rsB e1), lentFp fp ds, A, by rw [List.length_map]; exact h1, ?_⟩
    generalize Fm (ds.map (rsB e1)) = r at m1 ⊢
    cases r with
    | no => exact m1
    | ok d outs => exact fun v B' H' gp af sh o => m1 B' H' af.b (call_after st1 a1 a2 a3 a4 a5 rv h2 af o A) v (RT.of sh)
    | ex y outs => exact m1.elim
  · rw [if_neg hc] at m1
    exact m1.elim
/-- the arrangement, on values and on data alike -/
def Arr (g : {α : Type} → List α → List α → List α → List α) : Prop := ∀ {K : PySem.W.Frag} {B : Hp} {σ : L2.St} {ds dds zs : List D} {vs dvs ws : List V}, RTs K B σ ds vs → RTs K B σ dds dvs → RTs K B σ zs ws → RTs K B σ (g ds dds zs) (g vs dvs ws)
theorem de_callK {g : {α : Type} → List α → List α → List α → List α} {gU : List Value → List Value → List Value} (b : Bx X W k) (F : FnOk X.prog X.w X.K X.mg X.base (L2.CX X.prog X.w) kf f fd ps (spF X.K n Fm)) (hk : kf ≤ k) (hg : Gl X x) (hm : X.mg x = some (.ref f))
    (hp : PySem.W.keepIn X.K (.ref f) = true) (hb : KBn X.K fd ps np ks gU (fun vs ws => g vs dvs ws)) (hd : ∀ B, Shs X.K B dds dvs) (hA : Arr g) (ha : PA X (e :: es) (liftA X.K c W fs)) (hkw : PK X kws (liftA X.K c W zs))
    (hall : (backToKw pos (keywordEach kws X.env)).all (·.1.isSome) = true := by rfl) (hks : (backToKw pos (keywordEach kws X.env)).filterMap (·.1) = ks := by rfl)
    (hdb : (x == ("__debug__" : Str)) = false := by decide) (he : starEach (e :: es) X.env = (false, eval e X.env) :: starEach es X.env := by rfl)
    (hpl : ((backTo pos (starEach (e :: es) X.env)).any (·.1) || (backToKw pos (keywordEach kws X.env)).any (·.1.isNone)) = false := by rfl) :
    PE X (.Call (.Name x p) (e :: es) kws pos) (lift X.K c W (eCallK n np ks.length Fm g dds fs zs)) :=
  PE_of (pe_callN (E := fun _ _ _ => False) F (b.room.mono hk) hg hm hp hb (fun _ _ _ _ _ _ _ ⟨_, _, _, _, _, _, _, _, _, _, _, _, z⟩ => z.elim) ha hkw hall hks hdb he hpl) fun σ H Q q => by
    obtain ⟨T, B, e, st, m⟩ := q
    refine ⟨T, B, e, st, m.bind.imp fun ds e1 B1 H1 x1 m1 st1 vs rv => ?_⟩
    refine ⟨T, B1, e1, st1, m1.bind.imp fun zs e2 B2 H2 x2 m2 st2 ws rw_ => ?_⟩
    have m2 : Pst X.K c T W σ B2 (if ds.length = np ∧ zs.length = ks.length then eAt n Fm (g ds dds zs) e2 else .no) _ := m2
    by_cases hc : ds.length = np ∧ zs.length = ks.length
    · rw [if_pos hc] at m2
      have r1 := rv.mono x2
      refine ⟨r1.length.symm.trans hc.1, rw_.length.symm.trans hc.2, at_core st2 (hA r1 ?_ rw_) m2⟩
      have := rts_more (hd B2) (show RTs X.K B2 σ [] [] from rfl)
      simpa using this
    · rw [if_neg hc] at m2
      exact m2.elim
end
end DL
namespace DL
open PySem L2
/-- an arrangement by places: (0, i) the i-th positional value, (1, i) default, (2, i) keyword's value -/
def arr (is : List (Nat × Nat)) {α : Type} (a d z : List α) : List α := match is with
  | [] => []
  | (k, i) :: is => ((if k = 0 then a else if k = 1 then d else z)[i]?).toList ++ arr is a d z
theorem vals_at : ∀ {xs : List V} {us : List Value} (i : Nat), Vals xs us → Vals (xs[i]?).toList (us[i]?).toList
  | [], [], i, _ => by simp; exact .nil
  | x :: xs, u :: us, 0, h => by
    cases h with
    | cons r _ => exact .cons r .nil
  | x :: xs, u :: us, i + 1, h => by
    cases h with
    | cons _ r => simpa using vals_at i r
theorem arr_vals (is : List (Nat × Nat)) : ∀ {vs ds zs : List V} {us its ws : List Value}, Vals vs us → Vals ds its → Vals zs ws → Vals (arr is vs ds zs) (arr is us its ws) := by
  intro vs ds zs us its ws h1 h2 h3
  induction is with
  | nil => exact .nil
  | cons p is ih =>
    obtain ⟨k, i⟩ := p
    unfold arr
    refine Vals.append ?_ ih
    by_cases k0 : k = 0
    · simp only [k0, if_true]
      exact vals_at i h1
    · by_cases k1 : k = 1
      · simp only [k1]
        exact vals_at i h2
      · simp only [k0, k1, if_false]
        exact vals_at i h3
theorem rts_at {K : PySem.W.Frag} {B : Hp} {σ : L2.St} : ∀ {ds : List D} {vs : List V} (i : Nat), RTs K B σ ds vs → RTs K B σ (ds[i]?).toList (vs[i]?).toList
  | [], vs, i, h => by
    have : vs = [] := h
    subst this
    simp
    rfl
  | d :: ds, vs, i, h => by
    obtain ⟨v, us, rfl, h1, h2⟩ := h
    cases i with
    | zero => exact ⟨v, [], rfl, h1, rfl⟩
    | succ i => simpa using rts_at i h2
theorem rts_app {K : PySem.W.Frag} {B : Hp} {σ : L2.St} {es : List D} {us : List V} (h : RTs K B σ es us) : ∀ {ds : List D} {vs : List V}, RTs K B σ ds vs → RTs K B σ (ds ++ es) (vs ++ us)
  | [], vs, r => by
    have : vs = [] := r
    subst this
    exact h
  | d :: ds, vs, r => by
    obtain ⟨v, ws, rfl, r1, r2⟩ := r
    exact ⟨v, ws ++ us, rfl, r1, rts_app h r2⟩
theorem arr_ok (is : List (Nat × Nat)) : Arr (fun {α} => @arr is α) := by
  intro K B σ ds dds zs vs dvs ws h1 h2 h3
  induction is with
  | nil => rfl
  | cons p is ih =>
    obtain ⟨k, i⟩ := p
    show RTs K B σ (arr ((k, i) :: is) ds dds zs) (arr ((k, i) :: is) vs dvs ws)
    unfold arr
    refine rts_app ih ?_
    by_cases k0 : k = 0
    · simp only [k0, if_true]
      exact rts_at i h1
    · by_cases k1 : k = 1
      · simp only [k1]
        exact rts_at i h2
      · simp only [k0, k1, if_false]
        exact rts_at i h3
/-- the def x, called with np values and the keywords ks -/
def FnK (P : Program) (w : World) (K : PySem.W.Frag) (mg : Str → Option Value) (base : Heap) (x : Str) (k N np : Nat) (ks : List Str) (is : List (Nat × Nat)) (F : List D → Rs D) (dds : List D) : Prop :=
  ∃ (f : Addr) (fd : FuncData) (ps : List Str) (gU : List Value → List Value → List Value) (dvs : List V), FnOk P w K mg base (L2.CX P w) k f fd ps (spF K N F) ∧ mg x = some (.ref f) ∧ PySem.W.keepIn K (.ref f) = true ∧
    KBn K fd ps np ks gU (fun vs ws => arr is vs dvs ws) ∧ ∀ B, Shs K B dds dvs
theorem de_fnK {X : Cx} {c : Ctx} {W : WX} {k kf n np : Nat} {ks : List Str} {is : List (Nat × Nat)} {x : Str} {p pos : Pos} {e : Expr} {es : List Expr} {kws : List Keyword} {fs zs : M (List D)} {Fm : List D → Rs D} {dds : List D} (b : Bx X W k)
    (F : FnK X.prog X.w X.K X.mg X.base x kf n np ks is Fm dds) (hk : kf ≤ k) (hg : Gl X x) (ha : PA X (e :: es) (liftA X.K c W fs)) (hkw : PK X kws (liftA X.K c W zs))
    (hall : (backToKw pos (keywordEach kws X.env)).all (·.1.isSome) = true := by rfl) (hks : (backToKw pos (keywordEach kws X.env)).filterMap (·.1) = ks := by rfl)
    (hdb : (x == ("__debug__" : Str)) = false := by decide) (he : starEach (e :: es) X.env = (false, eval e X.env) :: starEach es X.env := by rfl)
    (hpl : ((backTo pos (starEach (e :: es) X.env)).any (·.1) || (backToKw pos (keywordEach kws X.env)).any (·.1.isNone)) = false := by rfl) :
    PE X (.Call (.Name x p) (e :: es) kws pos) (lift X.K c W (eCallK n np ks.length Fm (arr is) dds fs zs)) := by
  obtain ⟨f, fd, ps, gU, dvs, F1, F2, F3, F4, F5⟩ := F
  exact de_callK (g := fun {α} => @arr is α) b F1 hk hg F2 F3 F4 F5 (arr_ok is) ha hkw hall hks hdb he hpl
end DL
end

section
set_option maxRecDepth 100000
set_option maxHeartbeats 2000000
/-! a caught exception: its classes, isinstance, a def that takes it, try .. except C as e -/
namespace DL
open PySem PySem.Spec PyProof.Rows L2
open Evl (Ex)

/-! ### classes by name -/
inductive CN where
  | own (x : Str)
  | ty (n : String)
deriving DecidableEq
def CN.val (K : PySem.W.Frag) : CN → Value
  | .own x => .ref (He.ga K x)
  | .ty n => .type n
def CN.v (K : PySem.W.Frag) : CN → V
  | .own x => .ref (He.ga K x)
  | .ty n => .ty n
theorem CN.rel {K : PySem.W.Frag} {C : CN} {u : Value} (r : RelV (C.v K) u) : u = C.val K := by
  cases C with
  | own x => exact r
  | ty n => exact r
theorem CN.rel' {K : PySem.W.Frag} (C : CN) : RelV (C.v K) (C.val K) := by
  cases C with
  | own x => rfl
  | ty n => rfl
/-- each raised class with its ancestors -/
abbrev XTab := List (Str × List CN)
def hasX (t : XTab) (x : Str) : Bool := (t.lookup x).isSome
def isSub (t : XTab) (x : Str) (C : CN) : Bool := match t.lookup x with
  | some l => decide (C ∈ l)
  | none => false
def isSubs (t : XTab) (x : Str) (Cs : List CN) : Bool := Cs.any (isSub t x)
/-- what the written part says of them -/
structure XT (K : PySem.W.Frag) (t : XTab) (Cs Es : List CN) : Prop where
  ec : ∀ x, hasX t x = true → ExcC K (He.ga K x)
  one : ∀ x, hasX t x = true → ∀ C ∈ Cs, PySem.W.kitOne K (.ref (He.ga K x)) (C.val K) = some (isSub t x C)
  exm : ∀ x, hasX t x = true → ∀ C ∈ Es, PySem.W.exmOne K (.ref (He.ga K x)) (C.val K) = some (isSub t x C)
def ecB (K : PySem.W.Frag) (D : Addr) : Bool :=
  (decide (PySem.W.findIn K (.ref D) "__getattribute__" = some (some (.builtin "BaseException.__getattribute__"))) && (decide (PySem.W.findIn K (.ref D) "__getattr__" = some none) && decide (PySem.W.subIn K (.ref D) (.type "BaseException") = some true))) &&
  ((PySem.W.hasDictIn K D && decide (PySem.W.findIn K (.ref D) "__class__" = some (some (.builtin "object.__class__")))) &&
   (decide (PySem.W.specialIn K (.builtin "object.__class__") "__get__" = some (some (.builtin "getset_descriptor.__get__"))) && (decide (PySem.W.takesIn K (.builtin "object.__class__") = some true) && decide (PySem.W.mroIn K D (.type "object") = some true))))
theorem ecB_ok {K : PySem.W.Frag} {D : Addr} (h : ecB K D = true) : ExcC K D := by
  unfold ecB at h
  simp only [Bool.and_eq_true, decide_eq_true_eq] at h
  obtain ⟨⟨h1, h2, h3⟩, ⟨h4, h5⟩, h6, h7, h8⟩ := h
  exact ⟨h1, h2, h3, h4, h5, h6, h7, h8⟩
def xtB (t : XTab) (Cs Es : List CN) (K : PySem.W.Frag) : Bool := t.all fun p => ecB K (He.ga K p.1) && ((Cs.all fun C => decide (PySem.W.kitOne K (.ref (He.ga K p.1)) (C.val K) = some (isSub t p.1 C))) && Es.all fun C => decide (PySem.W.exmOne K (.ref (He.ga K p.1)) (C.val K) = some (isSub t p.1 C)))
theorem hasX_mem {t : XTab} {x : Str} (h : hasX t x = true) : ∃ l, (x, l) ∈ t := by
  unfold hasX at h
  obtain ⟨l, e⟩ := Option.isSome_iff_exists.mp h
  exact ⟨l, PySem.mem_of_lookup e⟩
theorem xtB_ok {t : XTab} {Cs Es : List CN} {K : PySem.W.Frag} (h : xtB t Cs Es K = true) : XT K t Cs Es := by
  have all : ∀ x, hasX t x = true → ecB K (He.ga K x) = true ∧ ((Cs.all fun C => decide (PySem.W.kitOne K (.ref (He.ga K x)) (C.val K) = some (isSub t x C))) && Es.all fun C => decide (PySem.W.exmOne K (.ref (He.ga K x)) (C.val K) = some (isSub t x C))) = true := fun x hx => by
    obtain ⟨l, m⟩ := hasX_mem hx
    exact He.ba (List.all_eq_true.mp h (x, l) m)
  refine ⟨fun x hx => ecB_ok (all x hx).1, fun x hx C m => ?_, fun x hx C m => ?_⟩
  · exact of_decide_eq_true (List.all_eq_true.mp (He.ba (all x hx).2).1 C m)
  · exact of_decide_eq_true (List.all_eq_true.mp (He.ba (all x hx).2).2 C m)
theorem kitAny_of {K : PySem.W.Frag} {t : XTab} {Cs Es : List CN} (T : XT K t Cs Es) {x : Str} (hx : hasX t x = true) : ∀ {As : List CN}, (∀ C ∈ As, C ∈ Cs) → PySem.W.kitAny K (.ref (He.ga K x)) (As.map (CN.val K)) = some (isSubs t x As)
  | [], _ => rfl
  | C :: As, h => by
    have e1 := T.one x hx C (h C List.mem_cons_self)
    have e2 := kitAny_of T hx (As := As) fun D m => h D (List.mem_cons_of_mem _ m)
    show (match PySem.W.kitOne K (.ref (He.ga K x)) (C.val K) with
      | some true => some true
      | some false => PySem.W.kitAny K (.ref (He.ga K x)) (As.map (CN.val K))
      | none => none) = some (isSub t x C || isSubs t x As)
    rw [e1, e2]
    cases isSub t x C <;> rfl

/-! ### isinstance of it -/
def XdOk (H : Hp) : Option Addr → Prop
  | none => True
  | some p => ∃ fs, H p = some (.xd fs)
section
variable {X : Cx} {pins : List (Addr × Obj)} {σ : L2.St} {H : Hp} {s : Shared} {a D : Addr} {oe : Obj} {dd : Option Addr}
theorem inst_of (I : Inv X pins σ H s) (hp : (a, oe) ∈ X.pn) (hz : Zc (.ref D) dd oe) (hf : ∃ vs, oe.data = .fields vs) (hd : XdOk H dd) : ∃ od, PySem.W.InstAt s.heap a oe D od := by
  obtain ⟨ha, _⟩ := I.pin (a, oe) (List.mem_append_left _ hp)
  obtain ⟨vs, hv⟩ := hf
  have nc : PySem.W.notCls oe = true := by
    unfold PySem.W.notCls
    rw [hv] <;> rfl
  cases dd with
  | none => exact ⟨none, ha, hz.1, nc, by rw [hz.2]; trivial⟩
  | some p =>
    obtain ⟨fs, hH⟩ := hd
    obtain ⟨u, hu⟩ := objOk_get (I.hok p _ hH)
    exact ⟨some u, ha, hz.1, nc, by rw [hz.2]; exact hu⟩
theorem kit_exc (C : ExcC X.K D) {od : Option Obj} : PySem.W.KitX X.K (.ref a) (.ref D) (fun h => PySem.W.InstAt h a oe D od) := by
  obtain ⟨cd, hc, _⟩ := PySem.W.any_some C.hd
  exact PySem.W.kitx_exc (by rw [hc] <;> rfl) C.hg C.hk C.hs C.ha C.hn C.ht C.hm
def rIs1 (K : PySem.W.Frag) (D a : Addr) (dd : Option Addr) : List V → Hp → VK → Prop := fun xs H Q => ∃ (C : CN) (b : Bool), xs = [.ref a, C.v K] ∧ XdOk H dd ∧ PySem.W.kitOne K (.ref D) (C.val K) = some b ∧ Q (.bl b) H
def rIsN (K : PySem.W.Frag) (D a : Addr) (dd : Option Addr) : List V → Hp → VK → Prop := fun xs H Q =>
  ∃ (tp : Addr) (Cs : List CN) (b : Bool), xs = [.ref a, .ref tp] ∧ H tp = some (.tup (Cs.map (CN.v K))) ∧ XdOk H dd ∧ PySem.W.kitAny K (.ref D) (Cs.map (CN.val K)) = some b ∧ Q (.bl b) H
theorem call_is1 (hp : (a, oe) ∈ X.pn) (C : ExcC X.K D) (hz : Zc (.ref D) dd oe) (hf : ∃ vs, oe.data = .fields vs) : CallR X (.builtin "isinstance") (rIs1 X.K D a dd) := by
  intro pins s σ H xs us Q I r h
  obtain ⟨A, b, rfl, hd, e, q⟩ := h
  obtain ⟨u1, u2, rfl, r1, r2⟩ := vals2 r
  cases (show u1 = Value.ref a from r1)
  cases (CN.rel r2)
  obtain ⟨od, J⟩ := inst_of I hp hz hf hd
  exact PySem.W.kia_one (kit_exc C) I.kIn J e (fun z => nomatch z) fun tk => ⟨.bl b, H, I.tok tk, rfl, q⟩
theorem cn_all {K : PySem.W.Frag} : ∀ {Cs : List CN} {us : List Value}, Vals (Cs.map (CN.v K)) us → us = Cs.map (CN.val K)
  | [], [], _ => rfl
  | C :: Cs, u :: us, h => by
    cases h with
    | cons r rr =>
      rw [CN.rel r, cn_all rr] <;> rfl
theorem call_isN (hp : (a, oe) ∈ X.pn) (C : ExcC X.K D) (hz : Zc (.ref D) dd oe) (hf : ∃ vs, oe.data = .fields vs) : CallR X (.builtin "isinstance") (rIsN X.K D a dd) := by
  intro pins s σ H xs us Q I r h
  obtain ⟨tp, As, b, rfl, hT, hd, e, q⟩ := h
  obtain ⟨u1, u2, rfl, r1, r2⟩ := vals2 r
  cases (show u1 = Value.ref a from r1)
  cases (show u2 = Value.ref tp from r2)
  obtain ⟨od, J⟩ := inst_of I hp hz hf hd
  obtain ⟨_, its, rv, ⟨oc, odd, dt, sl⟩, h1, h2, n, h3⟩ := (show ObjOk X.prog X.w H s.heap tp (.tup (As.map (CN.v X.K))) from I.hok tp _ hT)
  have e3 := cn_all rv
  subst e3
  cases h2
  cases h3
  exact PySem.W.kia_tup (kit_exc C) I.kIn J h1 e (fun z => nomatch z) fun tk => ⟨.bl b, H, I.tok tk, rfl, q⟩
end

/-! ### in a suite -/
/-- the exception x stands at c.exa, out of reach of what is tracked -/
def HX (X : Cx) (c : Ctx) (x : Exn) : Prop := ∃ (oe : Obj) (cls : Value) (dd : Option Addr), (c.exa, oe) ∈ X.pn ∧ Zc cls dd oe ∧ (∃ vs, oe.data = .fields vs) ∧ RX X.K c.B0 x cls dd
/-- what a read of the exception's slot leads to -/
def eX (i : Nat) (r : Option D) : M D := fun e => match e[i]? with
  | some (some (.al _)) => mopt r e
  | _ => .no
theorem eX_some {i : Nat} {r : Option D} {K : PySem.W.Frag} {c : Ctx} {T : List (Addr × HO)} {W : WX} {σ : L2.St} {B H : Hp} {e : Env} {k : D → Env → Hp → Hp → Prop} (st : StOk K c T B H σ e) (m : Pst K c T W σ B (eX i r e) k) :
    σ[i]? = some (some (.ref c.exa)) ∧ ∃ d, r = some d ∧ ∀ B' H', Ex B B' → k d e B' H' := by
  unfold eX at m
  cases he : e[i]? with
  | none =>
    rw [he] at m
    exact m.elim
  | some o => cases o with
    | none =>
      rw [he] at m
      exact m.elim
    | some d =>
      rw [he] at m
      cases d with
      | al j =>
        obtain ⟨fp, h1, _⟩ := st.slots
        obtain ⟨v, hv, _, cd⟩ := h1 i _ he
        rw [cd.2] at hv
        refine ⟨hv, ?_⟩
        cases r with
        | none => exact m.elim
        | some d => exact ⟨d, rfl, m⟩
      | _ => exact m.elim
theorem xd_of {K : PySem.W.Frag} {B H : Hp} {x : Exn} {cls : Value} {dd : Option Addr} (h : RX K B x cls dd) (e : Ex B H) : XdOk H dd := by
  rcases h.2 with ⟨_, rfl⟩ | ⟨p, fs, rfl, h1, _⟩
  · trivial
  · exact ⟨fs, e _ _ h1⟩
/-- the name y is the class C -/
def CNok (X : Cx) (y : Str) (C : CN) : Prop := (y == ("__debug__" : Str)) = false ∧ Gl X y ∧ match C with
  | .own x => X.mg y = some (.ref (He.ga X.K x))
  | .ty n => X.mg y = none ∧ bootBuiltins y = some (.type n) ∧ y ≠ "__name__"
theorem cn_own {X : Cx} {x : Str} (hm : X.mg x = some (.ref (He.ga X.K x))) (hg : Gl X x := by rfl) (hd : (x == ("__debug__" : Str)) = false := by decide) : CNok X x (.own x) := ⟨hd, hg, hm⟩
theorem cn_ty {X : Cx} {y : Str} {n : String} (hm : X.mg y = none) (hg : Gl X y := by rfl) (hv : bootBuiltins y = some (.type n) := by decide +kernel) (hn : y ≠ "__name__" := by decide) (hd : (y == ("__debug__" : Str)) = false := by decide) : CNok X y (.ty n) := ⟨hd, hg, hm, hv, hn⟩
inductive CNs (X : Cx) (Cs : List CN) : List Expr → List CN → Prop
  | nil : CNs X Cs [] []
  | cons {y : Str} {p : Pos} {C : CN} {es : List Expr} {As : List CN} (h : CNok X y C) (m : C ∈ Cs) (r : CNs X Cs es As) : CNs X Cs (.Name y p :: es) (C :: As)
section
variable {X : Cx} {c : Ctx} {W : WX}
theorem pe_cn {y : Str} {p : Pos} {C : CN} (h : CNok X y C) : PE X (.Name y p) (tC (C.v X.K)) := by
  obtain ⟨hd, hg, h⟩ := h
  cases C with
  | own x => exact pe_glob hg h rfl hd
  | ty n => exact pe_bltn hg h.1 h.2.1 rfl h.2.2 hd
theorem pa_cns {Cs : List CN} : ∀ {es : List Expr} {As : List CN}, CNs X Cs es As → PA X es (fun _ H Q => Q (As.map (CN.v X.K)) H)
  | _, _, .nil => PA_of pa_nil fun _ _ _ q => q
  | _, _, .cons h m r => PA_of (pa_cons (pe_cn h) (pa_cns r)) fun _ _ _ q => q
theorem CNs.mem {Cs : List CN} : ∀ {es : List Expr} {As : List CN}, CNs X Cs es As → ∀ C ∈ As, C ∈ Cs
  | _, _, .nil, _, m => nomatch m
  | _, _, .cons h m r, C, z => by
    rcases List.mem_cons.mp z with rfl | z
    · exact m
    · exact CNs.mem r C z
variable {t : XTab} {Cs Es As : List CN} {x : Exn} {n y : Str} {p p1 p2 pos : Pos} {i : Nat} {C : CN} {es : List Expr} {x1 : Nat}
theorem de_is1 (T : XT X.K t Cs Es) (h : HX X c x) (hx : hasX t x.cls = true) (he : PE X (.Name n p1) (tVar i)) (hc : CNok X y C) (hC : C ∈ Cs) (hg : Gl X "isinstance") (hm : X.mg "isinstance" = none) :
    PE X (.Call (.Name "isinstance" p) [.Name n p1, .Name y p2] [] pos) (lift X.K c W (eX i (some (.bl (isSub t x.cls C))))) := by
  obtain ⟨oe, cls, dd, hp, hz, hf, rx⟩ := h
  cases rx.1
  refine PE_of (pe_callB (call_is1 hp (T.ec _ hx) hz hf) hg hm (by decide +kernel) (pa_cons he (pa_cons (pe_cn hc) pa_nil))) fun σ H Q q => ?_
  obtain ⟨TT, B, e, st, m⟩ := q
  obtain ⟨hv, d, hd, m⟩ := eX_some st m
  cases hd
  exact ⟨_, hv, C, _, rfl, xd_of rx (fun b o z => st.bh _ _ (st.b0 _ _ z)), T.one _ hx C hC, m B H (Evl.Ex.refl B) st _ (.bl _)⟩
theorem de_isN (T : XT X.K t Cs Es) (h : HX X c x) (hx : hasX t x.cls = true) (he : PE X (.Name n p1) (tVar i)) (hc : CNs X Cs es As) (hl : As.length ≤ sizeLine) (hg : Gl X "isinstance") (hm : X.mg "isinstance" = none) :
    PE X (.Call (.Name "isinstance" p) [.Name n p1, .Tuple es x1 p2] [] pos) (lift X.K c W (eX i (some (.bl (isSubs t x.cls As))))) := by
  obtain ⟨oe, cls, dd, hp, hz, hf, rx⟩ := h
  cases rx.1
  refine PE_of (pe_callB (call_isN hp (T.ec _ hx) hz hf) hg hm (by decide +kernel) (pa_cons he (pa_cons (pe_tup (pa_cns hc)) pa_nil))) fun σ H Q q => ?_
  obtain ⟨TT, B, e, st, m⟩ := q
  obtain ⟨hv, d, hd, m⟩ := eX_some st m
  cases hd
  refine ⟨_, hv, by rw [List.length_map]; exact hl, fun tp hT => ?_⟩
  have g := Grow.new st.bh (HO.tup (As.map (CN.v X.K))) hT
  exact ⟨tp, As, _, rfl, upd_same, xd_of rx (fun b o z => g.bh _ _ (g.b _ _ (st.b0 _ _ z))), kitAny_of T hx hc.mem, m _ _ g.b (st.grow g) _ (.bl _)⟩
end
end DL
end

section
set_option maxRecDepth 100000
set_option maxHeartbeats 2000000
/-! a def that takes the caught exception, called in a suite; try -/
namespace DL
open PySem PySem.Spec PyProof.Rows L2
open Evl (Ex)

/-! ### f(e) in a suite -/
def resE : Rs D → Option D
  | .ok d _ => some d
  | _ => none
theorem StOk.called {K : PySem.W.Frag} {c : Ctx} {T : List (Addr × HO)} {B H B' H' : Hp} {σ : L2.St} {e : Env} (s : StOk K c T B H σ e) (af : After B H (fun _ => False) B' H') : StOk K c T B' H' σ e where
  len := s.len
  slots := by
    obtain ⟨fp, h1, h2, h3, h4, h5⟩ := s.slots
    refine ⟨fp, fun i d hd => ?_, h2, h3, h4, h5⟩
    obtain ⟨v, hv, ow, cd⟩ := h1 i d hd
    exact ⟨v, hv, ow.mono af.b (fun a m => af.old a (ow.free a m).2 (ow.free a m).1) (fun a _ o q => af.keep a o (fun z => z) q), cd⟩
  tmp := fun q m => by
    obtain ⟨t1, t2, t3⟩ := s.tmp q m
    exact ⟨t1, af.keep _ _ (fun z => z) t2, af.old _ (by rw [t2]; exact fun z => (nomatch z)) t3⟩
  tnd := s.tnd
  bh := af.bh
  b0 := s.b0.trans af.b
  keep := fun a o nl h => af.keep a o (fun z => z) (s.keep a o nl h)
  there := fun a n => af.there a (s.there a n)
  old := fun a n z => af.old a (s.there a n) (s.old a n z)
/-- the def at f tells r x of the exception x that is handled -/
def FnE1 (P : Program) (w : World) (K : PySem.W.Frag) (mg : Str → Option Value) (base : Heap) (k : Nat) (f : Addr) (fd : FuncData) (ps : List Str) (F : Exn → Rs D) : Prop :=
  ∀ (A : Around) (outer : List PySem.Env) (s : Shared) (H B : Hp) (args : Args) (x : Exn) (a : Addr) (oe : Obj) (cls : Value) (dd : Option Addr) (Q : VK) (d : D), L2H.RoomH k A → L2H.PinOk outer H s (a, oe) → Zc cls dd oe → (∃ vs, oe.data = .fields vs) → RX K B x cls dd → Ex B H →
    Env0 P w K mg base A outer s H → BindsTo s fd args (ps.zip [.ref a]) → resE (F x) = some d → (∀ v B' H', After B H (fun _ => False) B' H' → Sh K B' d v → Q v H') →
    codeAny (model P w) A (.call (.ref f) args) (CR (L2.CX P w) outer P w H s Q fun _ _ _ => False) s
def runE (N : Nat) (g : Exn → M Fl) (x : Exn) : Rs D := endF [] (g x (some (.al 0) :: List.replicate (N - 1) none))
theorem start_E {K : PySem.W.Frag} {B H : Hp} {a : Addr} {N : List Str} (bh : Ex B H) (hN : 1 ≤ N.length) :
    StOk K { vs := [.ref a], B0 := B, H0 := H, fp0 := fun _ => [], exa := a } [] B H (L2.start N [.ref a]) (some (.al 0) :: List.replicate (N.length - 1) none) where
  len := by simp [L2.start]
  slots := by
    refine ⟨fun _ => [], fun i d h => ?_, fun _ _ => rfl, fun _ => List.nodup_nil, fun _ _ _ _ m => (nomatch m), fun q m => (nomatch m)⟩
    cases i with
    | zero =>
      cases h
      exact ⟨.ref a, rfl, .exc 0 a, rfl, rfl⟩
    | succ i =>
      rw [List.getElem?_cons_succ, List.getElem?_replicate] at h
      split at h <;> cases h
  tmp := fun q m => nomatch m
  tnd := List.nodup_nil
  bh := bh
  b0 := Evl.Ex.refl B
  keep := fun a o _ h => h
  there := fun a h => h
  old := fun a _ h => h
section
variable {P : Program} {w : World} {K : PySem.W.Frag} {mg : Str → Option Value} {base : Heap}
theorem fn_E {x qual p : Str} {params : Arguments} {body : List Stmt} {scope : Scope} {dvs : List V} {kws : List (Str × V)} {f : Addr} {fd : FuncData} {N : List Str} {k : Nat} {g : Exn → M Fl} {ok : Exn → Bool} (F : FunD K x qual params body scope dvs kws f fd) (S : FnScope N [p] scope) (hN : 1 ≤ N.length)
    (hb : ∀ (cdv : Value) (A : Around) (outer : List PySem.Env) (s : Shared) (H : Hp) (E : XK) (q : Addr × Obj) (c : Ctx) (y : Exn), ok y = true → HX (L2H.cxH (L2.CX P w) P w K mg base N qual scope f cdv A outer s H E q) c y → L2H.RoomH k (L2H.cxH (L2.CX P w) P w K mg base N qual scope f cdv A outer s H E q).A →
      PSs (L2H.cxH (L2.CX P w) P w K mg base N qual scope f cdv A outer s H E q) body (liftS K c W0 (g y))) :
    FnE1 P w K mg base (k + 1) f fd [p] (fun y => if ok y = true then runE N.length g y else .no) := by
  intro A outer s H B args y a oe cls dd Q d hr hpin hz hf rx bh e0 hbd hres hq
  have hres : resE (if ok y = true then runE N.length g y else .no) = some d := hres
  have hy : ok y = true := by
    by_cases hy : ok y = true
    · exact hy
    · rw [if_neg hy] at hres
      cases hres
  rw [if_pos hy] at hres
  obtain ⟨oc, od, dV, kV, doc, pm, an, cdv, ct, osl, rfl, lk, hcd, _, _⟩ := F.ex
  have keep0 : ∀ b o, base.get? b = some o → s.heap.get? b = some o := fun b o e => (e0.bs b o e).1
  have KX := e0.mod.kin.keeps keep0
  refine codeAny_call_function (L2H.RoomH.depth hr) (KX _ _ lk) rfl S.co S.gen rfl (PySem.W.codeRec_of KX hcd) (hbd _ _ _ _ ?_)
  refine wpAny_newFunctionEnv_cells S.kind (fun z hz => ?_) fun env he s1 ic => ?_
  · obtain ⟨n, v⟩ := z
    exact (S.par n (List.of_mem_zip hz).1).elim .inl fun q => .inr ⟨q, PySem.W.cellsFrom_some _ _ _ (.inl q)⟩
  subst he
  refine ⟨(e0.mod.nolimit.keeps keep0).keeps ic.toInCall.keep, codeAny_func ?_⟩
  have rv : Vals [V.ref a] [Value.ref a] := .cons rfl .nil
  have I := L2H.inv_startH (CX := L2.CX P w) (cd := cdv) (E := fun _ _ _ => False) S hpin e0 rfl rv ic
  have hx : HX (L2H.cxH (L2.CX P w) P w K mg base N qual scope f cdv A outer s H (fun _ _ _ => False) (a, oe)) { vs := [.ref a], B0 := B, H0 := H, fp0 := fun _ => [], exa := a } y := ⟨oe, cls, dd, List.mem_cons_self, hz, hf, rx⟩
  have st := start_E (K := K) (N := N) (a := a) bh hN
  -- what the body leads to
  have post : SEnd K { vs := [.ref a], B0 := B, H0 := H, fp0 := fun _ => [], exa := a } W0 B { nx := fun _ H' => Q .non H', rt := Q } (g y (some (.al 0) :: List.replicate (N.length - 1) none)) := by
    have af : ∀ {σ' : L2.St} {B' H' : Hp} {e' : Env}, StOk K { vs := [.ref a], B0 := B, H0 := H, fp0 := fun _ => [], exa := a } [] B' H' σ' e' → After B H (fun _ => False) B' H' := fun t => ⟨t.b0, t.bh, fun b o _ z => t.keep b o (fun ⟨_, m⟩ => nomatch m) z, t.there, t.old⟩
    unfold runE at hres
    revert hres
    generalize g y (some (.al 0) :: List.replicate (N.length - 1) none) = r
    intro hres
    cases r with
    | no => cases hres
    | ex z e => cases hres
    | ok fl e => cases fl with
      | nx =>
        cases hres
        exact fun σ' B' H' x t => hq .non B' H' (af t) .non
      | rt d' =>
        cases hres
        exact fun v σ' B' H' x t sh => hq v B' H' (af t) sh
      | bk => cases hres
      | ct => cases hres
  have run := (hb cdv A outer s H (fun _ _ _ => False) (a, oe) _ y hy hx (hr.deeper _)).run [] s1 (L2.start N [.ref a]) H _ I ⟨B, _, st, post⟩
  refine wpAny_mono run (fun fl s' q => ?_) fun _ _ q => q
  cases fl with
  | ret u => exact q.elim fun v q => q.elim fun σ' q => q.elim fun H' q => ⟨v, H', q.1.os, q.1.bare, q.1.base, q.1.hok, q.2.1, q.2.2⟩
  | next => exact q.elim fun σ' q => q.elim fun H' q => ⟨V.non, H', q.1.os, q.1.bare, q.1.base, q.1.hok, rfl, q.2⟩
  | brk => exact (q.elim fun _ q => q.elim fun _ q => q.2).elim
  | cont => exact (q.elim fun _ q => q.elim fun _ q => q.2).elim
end
theorem huH {k : Nat} {A : Around} (r : L2H.RoomH k A) : A.units + 64 < cLine := by
  have := r.un
  omega
/-- the def x tells F of the handled exception -/
def FnE (P : Program) (w : World) (K : PySem.W.Frag) (mg : Str → Option Value) (base : Heap) (x : Str) (k : Nat) (F : Exn → Rs D) : Prop :=
  ∃ (f : Addr) (fd : FuncData) (ps : List Str), FnE1 P w K mg base k f fd ps F ∧ ps.length = 1 ∧ mg x = some (.ref f) ∧ PySem.W.keepIn K (.ref f) = true ∧ Binds K fd ps []
theorem de_hot {X : Cx} {c : Ctx} {W : WX} {k i : Nat} {x : Exn} {y n : Str} {p p1 pos : Pos} {F : Exn → Rs D} (Fe : FnE X.prog X.w X.K X.mg X.base y k F) (h : HX X c x) (R : L2H.RoomH k X.A) (hg : Gl X y) (he : PE X (.Name n p1) (tVar i)) (hdb : (y == ("__debug__" : Str)) = false := by decide) :
    PE X (.Call (.Name y p) [.Name n p1] [] pos) (lift X.K c W (eX i (resE (F x)))) := by
  obtain ⟨f, fd, ps, F1, F2, F3, F4, F5⟩ := Fe
  obtain ⟨oe, cls, dd, hp, hz, hf, rx⟩ := h
  have ha := pa_cons (X := X) he pa_nil
  refine ⟨fun pins s σ H Q I q => ?_⟩
  obtain ⟨T, B, e, st, m⟩ := q
  obtain ⟨hv, d, hd, m⟩ := eX_some st m
  refine wpAny_Call_Name_kw (ld_glob I hg F3 ?_ hdb)
  refine PySem.W.callWith_K (h₀ := X.base) I.ok.mod.kin F4 (thn (ha.run pos pins s σ H (fun vs H1 => vs = [.ref c.exa] ∧ H1 = H) I ⟨_, hv, rfl, rfl⟩) fun us s1 z => ⟨z.elim fun _ z => z.elim fun _ z => z.1.kIn, ?_⟩) rfl rfl
  obtain ⟨vs, H1, I1, r, rfl, rfl⟩ := z
  cases r with
  | cons r rr =>
    cases rr
    cases r
    have bnd := F5 s1 [.ref c.exa] I1.kIn (by rw [List.append_nil]; exact F2.symm)
    rw [List.append_nil] at bnd
    have pin := I1.pin _ (List.mem_append_left _ hp)
    have pk : L2H.PinOk X.stack H1 s1 (c.exa, oe) := ⟨pin.1, pin.2.1, fun hm => (List.mem_cons.mp (I1.stkSub c.exa hm)).elim pin.2.2.1 pin.2.2.2.1, pin.2.2.2.2⟩
    have run := F1 X.A X.stack s1 H1 B ⟨[.ref c.exa], []⟩ x c.exa oe cls dd Q d R pk hz hf ⟨rx.1, rx.2.imp (fun z => z) fun ⟨p, fs, a1, a2, a3, a4⟩ => ⟨p, fs, a1, st.b0 _ _ a2, a3, a4.mono st.b0⟩⟩ st.bh I1.env0 bnd hd
      fun v B' H' af sh => m B' H' af.b (st.called af) v (RT.of sh)
    refine wpAny_call (codeAny_mono run fun r s' hq => ?_)
    cases r with
    | error u => exact (hq.elim fun _ z => z.elim fun _ z => z.elim fun _ z => z.elim fun _ z => z.elim fun _ z => z.2.2.2.2.2.2.2).elim
    | ok fl => cases fl with
      | ret u => exact I1.after hq
      | next => exact hq.elim
      | brk => exact hq.elim
      | cont => exact hq.elim
end DL
end

section
set_option maxRecDepth 100000
set_option maxHeartbeats 2000000
/-! try: body, except C as e: .. -/
namespace DL
open PySem PySem.Spec PyProof.Rows L2
open Evl (Ex)
/-- no slot holds a caught exception -/
def noAl (e : Env) : Bool := e.all fun o => match o with
  | some (.al _) => false
  | _ => true
/-- a clause's name goes -/
def clr (i : Nat) (r : Rs Fl) : Rs Fl := match r with
  | .ok f e => if noAl (e.set i none) = true then .ok f (e.set i none) else .no
  | _ => .no
abbrev Cl := Nat × CN × (Exn → M Fl)
def hand (t : XTab) (x : Exn) : List Cl → M Fl
  | [], e => .ex x e
  | (i, C, su) :: r, e => if isSub t x.cls C = true then (if i < e.length ∧ noAl (e.set i none) = true then clr i (su x (e.set i (some (.al i)))) else .no) else hand t x r e
def sTry (t : XTab) (b : M Fl) (cl : List Cl) : M Fl := fun e => match b e with
  | .ex x e' => if hasX t x.cls = true then hand t x cl e' else .no
  | r => r
theorem noAl_at {e : Env} {i j : Nat} (h : noAl e = true) (q : e[i]? = some (some (.al j))) : False := by
  have := List.all_eq_true.mp h _ (List.mem_of_getElem? q)
  cases this
section
variable {K : PySem.W.Frag} {c : Ctx} {B H : Hp} {σ : L2.St} {e : Env}
/-- into a suite -/
theorem StOk.enter (s : StOk K c [] B H σ e) {i : Nat} {a : Addr} (hi : i < e.length) (hn : noAl (e.set i none) = true) : StOk K { c with B0 := B, exa := a } [] B H (σ.set i (some (.ref a))) (e.set i (some (.al i))) where
  len := by rw [List.length_set, List.length_set]; exact s.len
  slots := by
    obtain ⟨fp, h1, h2, h3, h4, h5⟩ := s.slots
    refine ⟨fun j => if j = i then [] else fp j, fun j u hu => ?_, fun j hu => ?_, fun j => ?_, fun j k b hjk mj mk => ?_, fun q m => nomatch m⟩
    · by_cases hj : j = i
      · subst hj
        cases set_self hu
        refine ⟨.ref a, List.getElem?_set_self (by rw [← s.len]; exact hi), ?_, rfl, rfl⟩
        dsimp only
        rw [if_pos rfl]
        exact .exc j a
      · rw [List.getElem?_set_ne (Ne.symm hj)] at hu
        obtain ⟨v, hv, ow, cd⟩ := h1 j u hu
        dsimp only
        rw [if_neg hj]
        refine ⟨v, by rw [List.getElem?_set_ne (Ne.symm hj)]; exact hv, ow, ?_⟩
        cases u with
        | al m => exact (noAl_at hn (by rw [List.getElem?_set_ne (Ne.symm hj)]; exact hu)).elim
        | _ => exact cd
    · dsimp only
      by_cases hj : j = i
      · rw [if_pos hj]
      · rw [if_neg hj]
        exact h2 j fun d z => hu d (by rw [List.getElem?_set_ne (Ne.symm hj)]; exact z)
    · dsimp only
      split
      · exact List.nodup_nil
      · exact h3 j
    · dsimp only at mj mk
      split at mj
      · cases mj
      · split at mk
        · cases mk
        · exact h4 j k b hjk mj mk
  tmp := fun q m => nomatch m
  tnd := List.nodup_nil
  bh := s.bh
  b0 := Evl.Ex.refl B
  keep := s.keep
  there := s.there
  old := fun a _ z => z
/-- out of it -/
theorem StOk.leave {B' H' : Hp} {σ' : L2.St} {e' : Env} {a : Addr} {i : Nat} (s0 : StOk K c [] B H σ e) (s : StOk K { c with B0 := B, exa := a } [] B' H' σ' e') (hn : noAl (e'.set i none) = true) : StOk K c [] B' H' (σ'.set i none) (e'.set i none) where
  len := by rw [List.length_set, List.length_set]; exact s.len
  slots := by
    obtain ⟨fp, h1, h2, h3, h4, h5⟩ := s.slots
    refine ⟨fun j => if j = i then [] else fp j, fun j u hu => ?_, fun j hu => ?_, fun j => ?_, fun j k b hjk mj mk => ?_, fun q m => nomatch m⟩
    · by_cases hj : j = i
      · subst hj
        cases set_self hu
      · have hu0 := hu
        rw [List.getElem?_set_ne (Ne.symm hj)] at hu
        obtain ⟨v, hv, ow, cd⟩ := h1 j u hu
        dsimp only
        rw [if_neg hj]
        refine ⟨v, by rw [List.getElem?_set_ne (Ne.symm hj)]; exact hv, ow, ?_⟩
        cases u with
        | al m => exact (noAl_at hn hu0).elim
        | _ => exact cd
    · dsimp only
      by_cases hj : j = i
      · rw [if_pos hj]
      · rw [if_neg hj]
        exact h2 j fun d z => hu d (by rw [List.getElem?_set_ne (Ne.symm hj)]; exact z)
    · dsimp only
      split
      · exact List.nodup_nil
      · exact h3 j
    · dsimp only at mj mk
      split at mj
      · cases mj
      · split at mk
        · cases mk
        · exact h4 j k b hjk mj mk
  tmp := fun q m => nomatch m
  tnd := List.nodup_nil
  bh := s.bh
  b0 := s0.b0.trans s.b0
  keep := s.keep
  there := s.there
  old := fun a n z => s.old a n (s0.old a n z)
end

/-! ### the clauses -/
inductive Hds (X : Cx) (k : Nat) (t : XTab) : List ExceptHandler → List Cl → Prop
  | nil : Hds X k t [] []
  | cons {y n : Str} {C : CN} {i : Nat} {b₁ : Stmt} {bs : List Stmt} {np hp : Pos} {su : Exn → M Fl} {hds : List ExceptHandler} {cl : List Cl} (hc : CNok X y C)
      (hX : ∀ x, hasX t x = true → PySem.W.exmOne X.K (.ref (He.ga X.K x)) (C.val X.K) = some (isSub t x C)) (hi : X.N[i]? = some n) (hl : X.env.kindOf n = some .local)
      (hsu : ∀ (c : Ctx) (a : Addr) (pn : List (Addr × Obj)) (x : Exn), hasX t x.cls = true → HX (X.suite a pn) c x → L2H.RoomH k (X.suite a pn).A → PSs (X.suite a pn) (b₁ :: bs) (liftS X.K c W0 (su x)))
      (r : Hds X k t hds cl) : Hds X k t (.ExceptHandler (some (.Name y np)) (some n) (b₁ :: bs) hp :: hds) ((i, C, su) :: cl)
theorem CNok.names {X : Cx} {y : Str} {C : CN} (h : CNok X y C) : Names X y (C.val X.K) := by
  obtain ⟨hd, hg, h⟩ := h
  cases C with
  | own x => exact ⟨hg, hd, .inl h⟩
  | ty n => exact ⟨hg, hd, .inr h⟩
section
variable {X : Cx} {c : Ctx} {W : WX} {k : Nat} {t : XTab}
/-- what is wished of an exception of the body -/
def wX (K : PySem.W.Frag) (c : Ctx) (W : WX) (t : XTab) (cl : List Cl) (Dn : Ends) : WX := fun cls dd σ H => ∃ x e B, StOk K c [] B H σ e ∧ RX K B x cls dd ∧ hasX t x.cls = true ∧ SEnd K c W B Dn (hand t x cl e)
/-- what the try does with it -/
def caught (X : Cx) (pins : List (Addr × Obj)) (Dn : Ends) (hds : List ExceptHandler) : Value → Shared → Prop := fun u s1 =>
  wpAny (model X.prog X.w) X.A (noteFrame u X.env) (fun _ s2 => wpAny (model X.prog X.w) X.A (setFlight u none) (fun _ s3 => wpAny (model X.prog X.w) X.A (handleBy u X.env hds) (SP X pins Dn) X.xe s3) X.xe s2) X.xe s1
/-- a suite's end, cleared, is the try's -/
theorem suite_end {K : PySem.W.Frag} {B H : Hp} {σ : L2.St} {e : Env} {Dn : Ends} {i : Nat} {a : Addr} {r : Rs Fl} (s0 : StOk K c [] B H σ e) (m : SEnd K c W B Dn (clr i r)) :
    SEnd K { c with B0 := B, exa := a } W0 B { nx := fun σ' H' => Dn.nx (σ'.set i none) H', rt := Dn.rt, bk := fun σ' H' => Dn.bk (σ'.set i none) H', ct := fun σ' H' => Dn.ct (σ'.set i none) H' } r := by
  cases r with
  | no => exact m
  | ex x e => exact m.elim
  | ok fl e1 =>
    have m : SEnd K c W B Dn (if noAl (e1.set i none) = true then .ok fl (e1.set i none) else .no) := m
    by_cases hn : noAl (e1.set i none) = true
    · rw [if_pos hn] at m
      cases fl with
      | rt d => exact fun v σ' B' H' x st sh => m v _ B' H' x (s0.leave st hn) sh
      | nx => exact fun σ' B' H' x st => m _ B' H' x (s0.leave st hn)
      | bk => exact fun σ' B' H' x st => m _ B' H' x (s0.leave st hn)
      | ct => exact fun σ' B' H' x st => m _ B' H' x (s0.leave st hn)
    · rw [if_neg hn] at m
      exact m.elim
theorem ds_try {body : List Stmt} {h₁ : ExceptHandler} {hds : List ExceptHandler} {bm : M Fl} {cl : List Cl} {pos : Pos} (b : Body X W k) (hN : X.N.Nodup) (hh : Hds X k t (h₁ :: hds) cl)
    (hb : ∀ (W' : WX) (pn : List (Addr × Obj)) (xe : Value → Shared → Prop), Body (X.tr pn xe) W' k → PSs (X.tr pn xe) body (liftS X.K c W' bm)) : PS X (.Try body (h₁ :: hds) [] [] pos) (liftS X.K c W (sTry t bm cl)) := by
  refine ⟨fun pins s σ H Dn I h => wpAny_Try_except ?_⟩
  have okX := I.ok
  have hfr : X.A.frames = some (X.env :: X.outer) := by
    rw [okX.frames, b.hs]
  have pre : liftS X.K c (wX X.K c W t cl Dn) bm Dn σ H := by
    obtain ⟨B, e, st, m⟩ := h
    refine ⟨B, e, st, ?_⟩
    revert m
    unfold sTry
    generalize bm e = r
    intro m
    cases r with
    | no => exact m
    | ok fl e1 => cases fl <;> exact m
    | ex x e1 =>
      have m : SEnd X.K c W B Dn (if hasX t x.cls = true then hand t x cl e1 else .no) := m
      by_cases hx : hasX t x.cls = true
      · rw [if_pos hx] at m
        exact fun cls dd σ' B' H' ex st' rx => ⟨x, e1, B', st', rx, hx, m.mono ex⟩
      · rw [if_neg hx] at m
        exact m.elim
  have main := (hb (wX X.K c W t cl Dn) (X.pn ++ pins) (caught X pins Dn (h₁ :: hds)) ⟨⟨fun u s' xx => ?tk, b.calm, b.room⟩, b.hs, b.hf, PassesOwn.looking⟩).run [] s σ H Dn (I.toTry _) pre
  case tk =>
    obtain ⟨a, G, sI, pins', σ1, H1, cls, dd, rfl, J0, nb, up, sky, na, os, ag, x, e, B, st, rx, hx, m⟩ := xx
    have J : Inv X pins σ1 H1 sI := J0.ofTry okX
    obtain ⟨rc, rf⟩ := rx
    subst rc
    have sky1 : Sky G (X.env :: X.outer) a (Zc (.ref (He.ga X.K x.cls)) dd) X.env.locals s'.heap := by
      rw [← b.hs]
      exact sky
    refine Sky.land Zc.steady hfr b.hf sky1 fun hA flA upA => ?_
    have JA : Inv X pins σ1 H1 { s' with heap := hA } := J.landed nb flA.1 (up.trans upA) os ag
    obtain ⟨oA, vsA, getA, zcA, datA⟩ := flA.there
    have nfr : a ∉ frs (X.env :: X.outer) := fun hm => by
      obtain ⟨_, o1, g1, hnf⟩ := flA.2.2.1.mem hm
      rw [getA] at g1
      cases g1
      exact hnf _ datA
    have nL : a ≠ X.env.locals := fun z => nfr (List.mem_filterMap.mpr ⟨X.env, List.mem_cons_self, by rw [b.hf, z]⟩)
    have nF : a ∉ X.fs := fun hm => (List.mem_filterMap.mp hm).elim fun en z => nfr (List.mem_filterMap.mpr ⟨en, List.mem_cons_of_mem _ z.1, z.2⟩)
    have SA := JA.suite getA datA na nL nF
    have go : ∀ {hs' : List ExceptHandler} {cl' : List Cl}, Hds X k t hs' cl' → SEnd X.K c W B Dn (hand t x cl' e) → wpAny (model X.prog X.w) X.A (handleBy (.ref a) X.env hs') (SP X pins Dn) X.xe { s' with heap := hA } := by
      intro hs' cl' hk
      induction hk with
      | nil =>
        intro m
        refine wpAny_handleBy_nil ?_
        obtain ⟨_, _, _, o1, w1, T1, _, _, g1, _, d1, f1, _⟩ := id flA
        unfold PySem.passOn
        refine wpAny_bind (wpAny_field g1 d1 f1 ?_)
        rw [if_neg (show ¬ ((Value.ref T1 == Value.none) = true) by simp)]
        have fin : wpAny (model X.prog X.w) X.A (setFlight (.ref a) X.env.frame) (fun _ s4 => wpAny (model X.prog X.w) X.A (throw (.ref a) : Sem Flow) (SP X pins Dn) X.xe s4) X.xe { s' with heap := hA } := by
          rw [b.hf]
          refine HandSPX.setFlight_upZ flA fun hB fB upB => wpAny_throw (b.tk _ _ ?_)
          exact ⟨a, G, sI, pins, σ1, H1, .ref (He.ga X.K x.cls), dd, rfl, J, nb, (up.trans upA).trans upB, .inr (.inr (by rw [b.hs]; exact fB)), na, os, ag, m _ _ _ _ _ (Evl.Ex.refl B) st ⟨rfl, rf⟩⟩
        first
          | exact wpAny_bind (wpAny_pure (wpAny_bind fin))
          | exact wpAny_bind fin
      | @cons y n C i b₁ bs np hp su hds' cl'' hc hX hi hl hsu r ih =>
        intro m
        refine wpAny_handleBy_cons (codeAny_handlers_test ?_) (fun z => nomatch z)
        have looksT : PySem.W.Looks (model X.prog X.w) hA (typeOf (.ref a)) (.ref (He.ga X.K x.cls)) := fun A Q E s1 kk q => wpAny_typeOf_ref (kk _ _ getA) (by rw [zcA.1]; exact q)
        have looksM := PySem.W.exm_one (M := model X.prog X.w) JA.kIn looksT (hX _ hx)
        have named : ∀ {Q E : Value → Shared → Prop}, Q (C.val X.K) { s' with heap := hA } → wpAny (model X.prog X.w) (X.A.mark (some (.ref a))) (eval (.Name y np) X.env) Q E { s' with heap := hA } := fun {Q E} q => by
          rcases hc.names with ⟨hg, hdb, hm | ⟨hm, hv, hnn⟩⟩
          · exact ld_glob (X := X.suite a ((a, oA) :: (X.pn ++ pins))) SA hg hm q hdb
          · exact ld_blt (X := X.suite a ((a, oA) :: (X.pn ++ pins))) SA hg hm hv q hnn hdb
        refine named (looksM.here ?_)
        have m : SEnd X.K c W B Dn (if isSub t x.cls C = true then (if i < e.length ∧ noAl (e.set i none) = true then clr i (su x (e.set i (some (.al i)))) else .no) else hand t x cl'' e) := m
        cases hq : isSub t x.cls C with
        | false =>
          rw [hq, if_neg Bool.false_ne_true] at m
          exact ih m
        | true =>
          rw [hq, if_pos rfl] at m
          by_cases hie : i < e.length ∧ noAl (e.set i none) = true
          · rw [if_pos hie] at m
            refine codeAny_handlers_suite_as ?_
            refine HandSPX.lands_againZ flA fun hB flB upB => ?_
            have JB : Inv X pins σ1 H1 { s' with heap := hB } := J.landed nb flB.1 ((up.trans upA).trans upB) os ag
            obtain ⟨oB, vsB, getB, zcB, datB⟩ := flB.there
            have SB := JB.suite getB datB na nL nF
            refine store_ok (X := X.suite a ((a, oB) :: (X.pn ++ pins))) (v := .ref a) SB hN hi (.inl hl) rfl (fun s5 S5 => ?_) (.inr hl)
            have hxx : HX (X.suite a ((a, oB) :: (X.pn ++ pins))) { c with B0 := B, exa := a } x := ⟨oB, _, dd, List.mem_cons_self, zcB, ⟨_, datB⟩, rfl, rf⟩
            have rm : L2H.RoomH k (X.suite a ((a, oB) :: (X.pn ++ pins))).A := ⟨b.room.dp, b.room.un⟩
            refine wpAny_mono ((hsu { c with B0 := B, exa := a } a _ x hx hxx rm).run [] s5 _ H1 _ S5 ⟨B, _, st.enter hie.1 hie.2, suite_end st m⟩) (fun f s6 hsp => ?_) (fun _ _ z => z.elim)
            have out : ∀ {σ6 : L2.St} {H6 : Hp} {Q : Shared → Prop}, Inv (X.suite a ((a, oB) :: (X.pn ++ pins))) [] σ6 H6 s6 → (∀ s7, Inv X pins (σ6.set i none) H6 s7 → Q s7) →
                wpAny (model X.prog X.w) X.A (do bindName X.env n .none; unbindBehindTheSuite X.env n hp) (fun _ s7 => Q s7) X.xe s6 := fun {σ6 H6 Q} S6 hq => gone_ok (S6.unsuite okX) hN hi hl hq
            cases f with
            | next => exact hsp.elim fun σ6 z => z.elim fun H6 z => out z.1 fun s7 J7 => ⟨_, _, J7, z.2⟩
            | brk => exact hsp.elim fun σ6 z => z.elim fun H6 z => out z.1 fun s7 J7 => ⟨_, _, J7, z.2⟩
            | cont => exact hsp.elim fun σ6 z => z.elim fun H6 z => out z.1 fun s7 J7 => ⟨_, _, J7, z.2⟩
            | ret u => exact hsp.elim fun v6 z => z.elim fun σ6 z => z.elim fun H6 z => out z.1 fun s7 J7 => ⟨_, _, _, J7, z.2.1, z.2.2⟩
          · rw [if_neg hie] at m
            exact m.elim
    exact go hh m
  refine wpAny_mono main (fun f s1 hsp => ?_) (fun e s1 he => he)
  cases f with
  | next => exact hsp.elim fun σ' z => z.elim fun H' z => wpAny_execs_nil ⟨σ', H', z.1.ofTry okX, z.2⟩
  | brk => exact hsp.elim fun σ' z => z.elim fun H' z => ⟨σ', H', z.1.ofTry okX, z.2⟩
  | cont => exact hsp.elim fun σ' z => z.elim fun H' z => ⟨σ', H', z.1.ofTry okX, z.2⟩
  | ret u => exact hsp.elim fun v z => z.elim fun σ' z => z.elim fun H' z => ⟨v, σ', H', z.1.ofTry okX, z.2.1, z.2.2⟩
end
end DL
end

section
set_option maxRecDepth 100000
set_option maxHeartbeats 4000000
namespace K02
open PySem L2 DL
/-! ### the bodies as functions on environments -/
def c_IDENTITY : D := (.tup [(.tup [(.int 1), (.int 0), (.int 1)]), (.tup [(.int 0), (.int 0), (.int 1)]), (.tup [(.int 0), (.int 0), (.int 1)]), (.tup [(.int 1), (.int 0), (.int 1)]), (.tup [(.int 0), (.int 0), (.int 1)]), (.tup [(.int 0), (.int 0), (.int 1)])])
def c_ZERO : D := (.tup [(.int 0), (.int 0), (.int 1)])
def xtab : XTab := [("Flat", [.own "Flat", .own "PrintError", .ty "ValueError"]), ("Moving", [.own "Moving", .own "PrintError", .ty "ValueError"])]
def ens : List CN := [.own "Moving", .own "Flat"]
def cns : List CN := [.own "BadText", .own "NoPlace", .own "ByZero", .own "TooLong", .own "TooDeep", .own "TooMany", .own "TooGreat", .own "NoPiece", .own "NoPatch", .own "NoEntry", .own "NotOpaque", .own "SameInk", .own "BadHeights", .own "BadTurn", .own "BadRange", .own "Turns", .own "Parallel", .own "NotWithin", .own "TooManyPages", .own "BadPart", .own "NoPage", .own "BadOrder", .own "NothingToUndo", .own "NothingToRedo", .own "PrintError", .ty "ValueError", .own "Moving", .own "Flat"]
abbrev n_number : List Str := ["a", "b", "w", "divisor"]
abbrev b_number : M Fl := (sSeq (sIf (tOf (eBin dEq (eVar 2) (eC (.int 0)))) (sRaise0 "ByZero") sNext)
  (sSeq (sIf (tOf (eBin dLt (eVar 2) (eC (.int 0)))) (sSeq (sAsg 0 (eUn dNeg (eVar 0)))
  (sSeq (sAsg 1 (eUn dNeg (eVar 1)))
  (sAsg 2 (eUn dNeg (eVar 2))))) sNext)
  (sSeq (sAsg 3 (eBlt dGcd2 (aCons (eBlt dGcd2 (aCons (eVar 0) (aCons (eVar 1) aNil))) (aCons (eVar 2) aNil))))
  (sRet (eTup (aCons (eBin dDiv (eVar 0) (eVar 3)) (aCons (eBin dDiv (eVar 1) (eVar 3)) (aCons (eBin dDiv (eVar 2) (eVar 3)) aNil))))))))
def F_number : List D → Rs D := runF 4 b_number

abbrev n_plus : List Str := ["x", "y"]
abbrev b_plus : M Fl := (sRet (eCall 3 F_number (aMore [] (aCons (eBin dAdd (eBin dMulI (eBin dIdx (eVar 0) (eC (.int 0))) (eBin dIdx (eVar 1) (eC (.int 2)))) (eBin dMulI (eBin dIdx (eVar 1) (eC (.int 0))) (eBin dIdx (eVar 0) (eC (.int 2))))) (aCons (eBin dAdd (eBin dMulI (eBin dIdx (eVar 0) (eC (.int 1))) (eBin dIdx (eVar 1) (eC (.int 2)))) (eBin dMulI (eBin dIdx (eVar 1) (eC (.int 1))) (eBin dIdx (eVar 0) (eC (.int 2))))) (aCons (eBin dMulI (eBin dIdx (eVar 0) (eC (.int 2))) (eBin dIdx (eVar 1) (eC (.int 2)))) aNil))))))
def F_plus : List D → Rs D := runF 2 b_plus

abbrev n_minus : List Str := ["x", "y"]
abbrev b_minus : M Fl := (sRet (eCall 3 F_number (aMore [] (aCons (eBin dSub (eBin dMulI (eBin dIdx (eVar 0) (eC (.int 0))) (eBin dIdx (eVar 1) (eC (.int 2)))) (eBin dMulI (eBin dIdx (eVar 1) (eC (.int 0))) (eBin dIdx (eVar 0) (eC (.int 2))))) (aCons (eBin dSub (eBin dMulI (eBin dIdx (eVar 0) (eC (.int 1))) (eBin dIdx (eVar 1) (eC (.int 2)))) (eBin dMulI (eBin dIdx (eVar 1) (eC (.int 1))) (eBin dIdx (eVar 0) (eC (.int 2))))) (aCons (eBin dMulI (eBin dIdx (eVar 0) (eC (.int 2))) (eBin dIdx (eVar 1) (eC (.int 2)))) aNil))))))
def F_minus : List D → Rs D := runF 2 b_minus

abbrev n_times : List Str := ["x", "y"]
abbrev b_times : M Fl := (sSeq (sIf (tAndD (tOf (eBin dNe (eBin dIdx (eVar 0) (eC (.int 1))) (eC (.int 0)))) (tOf (eBin dNe (eBin dIdx (eVar 1) (eC (.int 1))) (eC (.int 0))))) (sRaise0 "Moving") sNext)
  (sRet (eCall 3 F_number (aMore [] (aCons (eBin dMulI (eBin dIdx (eVar 0) (eC (.int 0))) (eBin dIdx (eVar 1) (eC (.int 0)))) (aCons (eBin dAdd (eBin dMulI (eBin dIdx (eVar 0) (eC (.int 0))) (eBin dIdx (eVar 1) (eC (.int 1)))) (eBin dMulI (eBin dIdx (eVar 0) (eC (.int 1))) (eBin dIdx (eVar 1) (eC (.int 0))))) (aCons (eBin dMulI (eBin dIdx (eVar 0) (eC (.int 2))) (eBin dIdx (eVar 1) (eC (.int 2)))) aNil)))))))
def F_times : List D → Rs D := runF 2 b_times

abbrev n_over : List Str := ["x", "y"]
abbrev b_over : M Fl := (sSeq (sIf (tOf (eBin dNe (eBin dIdx (eVar 1) (eC (.int 1))) (eC (.int 0)))) (sRaise0 "Moving") sNext)
  (sSeq (sIf (tOf (eBin dEq (eBin dIdx (eVar 1) (eC (.int 0))) (eC (.int 0)))) (sRaise0 "ByZero") sNext)
  (sRet (eCall 3 F_number (aMore [] (aCons (eBin dMulI (eBin dIdx (eVar 0) (eC (.int 0))) (eBin dIdx (eVar 1) (eC (.int 2)))) (aCons (eBin dMulI (eBin dIdx (eVar 0) (eC (.int 1))) (eBin dIdx (eVar 1) (eC (.int 2)))) (aCons (eBin dMulI (eBin dIdx (eVar 0) (eC (.int 2))) (eBin dIdx (eVar 1) (eC (.int 0)))) aNil))))))))
def F_over : List D → Rs D := runF 2 b_over

abbrev n_moves : List Str := ["x"]
abbrev b_moves : M Fl := (sRet (eBin dNe (eBin dIdx (eVar 0) (eC (.int 1))) (eC (.int 0))))
def F_moves : List D → Rs D := runF 1 b_moves

abbrev n_lead_step : List Str := ["matrix", "step", "a", "b", "c", "d", "x", "y"]
abbrev b_lead_step : M Fl := (sSeq (sUnp (gT 4 (gsCons (gN 2) (gsCons (gN 3) (gsCons (gN 4) (gsCons (gN 5) gsNil))))) (eSlice (eVar 0) eNoPart (ePart (eC (.int 4)))))
  (sSeq (sUnp (gT 2 (gsCons (gN 6) (gsCons (gN 7) gsNil))) (eVal 1))
  (sRet (eTup (aCons (eCall 2 F_plus (aCons (eCall 2 F_times (aCons (eVal 2) (aCons (eVal 6) aNil))) (aCons (eCall 2 F_times (aCons (eVal 4) (aCons (eVal 7) aNil))) aNil))) (aCons (eCall 2 F_plus (aCons (eCall 2 F_times (aCons (eVal 3) (aCons (eVal 6) aNil))) (aCons (eCall 2 F_times (aCons (eVal 5) (aCons (eVal 7) aNil))) aNil))) aNil))))))
def F_lead_step : List D → Rs D := runF 8 b_lead_step

abbrev n_lead : List Str := ["matrix", "corner", "x", "y"]
abbrev b_lead : M Fl := (sSeq (sUnp (gT 2 (gsCons (gN 2) (gsCons (gN 3) gsNil))) (eCall 2 F_lead_step (aCons (eVal 0) (aCons (eVal 1) aNil))))
  (sRet (eTup (aCons (eCall 2 F_plus (aCons (eVal 2) (aCons (eBin dIdx (eVar 0) (eC (.int 4))) aNil))) (aCons (eCall 2 F_plus (aCons (eVal 3) (aCons (eBin dIdx (eVar 0) (eC (.int 5))) aNil))) aNil)))))
def F_lead : List D → Rs D := runF 4 b_lead

abbrev n_after : List Str := ["first", "second", "across", "upward"]
abbrev b_after : M Fl := (sSeq (sAsg 2 (eCall 2 F_lead_step (aCons (eVal 1) (aCons (eSlice (eVar 0) eNoPart (ePart (eC (.int 2)))) aNil))))
  (sSeq (sAsg 3 (eCall 2 F_lead_step (aCons (eVal 1) (aCons (eSlice (eVar 0) (ePart (eC (.int 2))) (ePart (eC (.int 4)))) aNil))))
  (sRet (eBin dAdd (eBin dAdd (eVar 2) (eVar 3)) (eCall 2 F_lead (aCons (eVal 1) (aCons (eSlice (eVar 0) (ePart (eC (.int 4))) eNoPart) aNil)))))))
def F_after : List D → Rs D := runF 4 b_after

abbrev n_determinant : List Str := ["matrix", "a", "b", "c", "d"]
abbrev b_determinant : M Fl := (sSeq (sUnp (gT 4 (gsCons (gN 1) (gsCons (gN 2) (gsCons (gN 3) (gsCons (gN 4) gsNil))))) (eSlice (eVar 0) eNoPart (ePart (eC (.int 4)))))
  (sRet (eCall 2 F_minus (aCons (eCall 2 F_times (aCons (eVal 1) (aCons (eVal 4) aNil))) (aCons (eCall 2 F_times (aCons (eVal 2) (aCons (eVal 3) aNil))) aNil)))))
def F_determinant : List D → Rs D := runF 5 b_determinant

abbrev n_back : List Str := ["matrix", "a", "b", "c", "d", "e", "f", "scale", "turned"]
abbrev b_back : M Fl := (sSeq (sUnp (gT 6 (gsCons (gN 1) (gsCons (gN 2) (gsCons (gN 3) (gsCons (gN 4) (gsCons (gN 5) (gsCons (gN 6) gsNil))))))) (eVal 0))
  (sSeq (sIf (tOrD (tTruD (eCall 1 F_moves (aCons (eVal 1) aNil))) (tOrD (tTruD (eCall 1 F_moves (aCons (eVal 2) aNil))) (tOrD (tTruD (eCall 1 F_moves (aCons (eVal 3) aNil))) (tTruD (eCall 1 F_moves (aCons (eVal 4) aNil)))))) (sRaise0 "Moving") sNext)
  (sSeq (sAsg 7 (eCall 1 F_determinant (aCons (eVal 0) aNil)))
  (sSeq (sIf (tOf (eBin dEq (eVar 7) (eC c_ZERO))) (sRaise0 "Flat") sNext)
  (sSeq (sAsg 8 (eTup (aCons (eCall 2 F_over (aCons (eVal 4) (aCons (eVal 7) aNil))) (aCons (eCall 2 F_over (aCons (eCall 2 F_minus (aCons (eC c_ZERO) (aCons (eVal 2) aNil))) (aCons (eVal 7) aNil))) (aCons (eCall 2 F_over (aCons (eCall 2 F_minus (aCons (eC c_ZERO) (aCons (eVal 3) aNil))) (aCons (eVal 7) aNil))) (aCons (eCall 2 F_over (aCons (eVal 1) (aCons (eVal 7) aNil))) aNil))))))
  (sRet (eBin dAdd (eVar 8) (eCall 2 F_lead_step (aCons (eVal 8) (aCons (eTup (aCons (eCall 2 F_minus (aCons (eC c_ZERO) (aCons (eVal 5) aNil))) (aCons (eCall 2 F_minus (aCons (eC c_ZERO) (aCons (eVal 6) aNil))) aNil))) aNil))))))))))
def F_back : List D → Rs D := runF 9 b_back

abbrev n__law_gcd : List Str := ["a", "b", "k"]
abbrev b__law_gcd : M Fl := (sSeq (sAsg 0 (eBlt dAbs (aCons (eVar 0) aNil)))
  (sSeq (sAsg 1 (eBlt dAbs (aCons (eVar 1) aNil)))
  (sSeq (sFor (eRange (aCons (eC (.int 4000)) aNil)) (gN 2) (sSeq (sIf (tOf (eBin dEq (eVar 1) (eC (.int 0)))) sBreak sNext)
  (sPar 0 1 (aCons (eVal 1) (aCons (eBin dMod (eBlt dToInt (aCons (eVar 0) aNil)) (eVar 1)) aNil)))))
  (sRet (eVal 0)))))
def F__law_gcd : List D → Rs D := runF 3 b__law_gcd

abbrev n__law_row : List Str := ["script", "row", "cell", "rest", "k"]
abbrev b__law_row : M Fl := (sSeq (sAsgF 1 (eLstF aNil))
  (sSeq (sFor (eIter (eSlice (eVar 0) eNoPart (ePart (eC (.int 63))))) (gN 2) (sSeq (sAsg 3 (eBlt dAbs (aCons (eBlt dToInt (aCons (eVar 2) aNil)) aNil)))
  (sFor (eRange (aCons (eC (.int 30)) aNil)) (gN 4) (sSeq (sApp (eVar 1) (eBin dMod (eBlt dToInt (aCons (eVar 3) aNil)) (eC (.int 60))))
  (sSeq (sAsg 3 (eBin dDiv (eVar 3) (eC (.int 60))))
  (sIf (tOf (eBin dEq (eVar 3) (eC (.int 0)))) sBreak sNext))))))
  (sRet (eVal 1))))
def F__law_row : List D → Rs D := runF 5 b__law_row

abbrev n__law_next : List Str := ["tape", "many", "at", "row", "shift"]
abbrev b__law_next : M Fl := (sSeq (sAsg 2 (eBin dIdx (eVar 0) (eC (.int 1))))
  (sSeq (sSub (eVar 0) (eC (.int 1)) (eBin dAdd (eVar 2) (eC (.int 1))))
  (sSeq (sAsg 3 (eBin dIdx (eVar 0) (eC (.int 0))))
  (sSeq (sIf (tOf (eBin dEq (eBlt dLen (aCons (eVar 3) aNil)) (eC (.int 0)))) (sRet (eBin dMod (eBlt dToInt (aCons (eBin dAdd (eBin dMulI (eVar 2) (eC (.int 5))) (eBin dDiv (eVar 2) (eC (.int 3)))) aNil)) (eVar 1))) sNext)
  (sSeq (sAsg 4 (eBin dMulI (eBin dDiv (eVar 2) (eBlt dLen (aCons (eVar 3) aNil))) (eC (.int 7))))
  (sRet (eBin dMod (eBlt dToInt (aCons (eBin dAdd (eBin dIdx (eVar 3) (eBin dMod (eBlt dToInt (aCons (eVar 2) aNil)) (eBlt dLen (aCons (eVar 3) aNil)))) (eVar 4)) aNil)) (eVar 1))))))))
def F__law_next : List D → Rs D := runF 5 b__law_next

abbrev n__law_form : List Str := ["a", "b", "w", "g"]
abbrev b__law_form : M Fl := (sSeq (sAsg 3 (eCall 2 F__law_gcd (aCons (eCall 2 F__law_gcd (aCons (eVal 0) (aCons (eVal 1) aNil))) (aCons (eVal 2) aNil))))
  (sRet (eTup (aCons (eBin dDiv (eVar 0) (eVar 3)) (aCons (eBin dDiv (eVar 1) (eVar 3)) (aCons (eBin dDiv (eVar 2) (eVar 3)) aNil))))))
def F__law_form : List D → Rs D := runF 4 b__law_form

abbrev n__law_entry : List Str := ["tape", "great", "a", "k"]
abbrev b__law_entry : M Fl := (sSeq (sAsg 2 (eBin dSub (eCall 2 F__law_next (aCons (eVar 0) (aCons (eC (.int 13)) aNil))) (eC (.int 6))))
  (sSeq (sIf (tOf (eBin dEq (eVar 1) (eC (.int 1)))) (sFor (eRange (aCons (eC (.int 12)) aNil)) (gN 3) (sAsg 2 (eBin dAdd (eBin dMulI (eVar 2) (eC (.int 60))) (eCall 2 F__law_next (aCons (eVar 0) (aCons (eC (.int 60)) aNil)))))) sNext)
  (sRet (eCall 3 F__law_form (aCons (eVal 2) (aCons (eC (.int 0)) (aCons (eBin dAdd (eC (.int 1)) (eCall 2 F__law_next (aCons (eVar 0) (aCons (eC (.int 3)) aNil)))) aNil)))))))
def F__law_entry : List D → Rs D := runF 4 b__law_entry

abbrev n__law_mover : List Str := ["tape", "a", "b"]
abbrev b__law_mover : M Fl := (sSeq (sAsg 1 (eBin dSub (eCall 2 F__law_next (aCons (eVar 0) (aCons (eC (.int 9)) aNil))) (eC (.int 4))))
  (sSeq (sAsg 2 (eBin dAdd (eC (.int 1)) (eCall 2 F__law_next (aCons (eVar 0) (aCons (eC (.int 6)) aNil)))))
  (sSeq (sIf (tOf (eBin dEq (eCall 2 F__law_next (aCons (eVar 0) (aCons (eC (.int 2)) aNil))) (eC (.int 1)))) (sAsg 2 (eUn dNeg (eVar 2))) sNext)
  (sRet (eCall 3 F__law_form (aCons (eVal 1) (aCons (eVal 2) (aCons (eBin dAdd (eC (.int 1)) (eCall 2 F__law_next (aCons (eVar 0) (aCons (eC (.int 3)) aNil)))) aNil))))))))
def F__law_mover : List D → Rs D := runF 3 b__law_mover

abbrev n__law_corner : List Str := ["tape", "great", "found", "k"]
abbrev b__law_corner : M Fl := (sSeq (sAsgF 2 (eLstF aNil))
  (sSeq (sFor (eRange (aCons (eC (.int 2)) aNil)) (gN 3) (sIf (tOf (eBin dEq (eCall 2 F__law_next (aCons (eVar 0) (aCons (eC (.int 2)) aNil))) (eC (.int 1)))) (sApp (eVar 2) (eCall 1 F__law_mover (aCons (eVar 0) aNil))) (sApp (eVar 2) (eCall 2 F__law_entry (aCons (eVar 0) (aCons (eVal 1) aNil))))))
  (sRet (eTup (aCons (eBin dIdx (eVar 2) (eC (.int 0))) (aCons (eBin dIdx (eVar 2) (eC (.int 1))) aNil))))))
def F__law_corner : List D → Rs D := runF 4 b__law_corner

abbrev n__law_int : List Str := ["x"]
abbrev b__law_int : M Fl := (sRet (eAndD (eBlt dIsi (aCons (eVar 0) (aCons (eC (.ty "int")) aNil))) (eNotD (eBlt dIsi (aCons (eVar 0) (aCons (eC (.ty "bool")) aNil))))))
def F__law_int : List D → Rs D := runF 1 b__law_int

abbrev n__law_formed : List Str := ["told", "part"]
abbrev b__law_formed : M Fl := (sSeq (sIf (tOrD (tNotD (tTruD (eBlt dIsi (aCons (eVar 0) (aCons (eC (.ty "tuple")) aNil))))) (tOf (eBin dNe (eBlt dLen (aCons (eVar 0) aNil)) (eC (.int 3))))) (sRet (eC (.bl false))) sNext)
  (sSeq (sFor (eIter (eVal 0)) (gN 1) (sIf (tNotD (tTruD (eCall 1 F__law_int (aCons (eVal 1) aNil)))) (sRet (eC (.bl false))) sNext))
  (sRet (eAndD (eBin dGe (eBin dIdx (eVar 0) (eC (.int 2))) (eC (.int 1))) (eBin dEq (eCall 2 F__law_gcd (aCons (eCall 2 F__law_gcd (aCons (eBin dIdx (eVar 0) (eC (.int 0))) (aCons (eBin dIdx (eVar 0) (eC (.int 1))) aNil))) (aCons (eBin dIdx (eVar 0) (eC (.int 2))) aNil))) (eC (.int 1)))))))
def F__law_formed : List D → Rs D := runF 2 b__law_formed

abbrev n__law_is : List Str := ["told", "due"]
abbrev b__law_is : M Fl := (sSeq (sIf (tOrD (tNotD (tTruD (eCall 1 F__law_formed (aCons (eVal 0) aNil)))) (tOf (eBin dNe (eBin dMulI (eBin dIdx (eVar 0) (eC (.int 0))) (eBin dIdx (eVar 1) (eC (.int 2)))) (eBin dMulI (eBin dIdx (eVar 1) (eC (.int 0))) (eBin dIdx (eVar 0) (eC (.int 2))))))) (sRet (eC (.bl false))) sNext)
  (sRet (eBin dEq (eBin dMulI (eBin dIdx (eVar 0) (eC (.int 1))) (eBin dIdx (eVar 1) (eC (.int 2)))) (eBin dMulI (eBin dIdx (eVar 1) (eC (.int 1))) (eBin dIdx (eVar 0) (eC (.int 2)))))))
def F__law_is : List D → Rs D := runF 2 b__law_is

abbrev n__law_all : List Str := ["told", "dues", "k"]
abbrev b__law_all : M Fl := (sSeq (sIf (tOrD (tNotD (tTruD (eBlt dIsi (aCons (eVar 0) (aCons (eC (.ty "tuple")) aNil))))) (tOf (eBin dNe (eBlt dLen (aCons (eVar 0) aNil)) (eBlt dLen (aCons (eVar 1) aNil))))) (sRet (eC (.bl false))) sNext)
  (sSeq (sFor (eRange (aCons (eBlt dLen (aCons (eVar 1) aNil)) aNil)) (gN 2) (sIf (tNotD (tTruD (eCall 2 F__law_is (aCons (eBin dIdx (eVar 0) (eVar 2)) (aCons (eBin dIdx (eVar 1) (eVar 2)) aNil))))) (sRet (eC (.bl false))) sNext))
  (sRet (eC (.bl true)))))
def F__law_all : List D → Rs D := runF 3 b__law_all

abbrev n__law_sum : List Str := ["x", "y", "a"]
abbrev b__law_sum : M Fl := (sSeq (sAsg 2 (eBin dAdd (eBin dMulI (eBin dIdx (eVar 0) (eC (.int 0))) (eBin dIdx (eVar 1) (eC (.int 2)))) (eBin dMulI (eBin dIdx (eVar 1) (eC (.int 0))) (eBin dIdx (eVar 0) (eC (.int 2))))))
  (sRet (eTup (aCons (eVal 2) (aCons (eBin dAdd (eBin dMulI (eBin dIdx (eVar 0) (eC (.int 1))) (eBin dIdx (eVar 1) (eC (.int 2)))) (eBin dMulI (eBin dIdx (eVar 1) (eC (.int 1))) (eBin dIdx (eVar 0) (eC (.int 2))))) (aCons (eBin dMulI (eBin dIdx (eVar 0) (eC (.int 2))) (eBin dIdx (eVar 1) (eC (.int 2)))) aNil))))))
def F__law_sum : List D → Rs D := runF 3 b__law_sum

abbrev n__law_product : List Str := ["x", "y"]
abbrev b__law_product : M Fl := (sRet (eTup (aCons (eBin dMulI (eBin dIdx (eVar 0) (eC (.int 0))) (eBin dIdx (eVar 1) (eC (.int 0)))) (aCons (eBin dAdd (eBin dMulI (eBin dIdx (eVar 0) (eC (.int 0))) (eBin dIdx (eVar 1) (eC (.int 1)))) (eBin dMulI (eBin dIdx (eVar 0) (eC (.int 1))) (eBin dIdx (eVar 1) (eC (.int 0))))) (aCons (eBin dMulI (eBin dIdx (eVar 0) (eC (.int 2))) (eBin dIdx (eVar 1) (eC (.int 2)))) aNil)))))
def F__law_product : List D → Rs D := runF 2 b__law_product

abbrev n__law_apply : List Str := ["m", "x", "y", "shift", "px", "py"]
abbrev b__law_apply : M Fl := (sSeq (sAsg 4 (eCall 2 F__law_sum (aCons (eCall 2 F__law_product (aCons (eBin dIdx (eVar 0) (eC (.int 0))) (aCons (eVal 1) aNil))) (aCons (eCall 2 F__law_product (aCons (eBin dIdx (eVar 0) (eC (.int 2))) (aCons (eVal 2) aNil))) aNil))))
  (sSeq (sAsg 5 (eCall 2 F__law_sum (aCons (eCall 2 F__law_product (aCons (eBin dIdx (eVar 0) (eC (.int 1))) (aCons (eVal 1) aNil))) (aCons (eCall 2 F__law_product (aCons (eBin dIdx (eVar 0) (eC (.int 3))) (aCons (eVal 2) aNil))) aNil))))
  (sSeq (sIf (tOf (eBin dEq (eVar 3) (eC (.int 1)))) (sSeq (sAsg 4 (eCall 2 F__law_sum (aCons (eVal 4) (aCons (eBin dIdx (eVar 0) (eC (.int 4))) aNil))))
  (sAsg 5 (eCall 2 F__law_sum (aCons (eVal 5) (aCons (eBin dIdx (eVar 0) (eC (.int 5))) aNil))))) sNext)
  (sRet (eFrz (eLstF (aCons (eVal 4) (aCons (eVal 5) aNil))))))))
def F__law_apply : List D → Rs D := runF 6 b__law_apply

abbrev n__law_after : List Str := ["m", "n", "found"]
abbrev b__law_after : M Fl := (sSeq (sAsg 2 (eBin dAdd (eCall 4 F__law_apply (aCons (eVal 1) (aCons (eBin dIdx (eVar 0) (eC (.int 0))) (aCons (eBin dIdx (eVar 0) (eC (.int 1))) (aCons (eC (.int 0)) aNil))))) (eCall 4 F__law_apply (aCons (eVal 1) (aCons (eBin dIdx (eVar 0) (eC (.int 2))) (aCons (eBin dIdx (eVar 0) (eC (.int 3))) (aCons (eC (.int 0)) aNil)))))))
  (sRet (eBin dAdd (eVar 2) (eCall 4 F__law_apply (aCons (eVal 1) (aCons (eBin dIdx (eVar 0) (eC (.int 4))) (aCons (eBin dIdx (eVar 0) (eC (.int 5))) (aCons (eC (.int 1)) aNil))))))))
def F__law_after : List D → Rs D := runF 3 b__law_after

abbrev n__law_det : List Str := ["m", "less"]
abbrev b__law_det : M Fl := (sSeq (sAsg 1 (eCall 2 F__law_product (aCons (eBin dIdx (eVar 0) (eC (.int 1))) (aCons (eBin dIdx (eVar 0) (eC (.int 2))) aNil))))
  (sRet (eCall 2 F__law_sum (aCons (eCall 2 F__law_product (aCons (eBin dIdx (eVar 0) (eC (.int 0))) (aCons (eBin dIdx (eVar 0) (eC (.int 3))) aNil))) (aCons (eTup (aCons (eUn dNeg (eBin dIdx (eVar 1) (eC (.int 0)))) (aCons (eUn dNeg (eBin dIdx (eVar 1) (eC (.int 1)))) (aCons (eBin dIdx (eVar 1) (eC (.int 2))) aNil)))) aNil)))))
def F__law_det : List D → Rs D := runF 2 b__law_det

abbrev n__law_with : List Str := ["m", "k", "x"]
abbrev b__law_with : M Fl := (sRet (eBin dAdd (eBin dAdd (eSlice (eVar 0) eNoPart (ePart (eVar 1))) (eTup (aCons (eVal 2) aNil))) (eSlice (eVar 0) (ePart (eBin dAdd (eVar 1) (eC (.int 1)))) eNoPart)))
def F__law_with : List D → Rs D := runF 3 b__law_with

abbrev n__law_stray : List Str := ["e"]
abbrev b__law_stray (y : Exn) : M Fl := (sSeq (sIf (tOrD (tNotD (tTruD (eX 0 (some (.bl (isSub xtab y.cls (CN.own "PrintError"))))))) (tNotD (tTruD (eX 0 (some (.bl (isSub xtab y.cls (CN.ty "ValueError")))))))) (sRet (eC (.bl true))) sNext)
  (sSeq (sIf (tTruD (eX 0 (some (.bl (isSubs xtab y.cls [(CN.own "BadText"), (CN.own "NoPlace"), (CN.own "ByZero"), (CN.own "TooLong"), (CN.own "TooDeep"), (CN.own "TooMany"), (CN.own "TooGreat"), (CN.own "NoPiece"), (CN.own "NoPatch")]))))) (sRet (eC (.bl true))) sNext)
  (sSeq (sIf (tTruD (eX 0 (some (.bl (isSubs xtab y.cls [(CN.own "NoEntry"), (CN.own "NotOpaque"), (CN.own "SameInk"), (CN.own "BadHeights"), (CN.own "BadTurn"), (CN.own "BadRange"), (CN.own "Turns"), (CN.own "Parallel")]))))) (sRet (eC (.bl true))) sNext)
  (sRet (eX 0 (some (.bl (isSubs xtab y.cls [(CN.own "NotWithin"), (CN.own "TooManyPages"), (CN.own "BadPart"), (CN.own "NoPage"), (CN.own "BadOrder"), (CN.own "NothingToUndo"), (CN.own "NothingToRedo")]))))))))
def F__law_stray : Exn → Rs D := fun y => if hasX xtab y.cls = true then runE 1 b__law_stray y else .no

abbrev n__law_ask : List Str := ["word", "m", "n", "e"]
abbrev b__law_ask : M Fl := (sTry xtab (sSeq (sIf (tOf (eBin dEq (eVar 0) (eC (.str "after")))) (sRet (eFrz (eLstF (aCons (eC (.int 0)) (aCons (eCall 2 F_after (aCons (eVal 1) (aCons (eVal 2) aNil))) (aCons (eC (.bl true)) aNil)))))) sNext)
  (sSeq (sIf (tOf (eBin dEq (eVar 0) (eC (.str "lead")))) (sRet (eFrz (eLstF (aCons (eC (.int 0)) (aCons (eCall 2 F_lead (aCons (eVal 1) (aCons (eVal 2) aNil))) (aCons (eC (.bl true)) aNil)))))) sNext)
  (sSeq (sIf (tOf (eBin dEq (eVar 0) (eC (.str "lead_step")))) (sRet (eFrz (eLstF (aCons (eC (.int 0)) (aCons (eCall 2 F_lead_step (aCons (eVal 1) (aCons (eVal 2) aNil))) (aCons (eC (.bl true)) aNil)))))) sNext)
  (sSeq (sIf (tOf (eBin dEq (eVar 0) (eC (.str "determinant")))) (sRet (eFrz (eLstF (aCons (eC (.int 0)) (aCons (eCall 1 F_determinant (aCons (eVal 1) aNil)) (aCons (eC (.bl true)) aNil)))))) sNext)
  (sRet (eFrz (eLstF (aCons (eC (.int 0)) (aCons (eCall 1 F_back (aCons (eVal 1) aNil)) (aCons (eC (.bl true)) aNil))))))))))
 [(3, (CN.own "Moving"), fun x => (sRet (eFrz (eLstF (aCons (eC (.int 1)) (aCons (eC (.str "Moving")) (aCons (eAndD (eNotD (eX 3 (some (.bl (isSub xtab x.cls (CN.own "Flat")))))) (eNotD (eX 3 (resE (F__law_stray x))))) aNil))))))),
 (3, (CN.own "Flat"), fun x => (sRet (eFrz (eLstF (aCons (eC (.int 1)) (aCons (eC (.str "Flat")) (aCons (eAndD (eNotD (eX 3 (some (.bl (isSub xtab x.cls (CN.own "Moving")))))) (eNotD (eX 3 (resE (F__law_stray x))))) aNil)))))))])
def F__law_ask : List D → Rs D := runF 4 b__law_ask

abbrev n__law_moved : List Str := ["word", "m", "n", "told"]
abbrev b__law_moved : M Fl := (sSeq (sAsg 3 (eCall 3 F__law_ask (aCons (eVal 0) (aCons (eVal 1) (aCons (eVal 2) aNil)))))
  (sRet (eAndD (eBin dEq (eBin dIdx (eVar 3) (eC (.int 0))) (eC (.int 1))) (eAndD (eBin dEq (eBin dIdx (eVar 3) (eC (.int 1))) (eC (.str "Moving"))) (eBin dIdx (eVar 3) (eC (.int 2)))))))
def F__law_moved : List D → Rs D := runF 4 b__law_moved

abbrev n__law_fine : List Str := ["word", "m", "n", "dues", "told"]
abbrev b__law_fine : M Fl := (sSeq (sAsg 4 (eCall 3 F__law_ask (aCons (eVal 0) (aCons (eVal 1) (aCons (eVal 2) aNil)))))
  (sRet (eAndD (eBin dEq (eBin dIdx (eVar 4) (eC (.int 0))) (eC (.int 0))) (eCall 2 F__law_all (aCons (eBin dIdx (eVar 4) (eC (.int 1))) (aCons (eVal 3) aNil))))))
def F__law_fine : List D → Rs D := runF 5 b__law_fine

abbrev n__law_det_is : List Str := ["m", "told"]
abbrev b__law_det_is : M Fl := (sSeq (sAsg 1 (eCall 3 F__law_ask (aCons (eC (.str "determinant")) (aCons (eVal 0) (aCons (eTup aNil) aNil)))))
  (sRet (eAndD (eBin dEq (eBin dIdx (eVar 1) (eC (.int 0))) (eC (.int 0))) (eCall 2 F__law_is (aCons (eBin dIdx (eVar 1) (eC (.int 1))) (aCons (eCall 1 F__law_det (aCons (eVal 0) aNil)) aNil))))))
def F__law_det_is : List D → Rs D := runF 2 b__law_det_is

abbrev n__law_leads : List Str := ["m", "p"]
abbrev b__law_leads : M Fl := (sSeq (sIf (tNotD (tTruD (eCall 4 F__law_fine (aCons (eC (.str "lead")) (aCons (eVal 0) (aCons (eVal 1) (aCons (eCall 4 F__law_apply (aCons (eVal 0) (aCons (eBin dIdx (eVar 1) (eC (.int 0))) (aCons (eBin dIdx (eVar 1) (eC (.int 1))) (aCons (eC (.int 1)) aNil))))) aNil))))))) (sRet (eC (.bl false))) sNext)
  (sRet (eCall 4 F__law_fine (aCons (eC (.str "lead_step")) (aCons (eVal 0) (aCons (eVal 1) (aCons (eCall 4 F__law_apply (aCons (eVal 0) (aCons (eBin dIdx (eVar 1) (eC (.int 0))) (aCons (eBin dIdx (eVar 1) (eC (.int 1))) (aCons (eC (.int 0)) aNil))))) aNil)))))))
def F__law_leads : List D → Rs D := runF 2 b__law_leads

abbrev n__law_composed : List Str := ["m", "n", "p", "q"]
abbrev b__law_composed : M Fl := (sSeq (sIf (tOrD (tNotD (tTruD (eCall 2 F__law_leads (aCons (eVal 0) (aCons (eVal 2) aNil))))) (tNotD (tTruD (eCall 1 F__law_det_is (aCons (eVal 0) aNil))))) (sRet (eC (.bl false))) sNext)
  (sSeq (sIf (tNotD (tTruD (eCall 4 F__law_fine (aCons (eC (.str "after")) (aCons (eVal 0) (aCons (eVal 1) (aCons (eCall 2 F__law_after (aCons (eVal 0) (aCons (eVal 1) aNil))) aNil))))))) (sRet (eC (.bl false))) sNext)
  (sSeq (sAsg 3 (eCall 4 F__law_apply (aCons (eVal 0) (aCons (eBin dIdx (eVar 2) (eC (.int 0))) (aCons (eBin dIdx (eVar 2) (eC (.int 1))) (aCons (eC (.int 1)) aNil))))))
  (sRet (eCall 2 F__law_all (aCons (eCall 2 F_lead (aCons (eCall 2 F_after (aCons (eVal 0) (aCons (eVal 1) aNil))) (aCons (eVal 2) aNil))) (aCons (eCall 4 F__law_apply (aCons (eVal 1) (aCons (eBin dIdx (eVar 3) (eC (.int 0))) (aCons (eBin dIdx (eVar 3) (eC (.int 1))) (aCons (eC (.int 1)) aNil))))) aNil)))))))
def F__law_composed : List D → Rs D := runF 4 b__law_composed

abbrev n__law_back : List Str := ["m", "p", "told", "got", "k", "both", "one"]
abbrev b__law_back : M Fl := (sSeq (sAsg 2 (eCall 3 F__law_ask (aCons (eC (.str "back")) (aCons (eVal 0) (aCons (eTup aNil) aNil)))))
  (sSeq (sIf (tOf (eBin dEq (eBin dIdx (eCall 1 F__law_det (aCons (eVal 0) aNil)) (eC (.int 0))) (eC (.int 0)))) (sRet (eAndD (eBin dEq (eBin dIdx (eVar 2) (eC (.int 0))) (eC (.int 1))) (eAndD (eBin dEq (eBin dIdx (eVar 2) (eC (.int 1))) (eC (.str "Flat"))) (eBin dIdx (eVar 2) (eC (.int 2)))))) sNext)
  (sSeq (sAsg 3 (eBin dIdx (eVar 2) (eC (.int 1))))
  (sSeq (sIf (tOrD (tOf (eBin dEq (eBin dIdx (eVar 2) (eC (.int 0))) (eC (.int 1)))) (tOrD (tNotD (tTruD (eBlt dIsi (aCons (eVar 3) (aCons (eC (.ty "tuple")) aNil))))) (tOf (eBin dNe (eBlt dLen (aCons (eVar 3) aNil)) (eC (.int 6)))))) (sRet (eC (.bl false))) sNext)
  (sSeq (sFor (eRange (aCons (eC (.int 6)) aNil)) (gN 4) (sIf (tOrD (tNotD (tTruD (eCall 1 F__law_formed (aCons (eBin dIdx (eVar 3) (eVar 4)) aNil)))) (tAndD (tOf (eBin dLt (eVar 4) (eC (.int 4)))) (tOf (eBin dNe (eBin dIdx (eBin dIdx (eVar 3) (eVar 4)) (eC (.int 1))) (eC (.int 0)))))) (sRet (eC (.bl false))) sNext))
  (sSeq (sAsg 5 (eCall 2 F__law_after (aCons (eVal 0) (aCons (eVal 3) aNil))))
  (sSeq (sFor (eRange (aCons (eC (.int 6)) aNil)) (gN 4) (sSeq (sAsg 6 (eBlt dToInt (aCons (eOrD (eBin dEq (eVar 4) (eC (.int 0))) (eBin dEq (eVar 4) (eC (.int 3)))) aNil)))
  (sIf (tOrD (tOf (eBin dNe (eBin dIdx (eBin dIdx (eVar 5) (eVar 4)) (eC (.int 1))) (eC (.int 0)))) (tOf (eBin dNe (eBin dIdx (eBin dIdx (eVar 5) (eVar 4)) (eC (.int 0))) (eBin dMulI (eBin dIdx (eBin dIdx (eVar 5) (eVar 4)) (eC (.int 2))) (eVar 6))))) (sRet (eC (.bl false))) sNext)))
  (sRet (eAndD (eCall 2 F__law_all (aCons (eCall 2 F_lead (aCons (eVal 3) (aCons (eCall 2 F_lead (aCons (eVal 0) (aCons (eVal 1) aNil))) aNil))) (aCons (eVal 1) aNil))) (eCall 2 F__law_all (aCons (eCall 1 F_back (aCons (eVal 3) aNil)) (aCons (eVal 0) aNil))))))))))))
def F__law_back : List D → Rs D := runF 7 b__law_back

abbrev n__law_movers : List Str := ["tape", "m", "n", "x", "y", "i", "j", "far", "fair", "hit", "miss"]
abbrev b__law_movers : M Fl := (sSeq (sAsg 5 (eCall 2 F__law_next (aCons (eVar 0) (aCons (eC (.int 4)) aNil))))
  (sSeq (sAsg 6 (eBin dAdd (eBin dMulI (eC (.int 2)) (eCall 2 F__law_next (aCons (eVar 0) (aCons (eC (.int 3)) aNil)))) (eBin dDiv (eVar 5) (eC (.int 2)))))
  (sSeq (sAsg 7 (eCall 3 F__law_with (aCons (eVal 2) (aCons (eVal 5) (aCons (eVal 3) aNil)))))
  (sSeq (sIf (tNotD (tTruD (eCall 3 F__law_moved (aCons (eC (.str "after")) (aCons (eCall 3 F__law_with (aCons (eVal 1) (aCons (eVal 6) (aCons (eVal 4) aNil)))) (aCons (eVal 7) aNil)))))) (sRet (eC (.bl false))) sNext)
  (sSeq (sAsg 8 (eCall 3 F__law_with (aCons (eVal 1) (aCons (eBin dSub (eBin dAdd (eVar 6) (eC (.int 1))) (eBin dMulI (eC (.int 2)) (eBin dDiv (eVar 5) (eC (.int 2))))) (aCons (eVal 4) aNil)))))
  (sSeq (sIf (tNotD (tTruD (eCall 4 F__law_fine (aCons (eC (.str "after")) (aCons (eVal 8) (aCons (eVal 7) (aCons (eCall 2 F__law_after (aCons (eVal 8) (aCons (eVal 7) aNil))) aNil))))))) (sRet (eC (.bl false))) sNext)
  (sSeq (sAsg 9 (eTup (aCons (eVal 4) (aCons (eBin dIdx (eVar 1) (eC (.int 4))) aNil))))
  (sSeq (sAsg 10 (eTup (aCons (eBin dIdx (eVar 1) (eC (.int 4))) (aCons (eVal 4) aNil))))
  (sSeq (sIf (tOf (eBin dGt (eVar 5) (eC (.int 1)))) (sSeq (sAsg 9 (eTup (aCons (eBin dIdx (eVar 1) (eC (.int 4))) (aCons (eVal 4) aNil))))
  (sAsg 10 (eTup (aCons (eVal 4) (aCons (eBin dIdx (eVar 1) (eC (.int 4))) aNil))))) sNext)
  (sSeq (sIf (tOrD (tNotD (tTruD (eCall 3 F__law_moved (aCons (eC (.str "lead")) (aCons (eVal 7) (aCons (eVal 9) aNil)))))) (tNotD (tTruD (eCall 3 F__law_moved (aCons (eC (.str "lead_step")) (aCons (eVal 7) (aCons (eVal 9) aNil))))))) (sRet (eC (.bl false))) sNext)
  (sRet (eCall 2 F__law_leads (aCons (eVal 7) (aCons (eVal 10) aNil))))))))))))))
def F__law_movers : List D → Rs D := runF 11 b__law_movers

abbrev n__law_dets : List Str := ["tape", "m", "x", "y", "k", "i", "one", "flat"]
abbrev b__law_dets : M Fl := (sSeq (sAsg 4 (eCall 2 F__law_next (aCons (eVar 0) (aCons (eC (.int 2)) aNil))))
  (sSeq (sAsg 5 (eCall 2 F__law_next (aCons (eVar 0) (aCons (eC (.int 4)) aNil))))
  (sSeq (sAsg 6 (eCall 3 F__law_with (aCons (eVal 1) (aCons (eVal 4) (aCons (eVal 2) aNil)))))
  (sSeq (sIf (tNotD (tTruD (eCall 3 F__law_moved (aCons (eC (.str "determinant")) (aCons (eCall 3 F__law_with (aCons (eVal 6) (aCons (eBin dSub (eC (.int 3)) (eVar 4)) (aCons (eVal 3) aNil)))) (aCons (eTup aNil) aNil)))))) (sRet (eC (.bl false))) sNext)
  (sSeq (sIf (tOrD (tNotD (tTruD (eCall 1 F__law_det_is (aCons (eCall 3 F__law_with (aCons (eVal 6) (aCons (eBin dAdd (eC (.int 2)) (eVar 4)) (aCons (eVal 3) aNil)))) aNil)))) (tNotD (tTruD (eCall 1 F__law_det_is (aCons (eVal 6) aNil))))) (sRet (eC (.bl false))) sNext)
  (sSeq (sIf (tNotD (tTruD (eCall 3 F__law_moved (aCons (eC (.str "determinant")) (aCons (eTup (aCons (eVal 2) (aCons (eVal 2) (aCons (eVal 2) (aCons (eVal 2) (aCons (eBin dIdx (eVar 1) (eC (.int 4))) (aCons (eBin dIdx (eVar 1) (eC (.int 5))) aNil))))))) (aCons (eTup aNil) aNil)))))) (sRet (eC (.bl false))) sNext)
  (sSeq (sAsg 7 (eTup (aCons (eTup (aCons (eC (.int 0)) (aCons (eC (.int 0)) (aCons (eC (.int 1)) aNil)))) (aCons (eTup (aCons (eC (.int 0)) (aCons (eC (.int 0)) (aCons (eC (.int 1)) aNil)))) (aCons (eTup (aCons (eC (.int 0)) (aCons (eC (.int 0)) (aCons (eC (.int 1)) aNil)))) (aCons (eTup (aCons (eC (.int 0)) (aCons (eC (.int 0)) (aCons (eC (.int 1)) aNil)))) (aCons (eBin dIdx (eVar 1) (eC (.int 4))) (aCons (eBin dIdx (eVar 1) (eC (.int 5))) aNil))))))))
  (sSeq (sIf (tNotD (tTruD (eCall 3 F__law_moved (aCons (eC (.str "back")) (aCons (eCall 3 F__law_with (aCons (eVal 1) (aCons (eVal 5) (aCons (eVal 2) aNil)))) (aCons (eTup aNil) aNil)))))) (sRet (eC (.bl false))) sNext)
  (sRet (eCall 3 F__law_moved (aCons (eC (.str "back")) (aCons (eCall 3 F__law_with (aCons (eVal 7) (aCons (eVal 5) (aCons (eVal 2) aNil)))) (aCons (eTup aNil) aNil)))))))))))))
def F__law_dets : List D → Rs D := runF 8 b__law_dets

abbrev n_law : List Str := ["script", "tape", "great", "m", "k", "n", "p", "x", "y", "f", "c", "flat", "unit", "slid"]
abbrev b_law : M Fl := (sSeq (sAsgF 1 (eLstF (aCons (eCall 1 F__law_row (aCons (eVal 0) aNil)) (aCons (eC (.int 0)) aNil))))
  (sSeq (sAsg 2 (eBlt dToInt (aCons (eBin dEq (eCall 2 F__law_next (aCons (eVar 1) (aCons (eC (.int 8)) aNil))) (eC (.int 5))) aNil)))
  (sSeq (sAsg 3 (eBlt dTuple (aCons (eFrz (eComp (eRange (aCons (eC (.int 6)) aNil)) [4] (gN 4) tYesD (eCall 2 F__law_entry (aCons (eVar 1) (aCons (eVal 2) aNil))))) aNil)))
  (sSeq (sAsg 5 (eBlt dTuple (aCons (eFrz (eComp (eRange (aCons (eC (.int 6)) aNil)) [4] (gN 4) tYesD (eCall 2 F__law_entry (aCons (eVar 1) (aCons (eVal 2) aNil))))) aNil)))
  (sSeq (sAsg 6 (eCall 2 F__law_corner (aCons (eVar 1) (aCons (eVal 2) aNil))))
  (sSeq (sAsg 7 (eCall 1 F__law_mover (aCons (eVar 1) aNil)))
  (sSeq (sAsg 8 (eCall 1 F__law_mover (aCons (eVar 1) aNil)))
  (sSeq (sAsg 9 (eBin dSub (eCall 2 F__law_next (aCons (eVar 1) (aCons (eC (.int 5)) aNil))) (eC (.int 2))))
  (sSeq (sAsg 10 (eCall 3 F__law_form (aCons (eBin dMulI (eBin dIdx (eBin dIdx (eVar 3) (eC (.int 0))) (eC (.int 0))) (eVar 9)) (aCons (eC (.int 0)) (aCons (eBin dIdx (eBin dIdx (eVar 3) (eC (.int 0))) (eC (.int 2))) aNil)))))
  (sSeq (sAsg 11 (eTup (aCons (eBin dIdx (eVar 3) (eC (.int 0))) (aCons (eBin dIdx (eVar 3) (eC (.int 1))) (aCons (eVal 10) (aCons (eCall 3 F__law_form (aCons (eBin dMulI (eBin dIdx (eBin dIdx (eVar 3) (eC (.int 1))) (eC (.int 0))) (eVar 9)) (aCons (eC (.int 0)) (aCons (eBin dIdx (eBin dIdx (eVar 3) (eC (.int 1))) (eC (.int 2))) aNil)))) (aCons (eVal 7) (aCons (eVal 8) aNil))))))))
  (sSeq (sAsg 12 (eFrz (eLstF (aCons (eTup (aCons (eC (.int 1)) (aCons (eC (.int 0)) (aCons (eC (.int 1)) aNil)))) (aCons (eTup (aCons (eC (.int 0)) (aCons (eC (.int 0)) (aCons (eC (.int 1)) aNil)))) (aCons (eTup (aCons (eC (.int 0)) (aCons (eC (.int 0)) (aCons (eC (.int 1)) aNil)))) (aCons (eTup (aCons (eC (.int 1)) (aCons (eC (.int 0)) (aCons (eC (.int 1)) aNil)))) (aCons (eTup (aCons (eC (.int 0)) (aCons (eC (.int 0)) (aCons (eC (.int 1)) aNil)))) (aCons (eTup (aCons (eC (.int 0)) (aCons (eC (.int 0)) (aCons (eC (.int 1)) aNil)))) aNil)))))))))
  (sSeq (sIf (tNotD (tTruD (eCall 2 F__law_all (aCons (eC c_IDENTITY) (aCons (eVal 12) aNil))))) (sRet (eC (.bl false))) sNext)
  (sSeq (sIf (tOrD (tNotD (tTruD (eCall 3 F__law_composed (aCons (eVal 3) (aCons (eC c_IDENTITY) (aCons (eVal 6) aNil)))))) (tNotD (tTruD (eCall 3 F__law_composed (aCons (eC c_IDENTITY) (aCons (eVal 5) (aCons (eVal 6) aNil))))))) (sRet (eC (.bl false))) sNext)
  (sSeq (sIf (tOrD (tNotD (tTruD (eCall 3 F__law_composed (aCons (eVal 3) (aCons (eVal 5) (aCons (eVal 6) aNil)))))) (tNotD (tTruD (eCall 2 F__law_back (aCons (eVal 3) (aCons (eVal 6) aNil)))))) (sRet (eC (.bl false))) sNext)
  (sSeq (sAsg 13 (eBin dAdd (eSlice (eVar 3) eNoPart (ePart (eC (.int 4)))) (eTup (aCons (eVal 7) (aCons (eVal 8) aNil)))))
  (sSeq (sIf (tOrD (tNotD (tTruD (eCall 3 F__law_composed (aCons (eVal 13) (aCons (eVal 5) (aCons (eVal 6) aNil)))))) (tNotD (tTruD (eCall 2 F__law_back (aCons (eVal 13) (aCons (eVal 6) aNil)))))) (sRet (eC (.bl false))) sNext)
  (sSeq (sAsg 13 (eBin dAdd (eSlice (eVar 5) eNoPart (ePart (eC (.int 4)))) (eTup (aCons (eVal 8) (aCons (eVal 7) aNil)))))
  (sSeq (sIf (tOrD (tNotD (tTruD (eCall 3 F__law_composed (aCons (eVal 3) (aCons (eVal 13) (aCons (eVal 6) aNil)))))) (tNotD (tTruD (eCall 2 F__law_back (aCons (eVal 13) (aCons (eVal 6) aNil)))))) (sRet (eC (.bl false))) sNext)
  (sSeq (sIf (tNotD (tTruD (eCall 2 F__law_back (aCons (eVal 11) (aCons (eVal 6) aNil))))) (sRet (eC (.bl false))) sNext)
  (sSeq (sIf (tNotD (tTruD (eCall 5 F__law_movers (aCons (eVar 1) (aCons (eVal 3) (aCons (eVal 5) (aCons (eVal 7) (aCons (eVal 8) aNil)))))))) (sRet (eC (.bl false))) sNext)
  (sSeq (sIf (tNotD (tTruD (eCall 4 F__law_dets (aCons (eVar 1) (aCons (eVal 3) (aCons (eVal 7) (aCons (eVal 8) aNil))))))) (sRet (eC (.bl false))) sNext)
  (sRet (eAndD (eCall 3 F__law_composed (aCons (eVal 3) (aCons (eVal 5) (aCons (eVal 6) aNil)))) (eCall 2 F__law_back (aCons (eVal 3) (aCons (eVal 6) aNil))))))))))))))))))))))))))
def F_law : List D → Rs D := runF 14 b_law

end K02
end

section
set_option maxRecDepth 100000
set_option maxHeartbeats 4000000
namespace K02
open PySem L2 DL
/-! ### the text -/
def top (i : Nat) : Stmt := PySem.Challenge.pw_printstacks_k02_matrices_lead_and_come_b.main.body.getD i (.Pass ⟨0, 0, 0, 0⟩)
structure Tx (K : PySem.W.Frag) (mg : Str → Option Value) : Prop where
  b_ValueError : mg "ValueError" = none
  b_abs : mg "abs" = none
  b_bool : mg "bool" = none
  b_int : mg "int" = none
  b_isinstance : mg "isinstance" = none
  b_len : mg "len" = none
  b_range : mg "range" = none
  b_tuple : mg "tuple" = none
  i_gcd : mg "gcd" = some (.builtin "math.gcd")
  g_IDENTITY : mg "IDENTITY" = some (.ref (He.ga K "IDENTITY"))
  c_IDENTITY : ∀ B, Sh K B c_IDENTITY (.ref (He.ga K "IDENTITY"))
  g_ZERO : mg "ZERO" = some (.ref (He.ga K "ZERO"))
  c_ZERO : ∀ B, Sh K B c_ZERO (.ref (He.ga K "ZERO"))
  x_ByZero : XC K mg "ByZero"
  x_Flat : XC K mg "Flat"
  x_Moving : XC K mg "Moving"
  g_BadHeights : mg "BadHeights" = some (.ref (He.ga K "BadHeights"))
  g_BadOrder : mg "BadOrder" = some (.ref (He.ga K "BadOrder"))
  g_BadPart : mg "BadPart" = some (.ref (He.ga K "BadPart"))
  g_BadRange : mg "BadRange" = some (.ref (He.ga K "BadRange"))
  g_BadText : mg "BadText" = some (.ref (He.ga K "BadText"))
  g_BadTurn : mg "BadTurn" = some (.ref (He.ga K "BadTurn"))
  g_ByZero : mg "ByZero" = some (.ref (He.ga K "ByZero"))
  g_Flat : mg "Flat" = some (.ref (He.ga K "Flat"))
  g_Moving : mg "Moving" = some (.ref (He.ga K "Moving"))
  g_NoEntry : mg "NoEntry" = some (.ref (He.ga K "NoEntry"))
  g_NoPage : mg "NoPage" = some (.ref (He.ga K "NoPage"))
  g_NoPatch : mg "NoPatch" = some (.ref (He.ga K "NoPatch"))
  g_NoPiece : mg "NoPiece" = some (.ref (He.ga K "NoPiece"))
  g_NoPlace : mg "NoPlace" = some (.ref (He.ga K "NoPlace"))
  g_NotOpaque : mg "NotOpaque" = some (.ref (He.ga K "NotOpaque"))
  g_NotWithin : mg "NotWithin" = some (.ref (He.ga K "NotWithin"))
  g_NothingToRedo : mg "NothingToRedo" = some (.ref (He.ga K "NothingToRedo"))
  g_NothingToUndo : mg "NothingToUndo" = some (.ref (He.ga K "NothingToUndo"))
  g_Parallel : mg "Parallel" = some (.ref (He.ga K "Parallel"))
  g_PrintError : mg "PrintError" = some (.ref (He.ga K "PrintError"))
  g_SameInk : mg "SameInk" = some (.ref (He.ga K "SameInk"))
  g_TooDeep : mg "TooDeep" = some (.ref (He.ga K "TooDeep"))
  g_TooGreat : mg "TooGreat" = some (.ref (He.ga K "TooGreat"))
  g_TooLong : mg "TooLong" = some (.ref (He.ga K "TooLong"))
  g_TooMany : mg "TooMany" = some (.ref (He.ga K "TooMany"))
  g_TooManyPages : mg "TooManyPages" = some (.ref (He.ga K "TooManyPages"))
  g_Turns : mg "Turns" = some (.ref (He.ga K "Turns"))
  xt : XT K xtab cns ens
section
variable {P : Program} {w : World} {K : PySem.W.Frag} {mg : Str → Option Value} {base : Heap}
abbrev s_number : Stmt := top 31
theorem sc_number : FnScope n_number ["a", "b", "w"] (defScope s_number) := ⟨rfl, rfl, rfl, by decide +kernel, rfl, by decide +kernel, by decide +kernel⟩
theorem E_number {f : Addr} {fd : FuncData} (F : FunD K "number" "number" (defArgs s_number) (defBody s_number) (defScope s_number) [(.int 0), (.int 1)] [] f fd) (T : Tx K mg) : FnOk P w K mg base (L2.CX P w) 1 f fd ["a", "b", "w"] (spF K 3 F_number) := by
  refine fn_mkB (N := n_number) (n := 3) (k := 0) (g := b_number) F sc_number rfl (by decide) (fun cdv A outer s H E c W b => ?_)
  exact (ds_cons (ds_if (dt_cmp (op_eqAll b.room.units) ok_eq (de_var (pv 2)) (de_c pe_int fun _ => .int _) (nomark _))
 (ds_one (ds_raise0 b.toBx T.x_ByZero rfl))
 ds_nil)
 (ds_cons (ds_if (dt_cmp op_lt ok_lt (de_var (pv 2)) (de_c pe_int fun _ => .int _) (nomark _))
 (ds_cons (ds_asg (i := 0) sc_number.nd rfl (by first | exact Or.inl rfl | exact Or.inr rfl) (de_neg (de_var (pv 0))))
 (ds_cons (ds_asg (i := 1) sc_number.nd rfl (by first | exact Or.inl rfl | exact Or.inr rfl) (de_neg (de_var (pv 1))))
 (ds_one (ds_asg (i := 2) sc_number.nd rfl (by first | exact Or.inl rfl | exact Or.inr rfl) (de_neg (de_var (pv 2)))))))
 ds_nil)
 (ds_cons (ds_asg (i := 3) sc_number.nd rfl (by first | exact Or.inl rfl | exact Or.inr rfl) (de_bltFn cr_gcd ok_gcd2 rfl T.i_gcd (da_cons (de_bltFn cr_gcd ok_gcd2 rfl T.i_gcd (da_cons (de_var (pv 0)) (da_cons (de_var (pv 1)) da_nil))) (da_cons (de_var (pv 2)) da_nil))))
 (ds_one (ds_ret (de_tup (da_cons (de_bin op_fdivA ok_div (de_var (pv 0)) (de_var (pv 3))) (da_cons (de_bin op_fdivA ok_div (de_var (pv 1)) (de_var (pv 3))) (da_cons (de_bin op_fdivA ok_div (de_var (pv 2)) (de_var (pv 3))) da_nil)))))))))

theorem D_number_1 {f : Addr} {fd : FuncData} (F : FunD K "number" "number" (defArgs s_number) (defBody s_number) (defScope s_number) [(.int 0), (.int 1)] [] f fd) (hm : mg "number" = some (.ref f)) (T : Tx K mg) : FnD P w K mg base "number" 1 3 F_number [(.int 0), (.int 1)] := by
  obtain ⟨us, h1, h2⟩ := FunD.binds1 (ps := ["a", "b", "w"]) F 1 0 (List.cons_ne_nil _ _) rfl fun _ _ _ _ _ _ _ us its hl hi => match us, hl, its, hi with | [_], _, [_, _], _ => ⟨_, rfl, rfl⟩
  exact ⟨f, fd, ["a", "b", "w"], us, _, E_number F T, hm, F.kp, h2, h1, fun B => (.cons (by constructor) (.cons (by constructor) .nil))⟩
theorem D_number_2 {f : Addr} {fd : FuncData} (F : FunD K "number" "number" (defArgs s_number) (defBody s_number) (defScope s_number) [(.int 0), (.int 1)] [] f fd) (hm : mg "number" = some (.ref f)) (T : Tx K mg) : FnD P w K mg base "number" 1 3 F_number [(.int 1)] := by
  obtain ⟨us, h1, h2⟩ := FunD.binds1 (ps := ["a", "b", "w"]) F 2 1 (List.cons_ne_nil _ _) rfl fun _ _ _ _ _ _ _ us its hl hi => match us, hl, its, hi with | [_, _], _, [_, _], _ => ⟨_, rfl, rfl⟩
  exact ⟨f, fd, ["a", "b", "w"], us, _, E_number F T, hm, F.kp, h2, h1, fun B => (.cons (by constructor) .nil)⟩
theorem D_number_3 {f : Addr} {fd : FuncData} (F : FunD K "number" "number" (defArgs s_number) (defBody s_number) (defScope s_number) [(.int 0), (.int 1)] [] f fd) (hm : mg "number" = some (.ref f)) (T : Tx K mg) : FnD P w K mg base "number" 1 3 F_number [] := by
  obtain ⟨us, h1, h2⟩ := FunD.binds1 (ps := ["a", "b", "w"]) F 3 2 (List.cons_ne_nil _ _) rfl fun _ _ _ _ _ _ _ us its hl hi => match us, hl, its, hi with | [_, _, _], _, [_, _], _ => ⟨_, rfl, rfl⟩
  exact ⟨f, fd, ["a", "b", "w"], us, _, E_number F T, hm, F.kp, h2, h1, fun B => .nil⟩

abbrev s_plus : Stmt := top 32
theorem sc_plus : FnScope n_plus ["x", "y"] (defScope s_plus) := ⟨rfl, rfl, rfl, by decide +kernel, rfl, by decide +kernel, by decide +kernel⟩
theorem D_plus {f : Addr} {fd : FuncData} (F : FunD K "plus" "plus" (defArgs s_plus) (defBody s_plus) (defScope s_plus) [] [] f fd) (hm : mg "plus" = some (.ref f)) (T : Tx K mg) (H_number_1 : FnD P w K mg base "number" 1 3 F_number [(.int 0), (.int 1)]) (H_number_2 : FnD P w K mg base "number" 1 3 F_number [(.int 1)]) (H_number_3 : FnD P w K mg base "number" 1 3 F_number []) : Fn P w K mg base "plus" 2 2 F_plus := by
  refine ⟨f, fd, ["x", "y"], fn_mkB (N := n_plus) (n := 2) (k := 1) (g := b_plus) F sc_plus rfl (by decide) (fun cdv A outer s H E c W b => ?_), hm, F.kp, F.bindsN fun _ _ _ _ _ _ us hl => match us, hl with | [_, _], _ => rfl⟩
  exact (ds_one (ds_ret (de_fnD b.toBx H_number_3 (by decide) rfl (da_cons (de_bin op_addAll ok_add (de_bin op_mulW ok_mulI (de_idx (de_var (pv 0)) (de_c pe_int fun _ => .int _)) (de_idx (de_var (pv 1)) (de_c pe_int fun _ => .int _))) (de_bin op_mulW ok_mulI (de_idx (de_var (pv 1)) (de_c pe_int fun _ => .int _)) (de_idx (de_var (pv 0)) (de_c pe_int fun _ => .int _)))) (da_cons (de_bin op_addAll ok_add (de_bin op_mulW ok_mulI (de_idx (de_var (pv 0)) (de_c pe_int fun _ => .int _)) (de_idx (de_var (pv 1)) (de_c pe_int fun _ => .int _))) (de_bin op_mulW ok_mulI (de_idx (de_var (pv 1)) (de_c pe_int fun _ => .int _)) (de_idx (de_var (pv 0)) (de_c pe_int fun _ => .int _)))) (da_cons (de_bin op_mulW ok_mulI (de_idx (de_var (pv 0)) (de_c pe_int fun _ => .int _)) (de_idx (de_var (pv 1)) (de_c pe_int fun _ => .int _))) da_nil))))))

abbrev s_minus : Stmt := top 33
theorem sc_minus : FnScope n_minus ["x", "y"] (defScope s_minus) := ⟨rfl, rfl, rfl, by decide +kernel, rfl, by decide +kernel, by decide +kernel⟩
theorem D_minus {f : Addr} {fd : FuncData} (F : FunD K "minus" "minus" (defArgs s_minus) (defBody s_minus) (defScope s_minus) [] [] f fd) (hm : mg "minus" = some (.ref f)) (T : Tx K mg) (H_number_1 : FnD P w K mg base "number" 1 3 F_number [(.int 0), (.int 1)]) (H_number_2 : FnD P w K mg base "number" 1 3 F_number [(.int 1)]) (H_number_3 : FnD P w K mg base "number" 1 3 F_number []) : Fn P w K mg base "minus" 2 2 F_minus := by
  refine ⟨f, fd, ["x", "y"], fn_mkB (N := n_minus) (n := 2) (k := 1) (g := b_minus) F sc_minus rfl (by decide) (fun cdv A outer s H E c W b => ?_), hm, F.kp, F.bindsN fun _ _ _ _ _ _ us hl => match us, hl with | [_, _], _ => rfl⟩
  exact (ds_one (ds_ret (de_fnD b.toBx H_number_3 (by decide) rfl (da_cons (de_bin op_sub ok_sub (de_bin op_mulW ok_mulI (de_idx (de_var (pv 0)) (de_c pe_int fun _ => .int _)) (de_idx (de_var (pv 1)) (de_c pe_int fun _ => .int _))) (de_bin op_mulW ok_mulI (de_idx (de_var (pv 1)) (de_c pe_int fun _ => .int _)) (de_idx (de_var (pv 0)) (de_c pe_int fun _ => .int _)))) (da_cons (de_bin op_sub ok_sub (de_bin op_mulW ok_mulI (de_idx (de_var (pv 0)) (de_c pe_int fun _ => .int _)) (de_idx (de_var (pv 1)) (de_c pe_int fun _ => .int _))) (de_bin op_mulW ok_mulI (de_idx (de_var (pv 1)) (de_c pe_int fun _ => .int _)) (de_idx (de_var (pv 0)) (de_c pe_int fun _ => .int _)))) (da_cons (de_bin op_mulW ok_mulI (de_idx (de_var (pv 0)) (de_c pe_int fun _ => .int _)) (de_idx (de_var (pv 1)) (de_c pe_int fun _ => .int _))) da_nil))))))

abbrev s_times : Stmt := top 34
theorem sc_times : FnScope n_times ["x", "y"] (defScope s_times) := ⟨rfl, rfl, rfl, by decide +kernel, rfl, by decide +kernel, by decide +kernel⟩
theorem D_times {f : Addr} {fd : FuncData} (F : FunD K "times" "times" (defArgs s_times) (defBody s_times) (defScope s_times) [] [] f fd) (hm : mg "times" = some (.ref f)) (T : Tx K mg) (H_number_1 : FnD P w K mg base "number" 1 3 F_number [(.int 0), (.int 1)]) (H_number_2 : FnD P w K mg base "number" 1 3 F_number [(.int 1)]) (H_number_3 : FnD P w K mg base "number" 1 3 F_number []) : Fn P w K mg base "times" 2 2 F_times := by
  refine ⟨f, fd, ["x", "y"], fn_mkB (N := n_times) (n := 2) (k := 1) (g := b_times) F sc_times rfl (by decide) (fun cdv A outer s H E c W b => ?_), hm, F.kp, F.bindsN fun _ _ _ _ _ _ us hl => match us, hl with | [_, _], _ => rfl⟩
  exact (ds_cons (ds_if (PW.pt (dw_and (dt_cmp (op_neAll b.room.units) ok_ne (de_idx (de_var (pv 0)) (de_c pe_int fun _ => .int _)) (de_c pe_int fun _ => .int _) (nomark _)) (dw_and1 (dt_cmp (op_neAll b.room.units) ok_ne (de_idx (de_var (pv 1)) (de_c pe_int fun _ => .int _)) (de_c pe_int fun _ => .int _) (nomark _)))))
 (ds_one (ds_raise0 b.toBx T.x_Moving rfl))
 ds_nil)
 (ds_one (ds_ret (de_fnD b.toBx H_number_3 (by decide) rfl (da_cons (de_bin op_mulW ok_mulI (de_idx (de_var (pv 0)) (de_c pe_int fun _ => .int _)) (de_idx (de_var (pv 1)) (de_c pe_int fun _ => .int _))) (da_cons (de_bin op_addAll ok_add (de_bin op_mulW ok_mulI (de_idx (de_var (pv 0)) (de_c pe_int fun _ => .int _)) (de_idx (de_var (pv 1)) (de_c pe_int fun _ => .int _))) (de_bin op_mulW ok_mulI (de_idx (de_var (pv 0)) (de_c pe_int fun _ => .int _)) (de_idx (de_var (pv 1)) (de_c pe_int fun _ => .int _)))) (da_cons (de_bin op_mulW ok_mulI (de_idx (de_var (pv 0)) (de_c pe_int fun _ => .int _)) (de_idx (de_var (pv 1)) (de_c pe_int fun _ => .int _))) da_nil)))))))

abbrev s_over : Stmt := top 35
theorem sc_over : FnScope n_over ["x", "y"] (defScope s_over) := ⟨rfl, rfl, rfl, by decide +kernel, rfl, by decide +kernel, by decide +kernel⟩
theorem D_over {f : Addr} {fd : FuncData} (F : FunD K "over" "over" (defArgs s_over) (defBody s_over) (defScope s_over) [] [] f fd) (hm : mg "over" = some (.ref f)) (T : Tx K mg) (H_number_1 : FnD P w K mg base "number" 1 3 F_number [(.int 0), (.int 1)]) (H_number_2 : FnD P w K mg base "number" 1 3 F_number [(.int 1)]) (H_number_3 : FnD P w K mg base "number" 1 3 F_number []) : Fn P w K mg base "over" 2 2 F_over := by
  refine ⟨f, fd, ["x", "y"], fn_mkB (N := n_over) (n := 2) (k := 1) (g := b_over) F sc_over rfl (by decide) (fun cdv A outer s H E c W b => ?_), hm, F.kp, F.bindsN fun _ _ _ _ _ _ us hl => match us, hl with | [_, _], _ => rfl⟩
  exact (ds_cons (ds_if (dt_cmp (op_neAll b.room.units) ok_ne (de_idx (de_var (pv 1)) (de_c pe_int fun _ => .int _)) (de_c pe_int fun _ => .int _) (nomark _))
 (ds_one (ds_raise0 b.toBx T.x_Moving rfl))
 ds_nil)
 (ds_cons (ds_if (dt_cmp (op_eqAll b.room.units) ok_eq (de_idx (de_var (pv 1)) (de_c pe_int fun _ => .int _)) (de_c pe_int fun _ => .int _) (nomark _))
 (ds_one (ds_raise0 b.toBx T.x_ByZero rfl))
 ds_nil)
 (ds_one (ds_ret (de_fnD b.toBx H_number_3 (by decide) rfl (da_cons (de_bin op_mulW ok_mulI (de_idx (de_var (pv 0)) (de_c pe_int fun _ => .int _)) (de_idx (de_var (pv 1)) (de_c pe_int fun _ => .int _))) (da_cons (de_bin op_mulW ok_mulI (de_idx (de_var (pv 0)) (de_c pe_int fun _ => .int _)) (de_idx (de_var (pv 1)) (de_c pe_int fun _ => .int _))) (da_cons (de_bin op_mulW ok_mulI (de_idx (de_var (pv 0)) (de_c pe_int fun _ => .int _)) (de_idx (de_var (pv 1)) (de_c pe_int fun _ => .int _))) da_nil))))))))

abbrev s_moves : Stmt := top 36
theorem sc_moves : FnScope n_moves ["x"] (defScope s_moves) := ⟨rfl, rfl, rfl, by decide +kernel, rfl, by decide +kernel, by decide +kernel⟩
theorem D_moves {f : Addr} {fd : FuncData} (F : FunD K "moves" "moves" (defArgs s_moves) (defBody s_moves) (defScope s_moves) [] [] f fd) (hm : mg "moves" = some (.ref f)) (T : Tx K mg) : Fn P w K mg base "moves" 1 1 F_moves := by
  refine ⟨f, fd, ["x"], fn_mkB (N := n_moves) (n := 1) (k := 0) (g := b_moves) F sc_moves rfl (by decide) (fun cdv A outer s H E c W b => ?_), hm, F.kp, F.bindsN fun _ _ _ _ _ _ us hl => match us, hl with | [_], _ => rfl⟩
  exact (ds_one (ds_ret (de_cmp (op_neAll b.room.units) ok_ne (de_idx (de_var (pv 0)) (de_c pe_int fun _ => .int _)) (de_c pe_int fun _ => .int _) (nomark _))))

abbrev s_lead_step : Stmt := top 39
theorem sc_lead_step : FnScope n_lead_step ["matrix", "step"] (defScope s_lead_step) := ⟨rfl, rfl, rfl, by decide +kernel, rfl, by decide +kernel, by decide +kernel⟩
theorem D_lead_step {f : Addr} {fd : FuncData} (F : FunD K "lead_step" "lead_step" (defArgs s_lead_step) (defBody s_lead_step) (defScope s_lead_step) [] [] f fd) (hm : mg "lead_step" = some (.ref f)) (T : Tx K mg) (H_plus : Fn P w K mg base "plus" 2 2 F_plus) (H_times : Fn P w K mg base "times" 2 2 F_times) : Fn P w K mg base "lead_step" 3 2 F_lead_step := by
  refine ⟨f, fd, ["matrix", "step"], fn_mkB (N := n_lead_step) (n := 2) (k := 2) (g := b_lead_step) F sc_lead_step rfl (by decide) (fun cdv A outer s H E c W b => ?_), hm, F.kp, F.bindsN fun _ _ _ _ _ _ us hl => match us, hl with | [_, _], _ => rfl⟩
  exact (ds_cons (ds_unp (de_slice (de_var (pv 0)) do_none (do_some (de_c pe_int fun _ => .int _))) (dg_tup b.calm (dgs_cons (dg_name (i := 2) sc_lead_step.nd rfl (by first | exact Or.inl rfl | exact Or.inr rfl)) (dgs_cons (dg_name (i := 3) sc_lead_step.nd rfl (by first | exact Or.inl rfl | exact Or.inr rfl)) (dgs_cons (dg_name (i := 4) sc_lead_step.nd rfl (by first | exact Or.inl rfl | exact Or.inr rfl)) (dgs_cons (dg_name (i := 5) sc_lead_step.nd rfl (by first | exact Or.inl rfl | exact Or.inr rfl)) dgs_nil))))))
 (ds_cons (ds_unp (de_val (pv 1)) (dg_tup b.calm (dgs_cons (dg_name (i := 6) sc_lead_step.nd rfl (by first | exact Or.inl rfl | exact Or.inr rfl)) (dgs_cons (dg_name (i := 7) sc_lead_step.nd rfl (by first | exact Or.inl rfl | exact Or.inr rfl)) dgs_nil))))
 (ds_one (ds_ret (de_tup (da_cons (de_fn b.toBx H_plus (by decide) rfl (da_cons (de_fn b.toBx H_times (by decide) rfl (da_cons (de_val (pv 2)) (da_cons (de_val (pv 6)) da_nil))) (da_cons (de_fn b.toBx H_times (by decide) rfl (da_cons (de_val (pv 4)) (da_cons (de_val (pv 7)) da_nil))) da_nil))) (da_cons (de_fn b.toBx H_plus (by decide) rfl (da_cons (de_fn b.toBx H_times (by decide) rfl (da_cons (de_val (pv 3)) (da_cons (de_val (pv 6)) da_nil))) (da_cons (de_fn b.toBx H_times (by decide) rfl (da_cons (de_val (pv 5)) (da_cons (de_val (pv 7)) da_nil))) da_nil))) da_nil)))))))

abbrev s_lead : Stmt := top 40
theorem sc_lead : FnScope n_lead ["matrix", "corner"] (defScope s_lead) := ⟨rfl, rfl, rfl, by decide +kernel, rfl, by decide +kernel, by decide +kernel⟩
theorem D_lead {f : Addr} {fd : FuncData} (F : FunD K "lead" "lead" (defArgs s_lead) (defBody s_lead) (defScope s_lead) [] [] f fd) (hm : mg "lead" = some (.ref f)) (T : Tx K mg) (H_lead_step : Fn P w K mg base "lead_step" 3 2 F_lead_step) (H_plus : Fn P w K mg base "plus" 2 2 F_plus) : Fn P w K mg base "lead" 4 2 F_lead := by
  refine ⟨f, fd, ["matrix", "corner"], fn_mkB (N := n_lead) (n := 2) (k := 3) (g := b_lead) F sc_lead rfl (by decide) (fun cdv A outer s H E c W b => ?_), hm, F.kp, F.bindsN fun _ _ _ _ _ _ us hl => match us, hl with | [_, _], _ => rfl⟩
  exact (ds_cons (ds_unp (de_fn b.toBx H_lead_step (by decide) rfl (da_cons (de_val (pv 0)) (da_cons (de_val (pv 1)) da_nil))) (dg_tup b.calm (dgs_cons (dg_name (i := 2) sc_lead.nd rfl (by first | exact Or.inl rfl | exact Or.inr rfl)) (dgs_cons (dg_name (i := 3) sc_lead.nd rfl (by first | exact Or.inl rfl | exact Or.inr rfl)) dgs_nil))))
 (ds_one (ds_ret (de_tup (da_cons (de_fn b.toBx H_plus (by decide) rfl (da_cons (de_val (pv 2)) (da_cons (de_idx (de_var (pv 0)) (de_c pe_int fun _ => .int _)) da_nil))) (da_cons (de_fn b.toBx H_plus (by decide) rfl (da_cons (de_val (pv 3)) (da_cons (de_idx (de_var (pv 0)) (de_c pe_int fun _ => .int _)) da_nil))) da_nil))))))

abbrev s_after : Stmt := top 41
theorem sc_after : FnScope n_after ["first", "second"] (defScope s_after) := ⟨rfl, rfl, rfl, by decide +kernel, rfl, by decide +kernel, by decide +kernel⟩
theorem D_after {f : Addr} {fd : FuncData} (F : FunD K "after" "after" (defArgs s_after) (defBody s_after) (defScope s_after) [] [] f fd) (hm : mg "after" = some (.ref f)) (T : Tx K mg) (H_lead_step : Fn P w K mg base "lead_step" 3 2 F_lead_step) (H_lead : Fn P w K mg base "lead" 4 2 F_lead) : Fn P w K mg base "after" 5 2 F_after := by
  refine ⟨f, fd, ["first", "second"], fn_mkB (N := n_after) (n := 2) (k := 4) (g := b_after) F sc_after rfl (by decide) (fun cdv A outer s H E c W b => ?_), hm, F.kp, F.bindsN fun _ _ _ _ _ _ us hl => match us, hl with | [_, _], _ => rfl⟩
  exact (ds_cons (ds_asg (i := 2) sc_after.nd rfl (by first | exact Or.inl rfl | exact Or.inr rfl) (de_fn b.toBx H_lead_step (by decide) rfl (da_cons (de_val (pv 1)) (da_cons (de_slice (de_var (pv 0)) do_none (do_some (de_c pe_int fun _ => .int _))) da_nil))))
 (ds_cons (ds_asg (i := 3) sc_after.nd rfl (by first | exact Or.inl rfl | exact Or.inr rfl) (de_fn b.toBx H_lead_step (by decide) rfl (da_cons (de_val (pv 1)) (da_cons (de_slice (de_var (pv 0)) (do_some (de_c pe_int fun _ => .int _)) (do_some (de_c pe_int fun _ => .int _))) da_nil))))
 (ds_one (ds_ret (de_bin op_addAll ok_add (de_bin op_addAll ok_add (de_var (pv 2)) (de_var (pv 3))) (de_fn b.toBx H_lead (by decide) rfl (da_cons (de_val (pv 1)) (da_cons (de_slice (de_var (pv 0)) (do_some (de_c pe_int fun _ => .int _)) do_none) da_nil))))))))

abbrev s_determinant : Stmt := top 42
theorem sc_determinant : FnScope n_determinant ["matrix"] (defScope s_determinant) := ⟨rfl, rfl, rfl, by decide +kernel, rfl, by decide +kernel, by decide +kernel⟩
theorem D_determinant {f : Addr} {fd : FuncData} (F : FunD K "determinant" "determinant" (defArgs s_determinant) (defBody s_determinant) (defScope s_determinant) [] [] f fd) (hm : mg "determinant" = some (.ref f)) (T : Tx K mg) (H_minus : Fn P w K mg base "minus" 2 2 F_minus) (H_times : Fn P w K mg base "times" 2 2 F_times) : Fn P w K mg base "determinant" 3 1 F_determinant := by
  refine ⟨f, fd, ["matrix"], fn_mkB (N := n_determinant) (n := 1) (k := 2) (g := b_determinant) F sc_determinant rfl (by decide) (fun cdv A outer s H E c W b => ?_), hm, F.kp, F.bindsN fun _ _ _ _ _ _ us hl => match us, hl with | [_], _ => rfl⟩
  exact (ds_cons (ds_unp (de_slice (de_var (pv 0)) do_none (do_some (de_c pe_int fun _ => .int _))) (dg_tup b.calm (dgs_cons (dg_name (i := 1) sc_determinant.nd rfl (by first | exact Or.inl rfl | exact Or.inr rfl)) (dgs_cons (dg_name (i := 2) sc_determinant.nd rfl (by first | exact Or.inl rfl | exact Or.inr rfl)) (dgs_cons (dg_name (i := 3) sc_determinant.nd rfl (by first | exact Or.inl rfl | exact Or.inr rfl)) (dgs_cons (dg_name (i := 4) sc_determinant.nd rfl (by first | exact Or.inl rfl | exact Or.inr rfl)) dgs_nil))))))
 (ds_one (ds_ret (de_fn b.toBx H_minus (by decide) rfl (da_cons (de_fn b.toBx H_times (by decide) rfl (da_cons (de_val (pv 1)) (da_cons (de_val (pv 4)) da_nil))) (da_cons (de_fn b.toBx H_times (by decide) rfl (da_cons (de_val (pv 2)) (da_cons (de_val (pv 3)) da_nil))) da_nil))))))

abbrev s_back : Stmt := top 43
theorem sc_back : FnScope n_back ["matrix"] (defScope s_back) := ⟨rfl, rfl, rfl, by decide +kernel, rfl, by decide +kernel, by decide +kernel⟩
theorem D_back {f : Addr} {fd : FuncData} (F : FunD K "back" "back" (defArgs s_back) (defBody s_back) (defScope s_back) [] [] f fd) (hm : mg "back" = some (.ref f)) (T : Tx K mg) (H_determinant : Fn P w K mg base "determinant" 3 1 F_determinant) (H_moves : Fn P w K mg base "moves" 1 1 F_moves) (H_over : Fn P w K mg base "over" 2 2 F_over) (H_lead_step : Fn P w K mg base "lead_step" 3 2 F_lead_step) (H_minus : Fn P w K mg base "minus" 2 2 F_minus) : Fn P w K mg base "back" 4 1 F_back := by
  refine ⟨f, fd, ["matrix"], fn_mkB (N := n_back) (n := 1) (k := 3) (g := b_back) F sc_back rfl (by decide) (fun cdv A outer s H E c W b => ?_), hm, F.kp, F.bindsN fun _ _ _ _ _ _ us hl => match us, hl with | [_], _ => rfl⟩
  exact (ds_cons (ds_unp (de_val (pv 0)) (dg_tup b.calm (dgs_cons (dg_name (i := 1) sc_back.nd rfl (by first | exact Or.inl rfl | exact Or.inr rfl)) (dgs_cons (dg_name (i := 2) sc_back.nd rfl (by first | exact Or.inl rfl | exact Or.inr rfl)) (dgs_cons (dg_name (i := 3) sc_back.nd rfl (by first | exact Or.inl rfl | exact Or.inr rfl)) (dgs_cons (dg_name (i := 4) sc_back.nd rfl (by first | exact Or.inl rfl | exact Or.inr rfl)) (dgs_cons (dg_name (i := 5) sc_back.nd rfl (by first | exact Or.inl rfl | exact Or.inr rfl)) (dgs_cons (dg_name (i := 6) sc_back.nd rfl (by first | exact Or.inl rfl | exact Or.inr rfl)) dgs_nil))))))))
 (ds_cons (ds_if (PW.pt (dw_or (dt_tru (de_fn b.toBx H_moves (by decide) rfl (da_cons (de_val (pv 1)) da_nil))) (dw_or (dt_tru (de_fn b.toBx H_moves (by decide) rfl (da_cons (de_val (pv 2)) da_nil))) (dw_or (dt_tru (de_fn b.toBx H_moves (by decide) rfl (da_cons (de_val (pv 3)) da_nil))) (dw_or1 (dt_tru (de_fn b.toBx H_moves (by decide) rfl (da_cons (de_val (pv 4)) da_nil))))))))
 (ds_one (ds_raise0 b.toBx T.x_Moving rfl))
 ds_nil)
 (ds_cons (ds_asg (i := 7) sc_back.nd rfl (by first | exact Or.inl rfl | exact Or.inr rfl) (de_fn b.toBx H_determinant (by decide) rfl (da_cons (de_val (pv 0)) da_nil)))
 (ds_cons (ds_if (dt_cmp (op_eqAll b.room.units) ok_eq (de_var (pv 7)) (de_c (pe_glob (v := .ref _) rfl T.g_ZERO rfl) T.c_ZERO) (nomark _))
 (ds_one (ds_raise0 b.toBx T.x_Flat rfl))
 ds_nil)
 (ds_cons (ds_asg (i := 8) sc_back.nd rfl (by first | exact Or.inl rfl | exact Or.inr rfl) (de_tup (da_cons (de_fn b.toBx H_over (by decide) rfl (da_cons (de_val (pv 4)) (da_cons (de_val (pv 7)) da_nil))) (da_cons (de_fn b.toBx H_over (by decide) rfl (da_cons (de_fn b.toBx H_minus (by decide) rfl (da_cons (de_c (pe_glob (v := .ref _) rfl T.g_ZERO rfl) T.c_ZERO) (da_cons (de_val (pv 2)) da_nil))) (da_cons (de_val (pv 7)) da_nil))) (da_cons (de_fn b.toBx H_over (by decide) rfl (da_cons (de_fn b.toBx H_minus (by decide) rfl (da_cons (de_c (pe_glob (v := .ref _) rfl T.g_ZERO rfl) T.c_ZERO) (da_cons (de_val (pv 3)) da_nil))) (da_cons (de_val (pv 7)) da_nil))) (da_cons (de_fn b.toBx H_over (by decide) rfl (da_cons (de_val (pv 1)) (da_cons (de_val (pv 7)) da_nil))) da_nil))))))
 (ds_one (ds_ret (de_bin op_addAll ok_add (de_var (pv 8)) (de_fn b.toBx H_lead_step (by decide) rfl (da_cons (de_val (pv 8)) (da_cons (de_tup (da_cons (de_fn b.toBx H_minus (by decide) rfl (da_cons (de_c (pe_glob (v := .ref _) rfl T.g_ZERO rfl) T.c_ZERO) (da_cons (de_val (pv 5)) da_nil))) (da_cons (de_fn b.toBx H_minus (by decide) rfl (da_cons (de_c (pe_glob (v := .ref _) rfl T.g_ZERO rfl) T.c_ZERO) (da_cons (de_val (pv 6)) da_nil))) da_nil))) da_nil)))))))))))

abbrev s__law_gcd : Stmt := top 45
theorem sc__law_gcd : FnScope n__law_gcd ["a", "b"] (defScope s__law_gcd) := ⟨rfl, rfl, rfl, by decide +kernel, rfl, by decide +kernel, by decide +kernel⟩
theorem D__law_gcd {f : Addr} {fd : FuncData} (F : FunD K "_law_gcd" "_law_gcd" (defArgs s__law_gcd) (defBody s__law_gcd) (defScope s__law_gcd) [] [] f fd) (hm : mg "_law_gcd" = some (.ref f)) (T : Tx K mg) : Fn P w K mg base "_law_gcd" 1 2 F__law_gcd := by
  refine ⟨f, fd, ["a", "b"], fn_mkB (N := n__law_gcd) (n := 2) (k := 0) (g := b__law_gcd) F sc__law_gcd rfl (by decide) (fun cdv A outer s H E c W b => ?_), hm, F.kp, F.bindsN fun _ _ _ _ _ _ us hl => match us, hl with | [_, _], _ => rfl⟩
  exact (ds_cons (ds_asg (i := 0) sc__law_gcd.nd rfl (by first | exact Or.inl rfl | exact Or.inr rfl) (de_blt call_abs ok_abs rfl T.b_abs (by decide +kernel) (da_cons (de_var (pv 0)) da_nil)))
 (ds_cons (ds_asg (i := 1) sc__law_gcd.nd rfl (by first | exact Or.inl rfl | exact Or.inr rfl) (de_blt call_abs ok_abs rfl T.b_abs (by decide +kernel) (da_cons (de_var (pv 1)) da_nil)))
 (ds_cons (ds_for b.po b.calm (di_range1 rfl T.b_range (da_cons (de_c pe_int fun _ => .int _) da_nil)) (dg_name (i := 2) sc__law_gcd.nd rfl (by first | exact Or.inl rfl | exact Or.inr rfl))
 (ds_cons (ds_if (dt_cmp (op_eqAll b.room.units) ok_eq (de_var (pv 1)) (de_c pe_int fun _ => .int _) (nomark _))
 (ds_one ds_break)
 ds_nil)
 (ds_one (ds_par (i := 0) (j := 1) b.calm sc__law_gcd.nd rfl rfl (by decide) rfl rfl (da_cons (de_val (pv 1)) (da_cons (de_bin op_modN ok_mod (de_bltTy call_int1 ok_toInt rfl T.b_int (by decide +kernel) (da_cons (de_var (pv 0)) da_nil)) (de_var (pv 1))) da_nil)) (by rfl)))))
 (ds_one (ds_ret (de_val (pv 0)))))))

abbrev s__law_row : Stmt := top 46
theorem sc__law_row : FnScope n__law_row ["script"] (defScope s__law_row) := ⟨rfl, rfl, rfl, by decide +kernel, rfl, by decide +kernel, by decide +kernel⟩
theorem D__law_row {f : Addr} {fd : FuncData} (F : FunD K "_law_row" "_law_row" (defArgs s__law_row) (defBody s__law_row) (defScope s__law_row) [] [] f fd) (hm : mg "_law_row" = some (.ref f)) (T : Tx K mg) : Fn P w K mg base "_law_row" 1 1 F__law_row := by
  refine ⟨f, fd, ["script"], fn_mkB (N := n__law_row) (n := 1) (k := 0) (g := b__law_row) F sc__law_row rfl (by decide) (fun cdv A outer s H E c W b => ?_), hm, F.kp, F.bindsN fun _ _ _ _ _ _ us hl => match us, hl with | [_], _ => rfl⟩
  exact (ds_cons (ds_asgF (i := 1) sc__law_row.nd rfl (by first | exact Or.inl rfl | exact Or.inr rfl) (de_lstF da_nil))
 (ds_cons (ds_for b.po b.calm (di_seq (de_slice (de_var (pv 0)) do_none (do_some (de_c pe_int fun _ => .int _)))) (dg_name (i := 2) sc__law_row.nd rfl (by first | exact Or.inl rfl | exact Or.inr rfl))
 (ds_cons (ds_asg (i := 3) sc__law_row.nd rfl (by first | exact Or.inl rfl | exact Or.inr rfl) (de_blt call_abs ok_abs rfl T.b_abs (by decide +kernel) (da_cons (de_bltTy call_int1 ok_toInt rfl T.b_int (by decide +kernel) (da_cons (de_var (pv 2)) da_nil)) da_nil)))
 (ds_one (ds_for b.po b.calm (di_range1 rfl T.b_range (da_cons (de_c pe_int fun _ => .int _) da_nil)) (dg_name (i := 4) sc__law_row.nd rfl (by first | exact Or.inl rfl | exact Or.inr rfl))
 (ds_cons (ds_app (de_var (pv 1)) (de_bin op_modN ok_mod (de_bltTy call_int1 ok_toInt rfl T.b_int (by decide +kernel) (da_cons (de_var (pv 3)) da_nil)) (de_c pe_int fun _ => .int _)))
 (ds_cons (ds_asg (i := 3) sc__law_row.nd rfl (by first | exact Or.inl rfl | exact Or.inr rfl) (de_bin op_fdivA ok_div (de_var (pv 3)) (de_c pe_int fun _ => .int _)))
 (ds_one (ds_if (dt_cmp (op_eqAll b.room.units) ok_eq (de_var (pv 3)) (de_c pe_int fun _ => .int _) (nomark _))
 (ds_one ds_break)
 ds_nil))))))))
 (ds_one (ds_ret (de_val (pv 1))))))

abbrev s__law_next : Stmt := top 47
theorem sc__law_next : FnScope n__law_next ["tape", "many"] (defScope s__law_next) := ⟨rfl, rfl, rfl, by decide +kernel, rfl, by decide +kernel, by decide +kernel⟩
theorem D__law_next {f : Addr} {fd : FuncData} (F : FunD K "_law_next" "_law_next" (defArgs s__law_next) (defBody s__law_next) (defScope s__law_next) [] [] f fd) (hm : mg "_law_next" = some (.ref f)) (T : Tx K mg) : Fn P w K mg base "_law_next" 1 2 F__law_next := by
  refine ⟨f, fd, ["tape", "many"], fn_mkB (N := n__law_next) (n := 2) (k := 0) (g := b__law_next) F sc__law_next rfl (by decide) (fun cdv A outer s H E c W b => ?_), hm, F.kp, F.bindsN fun _ _ _ _ _ _ us hl => match us, hl with | [_, _], _ => rfl⟩
  exact (ds_cons (ds_asg (i := 2) sc__law_next.nd rfl (by first | exact Or.inl rfl | exact Or.inr rfl) (de_idx (de_var (pv 0)) (de_c pe_int fun _ => .int _)))
 (ds_cons (ds_sub (de_var (pv 0)) (de_c pe_int fun _ => .int _) (de_bin op_addAll ok_add (de_var (pv 2)) (de_c pe_int fun _ => .int _)))
 (ds_cons (ds_asg (i := 3) sc__law_next.nd rfl (by first | exact Or.inl rfl | exact Or.inr rfl) (de_idx (de_var (pv 0)) (de_c pe_int fun _ => .int _)))
 (ds_cons (ds_if (dt_cmp (op_eqAll b.room.units) ok_eq (de_blt call_len ok_len rfl T.b_len (by decide +kernel) (da_cons (de_var (pv 3)) da_nil)) (de_c pe_int fun _ => .int _) (nomark _))
 (ds_one (ds_ret (de_bin op_modN ok_mod (de_bltTy call_int1 ok_toInt rfl T.b_int (by decide +kernel) (da_cons (de_bin op_addAll ok_add (de_bin op_mulW ok_mulI (de_var (pv 2)) (de_c pe_int fun _ => .int _)) (de_bin op_fdivA ok_div (de_var (pv 2)) (de_c pe_int fun _ => .int _))) da_nil)) (de_var (pv 1)))))
 ds_nil)
 (ds_cons (ds_asg (i := 4) sc__law_next.nd rfl (by first | exact Or.inl rfl | exact Or.inr rfl) (de_bin op_mulW ok_mulI (de_bin op_fdivA ok_div (de_var (pv 2)) (de_blt call_len ok_len rfl T.b_len (by decide +kernel) (da_cons (de_var (pv 3)) da_nil))) (de_c pe_int fun _ => .int _)))
 (ds_one (ds_ret (de_bin op_modN ok_mod (de_bltTy call_int1 ok_toInt rfl T.b_int (by decide +kernel) (da_cons (de_bin op_addAll ok_add (de_idx (de_var (pv 3)) (de_bin op_modN ok_mod (de_bltTy call_int1 ok_toInt rfl T.b_int (by decide +kernel) (da_cons (de_var (pv 2)) da_nil)) (de_blt call_len ok_len rfl T.b_len (by decide +kernel) (da_cons (de_var (pv 3)) da_nil)))) (de_var (pv 4))) da_nil)) (de_var (pv 1))))))))))

abbrev s__law_form : Stmt := top 48
theorem sc__law_form : FnScope n__law_form ["a", "b", "w"] (defScope s__law_form) := ⟨rfl, rfl, rfl, by decide +kernel, rfl, by decide +kernel, by decide +kernel⟩
theorem D__law_form {f : Addr} {fd : FuncData} (F : FunD K "_law_form" "_law_form" (defArgs s__law_form) (defBody s__law_form) (defScope s__law_form) [] [] f fd) (hm : mg "_law_form" = some (.ref f)) (T : Tx K mg) (H__law_gcd : Fn P w K mg base "_law_gcd" 1 2 F__law_gcd) : Fn P w K mg base "_law_form" 2 3 F__law_form := by
  refine ⟨f, fd, ["a", "b", "w"], fn_mkB (N := n__law_form) (n := 3) (k := 1) (g := b__law_form) F sc__law_form rfl (by decide) (fun cdv A outer s H E c W b => ?_), hm, F.kp, F.bindsN fun _ _ _ _ _ _ us hl => match us, hl with | [_, _, _], _ => rfl⟩
  exact (ds_cons (ds_asg (i := 3) sc__law_form.nd rfl (by first | exact Or.inl rfl | exact Or.inr rfl) (de_fn b.toBx H__law_gcd (by decide) rfl (da_cons (de_fn b.toBx H__law_gcd (by decide) rfl (da_cons (de_val (pv 0)) (da_cons (de_val (pv 1)) da_nil))) (da_cons (de_val (pv 2)) da_nil))))
 (ds_one (ds_ret (de_tup (da_cons (de_bin op_fdivA ok_div (de_var (pv 0)) (de_var (pv 3))) (da_cons (de_bin op_fdivA ok_div (de_var (pv 1)) (de_var (pv 3))) (da_cons (de_bin op_fdivA ok_div (de_var (pv 2)) (de_var (pv 3))) da_nil)))))))

abbrev s__law_entry : Stmt := top 49
theorem sc__law_entry : FnScope n__law_entry ["tape", "great"] (defScope s__law_entry) := ⟨rfl, rfl, rfl, by decide +kernel, rfl, by decide +kernel, by decide +kernel⟩
theorem D__law_entry {f : Addr} {fd : FuncData} (F : FunD K "_law_entry" "_law_entry" (defArgs s__law_entry) (defBody s__law_entry) (defScope s__law_entry) [] [] f fd) (hm : mg "_law_entry" = some (.ref f)) (T : Tx K mg) (H__law_form : Fn P w K mg base "_law_form" 2 3 F__law_form) (H__law_next : Fn P w K mg base "_law_next" 1 2 F__law_next) : Fn P w K mg base "_law_entry" 3 2 F__law_entry := by
  refine ⟨f, fd, ["tape", "great"], fn_mkB (N := n__law_entry) (n := 2) (k := 2) (g := b__law_entry) F sc__law_entry rfl (by decide) (fun cdv A outer s H E c W b => ?_), hm, F.kp, F.bindsN fun _ _ _ _ _ _ us hl => match us, hl with | [_, _], _ => rfl⟩
  exact (ds_cons (ds_asg (i := 2) sc__law_entry.nd rfl (by first | exact Or.inl rfl | exact Or.inr rfl) (de_bin op_sub ok_sub (de_fn b.toBx H__law_next (by decide) rfl (da_cons (de_var (pv 0)) (da_cons (de_c pe_int fun _ => .int _) da_nil))) (de_c pe_int fun _ => .int _)))
 (ds_cons (ds_if (dt_cmp (op_eqAll b.room.units) ok_eq (de_var (pv 1)) (de_c pe_int fun _ => .int _) (nomark _))
 (ds_one (ds_for b.po b.calm (di_range1 rfl T.b_range (da_cons (de_c pe_int fun _ => .int _) da_nil)) (dg_name (i := 3) sc__law_entry.nd rfl (by first | exact Or.inl rfl | exact Or.inr rfl))
 (ds_one (ds_asg (i := 2) sc__law_entry.nd rfl (by first | exact Or.inl rfl | exact Or.inr rfl) (de_bin op_addAll ok_add (de_bin op_mulW ok_mulI (de_var (pv 2)) (de_c pe_int fun _ => .int _)) (de_fn b.toBx H__law_next (by decide) rfl (da_cons (de_var (pv 0)) (da_cons (de_c pe_int fun _ => .int _) da_nil))))))))
 ds_nil)
 (ds_one (ds_ret (de_fn b.toBx H__law_form (by decide) rfl (da_cons (de_val (pv 2)) (da_cons (de_c pe_int fun _ => .int _) (da_cons (de_bin op_addAll ok_add (de_c pe_int fun _ => .int _) (de_fn b.toBx H__law_next (by decide) rfl (da_cons (de_var (pv 0)) (da_cons (de_c pe_int fun _ => .int _) da_nil)))) da_nil))))))))

abbrev s__law_mover : Stmt := top 50
theorem sc__law_mover : FnScope n__law_mover ["tape"] (defScope s__law_mover) := ⟨rfl, rfl, rfl, by decide +kernel, rfl, by decide +kernel, by decide +kernel⟩
theorem D__law_mover {f : Addr} {fd : FuncData} (F : FunD K "_law_mover" "_law_mover" (defArgs s__law_mover) (defBody s__law_mover) (defScope s__law_mover) [] [] f fd) (hm : mg "_law_mover" = some (.ref f)) (T : Tx K mg) (H__law_form : Fn P w K mg base "_law_form" 2 3 F__law_form) (H__law_next : Fn P w K mg base "_law_next" 1 2 F__law_next) : Fn P w K mg base "_law_mover" 3 1 F__law_mover := by
  refine ⟨f, fd, ["tape"], fn_mkB (N := n__law_mover) (n := 1) (k := 2) (g := b__law_mover) F sc__law_mover rfl (by decide) (fun cdv A outer s H E c W b => ?_), hm, F.kp, F.bindsN fun _ _ _ _ _ _ us hl => match us, hl with | [_], _ => rfl⟩
  exact (ds_cons (ds_asg (i := 1) sc__law_mover.nd rfl (by first | exact Or.inl rfl | exact Or.inr rfl) (de_bin op_sub ok_sub (de_fn b.toBx H__law_next (by decide) rfl (da_cons (de_var (pv 0)) (da_cons (de_c pe_int fun _ => .int _) da_nil))) (de_c pe_int fun _ => .int _)))
 (ds_cons (ds_asg (i := 2) sc__law_mover.nd rfl (by first | exact Or.inl rfl | exact Or.inr rfl) (de_bin op_addAll ok_add (de_c pe_int fun _ => .int _) (de_fn b.toBx H__law_next (by decide) rfl (da_cons (de_var (pv 0)) (da_cons (de_c pe_int fun _ => .int _) da_nil)))))
 (ds_cons (ds_if (dt_cmp (op_eqAll b.room.units) ok_eq (de_fn b.toBx H__law_next (by decide) rfl (da_cons (de_var (pv 0)) (da_cons (de_c pe_int fun _ => .int _) da_nil))) (de_c pe_int fun _ => .int _) (nomark _))
 (ds_one (ds_asg (i := 2) sc__law_mover.nd rfl (by first | exact Or.inl rfl | exact Or.inr rfl) (de_neg (de_var (pv 2)))))
 ds_nil)
 (ds_one (ds_ret (de_fn b.toBx H__law_form (by decide) rfl (da_cons (de_val (pv 1)) (da_cons (de_val (pv 2)) (da_cons (de_bin op_addAll ok_add (de_c pe_int fun _ => .int _) (de_fn b.toBx H__law_next (by decide) rfl (da_cons (de_var (pv 0)) (da_cons (de_c pe_int fun _ => .int _) da_nil)))) da_nil)))))))))

abbrev s__law_corner : Stmt := top 51
theorem sc__law_corner : FnScope n__law_corner ["tape", "great"] (defScope s__law_corner) := ⟨rfl, rfl, rfl, by decide +kernel, rfl, by decide +kernel, by decide +kernel⟩
theorem D__law_corner {f : Addr} {fd : FuncData} (F : FunD K "_law_corner" "_law_corner" (defArgs s__law_corner) (defBody s__law_corner) (defScope s__law_corner) [] [] f fd) (hm : mg "_law_corner" = some (.ref f)) (T : Tx K mg) (H__law_next : Fn P w K mg base "_law_next" 1 2 F__law_next) (H__law_mover : Fn P w K mg base "_law_mover" 3 1 F__law_mover) (H__law_entry : Fn P w K mg base "_law_entry" 3 2 F__law_entry) : Fn P w K mg base "_law_corner" 4 2 F__law_corner := by
  refine ⟨f, fd, ["tape", "great"], fn_mkB (N := n__law_corner) (n := 2) (k := 3) (g := b__law_corner) F sc__law_corner rfl (by decide) (fun cdv A outer s H E c W b => ?_), hm, F.kp, F.bindsN fun _ _ _ _ _ _ us hl => match us, hl with | [_, _], _ => rfl⟩
  exact (ds_cons (ds_asgF (i := 2) sc__law_corner.nd rfl (by first | exact Or.inl rfl | exact Or.inr rfl) (de_lstF da_nil))
 (ds_cons (ds_for b.po b.calm (di_range1 rfl T.b_range (da_cons (de_c pe_int fun _ => .int _) da_nil)) (dg_name (i := 3) sc__law_corner.nd rfl (by first | exact Or.inl rfl | exact Or.inr rfl))
 (ds_one (ds_if (dt_cmp (op_eqAll b.room.units) ok_eq (de_fn b.toBx H__law_next (by decide) rfl (da_cons (de_var (pv 0)) (da_cons (de_c pe_int fun _ => .int _) da_nil))) (de_c pe_int fun _ => .int _) (nomark _))
 (ds_one (ds_app (de_var (pv 2)) (de_fn b.toBx H__law_mover (by decide) rfl (da_cons (de_var (pv 0)) da_nil))))
 (ds_one (ds_app (de_var (pv 2)) (de_fn b.toBx H__law_entry (by decide) rfl (da_cons (de_var (pv 0)) (da_cons (de_val (pv 1)) da_nil))))))))
 (ds_one (ds_ret (de_tup (da_cons (de_idx (de_var (pv 2)) (de_c pe_int fun _ => .int _)) (da_cons (de_idx (de_var (pv 2)) (de_c pe_int fun _ => .int _)) da_nil)))))))

abbrev s__law_int : Stmt := top 52
theorem sc__law_int : FnScope n__law_int ["x"] (defScope s__law_int) := ⟨rfl, rfl, rfl, by decide +kernel, rfl, by decide +kernel, by decide +kernel⟩
theorem D__law_int {f : Addr} {fd : FuncData} (F : FunD K "_law_int" "_law_int" (defArgs s__law_int) (defBody s__law_int) (defScope s__law_int) [] [] f fd) (hm : mg "_law_int" = some (.ref f)) (T : Tx K mg) : Fn P w K mg base "_law_int" 1 1 F__law_int := by
  refine ⟨f, fd, ["x"], fn_mkB (N := n__law_int) (n := 1) (k := 0) (g := b__law_int) F sc__law_int rfl (by decide) (fun cdv A outer s H E c W b => ?_), hm, F.kp, F.bindsN fun _ _ _ _ _ _ us hl => match us, hl with | [_], _ => rfl⟩
  exact (ds_one (ds_ret (de_and (de_blt call_isi ok_isi rfl T.b_isinstance (by decide +kernel) (da_cons (de_var (pv 0)) (da_cons (de_c (pe_bltn (v := .ty "int") rfl T.b_int (by decide +kernel) rfl) fun _ => .ty _) da_nil))) (de_one (de_not (de_blt call_isi ok_isi rfl T.b_isinstance (by decide +kernel) (da_cons (de_var (pv 0)) (da_cons (de_c (pe_bltn (v := .ty "bool") rfl T.b_bool (by decide +kernel) rfl) fun _ => .ty _) da_nil))))))))

abbrev s__law_formed : Stmt := top 53
theorem sc__law_formed : FnScope n__law_formed ["told"] (defScope s__law_formed) := ⟨rfl, rfl, rfl, by decide +kernel, rfl, by decide +kernel, by decide +kernel⟩
theorem D__law_formed {f : Addr} {fd : FuncData} (F : FunD K "_law_formed" "_law_formed" (defArgs s__law_formed) (defBody s__law_formed) (defScope s__law_formed) [] [] f fd) (hm : mg "_law_formed" = some (.ref f)) (T : Tx K mg) (H__law_int : Fn P w K mg base "_law_int" 1 1 F__law_int) (H__law_gcd : Fn P w K mg base "_law_gcd" 1 2 F__law_gcd) : Fn P w K mg base "_law_formed" 2 1 F__law_formed := by
  refine ⟨f, fd, ["told"], fn_mkB (N := n__law_formed) (n := 1) (k := 1) (g := b__law_formed) F sc__law_formed rfl (by decide) (fun cdv A outer s H E c W b => ?_), hm, F.kp, F.bindsN fun _ _ _ _ _ _ us hl => match us, hl with | [_], _ => rfl⟩
  exact (ds_cons (ds_if (PW.pt (dw_or (dt_not (dt_tru (de_blt call_isi ok_isi rfl T.b_isinstance (by decide +kernel) (da_cons (de_var (pv 0)) (da_cons (de_c (pe_bltn (v := .ty "tuple") rfl T.b_tuple (by decide +kernel) rfl) fun _ => .ty _) da_nil))))) (dw_or1 (dt_cmp (op_neAll b.room.units) ok_ne (de_blt call_len ok_len rfl T.b_len (by decide +kernel) (da_cons (de_var (pv 0)) da_nil)) (de_c pe_int fun _ => .int _) (nomark _)))))
 (ds_one (ds_ret (de_c pe_bl fun _ => .bl _)))
 ds_nil)
 (ds_cons (ds_for b.po b.calm (di_seq (de_val (pv 0))) (dg_name (i := 1) sc__law_formed.nd rfl (by first | exact Or.inl rfl | exact Or.inr rfl))
 (ds_one (ds_if (dt_not (dt_tru (de_fn b.toBx H__law_int (by decide) rfl (da_cons (de_val (pv 1)) da_nil))))
 (ds_one (ds_ret (de_c pe_bl fun _ => .bl _)))
 ds_nil)))
 (ds_one (ds_ret (de_and (de_cmp op_ge ok_ge (de_idx (de_var (pv 0)) (de_c pe_int fun _ => .int _)) (de_c pe_int fun _ => .int _) (nomark _)) (de_one (de_cmp (op_eqAll b.room.units) ok_eq (de_fn b.toBx H__law_gcd (by decide) rfl (da_cons (de_fn b.toBx H__law_gcd (by decide) rfl (da_cons (de_idx (de_var (pv 0)) (de_c pe_int fun _ => .int _)) (da_cons (de_idx (de_var (pv 0)) (de_c pe_int fun _ => .int _)) da_nil))) (da_cons (de_idx (de_var (pv 0)) (de_c pe_int fun _ => .int _)) da_nil))) (de_c pe_int fun _ => .int _) (nomark _))))))))

abbrev s__law_is : Stmt := top 54
theorem sc__law_is : FnScope n__law_is ["told", "due"] (defScope s__law_is) := ⟨rfl, rfl, rfl, by decide +kernel, rfl, by decide +kernel, by decide +kernel⟩
theorem D__law_is {f : Addr} {fd : FuncData} (F : FunD K "_law_is" "_law_is" (defArgs s__law_is) (defBody s__law_is) (defScope s__law_is) [] [] f fd) (hm : mg "_law_is" = some (.ref f)) (T : Tx K mg) (H__law_formed : Fn P w K mg base "_law_formed" 2 1 F__law_formed) : Fn P w K mg base "_law_is" 3 2 F__law_is := by
  refine ⟨f, fd, ["told", "due"], fn_mkB (N := n__law_is) (n := 2) (k := 2) (g := b__law_is) F sc__law_is rfl (by decide) (fun cdv A outer s H E c W b => ?_), hm, F.kp, F.bindsN fun _ _ _ _ _ _ us hl => match us, hl with | [_, _], _ => rfl⟩
  exact (ds_cons (ds_if (PW.pt (dw_or (dt_not (dt_tru (de_fn b.toBx H__law_formed (by decide) rfl (da_cons (de_val (pv 0)) da_nil)))) (dw_or1 (dt_cmp (op_neAll b.room.units) ok_ne (de_bin op_mulW ok_mulI (de_idx (de_var (pv 0)) (de_c pe_int fun _ => .int _)) (de_idx (de_var (pv 1)) (de_c pe_int fun _ => .int _))) (de_bin op_mulW ok_mulI (de_idx (de_var (pv 1)) (de_c pe_int fun _ => .int _)) (de_idx (de_var (pv 0)) (de_c pe_int fun _ => .int _))) (nomark _)))))
 (ds_one (ds_ret (de_c pe_bl fun _ => .bl _)))
 ds_nil)
 (ds_one (ds_ret (de_cmp (op_eqAll b.room.units) ok_eq (de_bin op_mulW ok_mulI (de_idx (de_var (pv 0)) (de_c pe_int fun _ => .int _)) (de_idx (de_var (pv 1)) (de_c pe_int fun _ => .int _))) (de_bin op_mulW ok_mulI (de_idx (de_var (pv 1)) (de_c pe_int fun _ => .int _)) (de_idx (de_var (pv 0)) (de_c pe_int fun _ => .int _))) (nomark _)))))

abbrev s__law_all : Stmt := top 55
theorem sc__law_all : FnScope n__law_all ["told", "dues"] (defScope s__law_all) := ⟨rfl, rfl, rfl, by decide +kernel, rfl, by decide +kernel, by decide +kernel⟩
theorem D__law_all {f : Addr} {fd : FuncData} (F : FunD K "_law_all" "_law_all" (defArgs s__law_all) (defBody s__law_all) (defScope s__law_all) [] [] f fd) (hm : mg "_law_all" = some (.ref f)) (T : Tx K mg) (H__law_is : Fn P w K mg base "_law_is" 3 2 F__law_is) : Fn P w K mg base "_law_all" 4 2 F__law_all := by
  refine ⟨f, fd, ["told", "dues"], fn_mkB (N := n__law_all) (n := 2) (k := 3) (g := b__law_all) F sc__law_all rfl (by decide) (fun cdv A outer s H E c W b => ?_), hm, F.kp, F.bindsN fun _ _ _ _ _ _ us hl => match us, hl with | [_, _], _ => rfl⟩
  exact (ds_cons (ds_if (PW.pt (dw_or (dt_not (dt_tru (de_blt call_isi ok_isi rfl T.b_isinstance (by decide +kernel) (da_cons (de_var (pv 0)) (da_cons (de_c (pe_bltn (v := .ty "tuple") rfl T.b_tuple (by decide +kernel) rfl) fun _ => .ty _) da_nil))))) (dw_or1 (dt_cmp (op_neAll b.room.units) ok_ne (de_blt call_len ok_len rfl T.b_len (by decide +kernel) (da_cons (de_var (pv 0)) da_nil)) (de_blt call_len ok_len rfl T.b_len (by decide +kernel) (da_cons (de_var (pv 1)) da_nil)) (nomark _)))))
 (ds_one (ds_ret (de_c pe_bl fun _ => .bl _)))
 ds_nil)
 (ds_cons (ds_for b.po b.calm (di_range1 rfl T.b_range (da_cons (de_blt call_len ok_len rfl T.b_len (by decide +kernel) (da_cons (de_var (pv 1)) da_nil)) da_nil)) (dg_name (i := 2) sc__law_all.nd rfl (by first | exact Or.inl rfl | exact Or.inr rfl))
 (ds_one (ds_if (dt_not (dt_tru (de_fn b.toBx H__law_is (by decide) rfl (da_cons (de_idx (de_var (pv 0)) (de_var (pv 2))) (da_cons (de_idx (de_var (pv 1)) (de_var (pv 2))) da_nil)))))
 (ds_one (ds_ret (de_c pe_bl fun _ => .bl _)))
 ds_nil)))
 (ds_one (ds_ret (de_c pe_bl fun _ => .bl _)))))

abbrev s__law_sum : Stmt := top 56
theorem sc__law_sum : FnScope n__law_sum ["x", "y"] (defScope s__law_sum) := ⟨rfl, rfl, rfl, by decide +kernel, rfl, by decide +kernel, by decide +kernel⟩
theorem D__law_sum {f : Addr} {fd : FuncData} (F : FunD K "_law_sum" "_law_sum" (defArgs s__law_sum) (defBody s__law_sum) (defScope s__law_sum) [] [] f fd) (hm : mg "_law_sum" = some (.ref f)) (T : Tx K mg) : Fn P w K mg base "_law_sum" 1 2 F__law_sum := by
  refine ⟨f, fd, ["x", "y"], fn_mkB (N := n__law_sum) (n := 2) (k := 0) (g := b__law_sum) F sc__law_sum rfl (by decide) (fun cdv A outer s H E c W b => ?_), hm, F.kp, F.bindsN fun _ _ _ _ _ _ us hl => match us, hl with | [_, _], _ => rfl⟩
  exact (ds_cons (ds_asg (i := 2) sc__law_sum.nd rfl (by first | exact Or.inl rfl | exact Or.inr rfl) (de_bin op_addAll ok_add (de_bin op_mulW ok_mulI (de_idx (de_var (pv 0)) (de_c pe_int fun _ => .int _)) (de_idx (de_var (pv 1)) (de_c pe_int fun _ => .int _))) (de_bin op_mulW ok_mulI (de_idx (de_var (pv 1)) (de_c pe_int fun _ => .int _)) (de_idx (de_var (pv 0)) (de_c pe_int fun _ => .int _)))))
 (ds_one (ds_ret (de_tup (da_cons (de_val (pv 2)) (da_cons (de_bin op_addAll ok_add (de_bin op_mulW ok_mulI (de_idx (de_var (pv 0)) (de_c pe_int fun _ => .int _)) (de_idx (de_var (pv 1)) (de_c pe_int fun _ => .int _))) (de_bin op_mulW ok_mulI (de_idx (de_var (pv 1)) (de_c pe_int fun _ => .int _)) (de_idx (de_var (pv 0)) (de_c pe_int fun _ => .int _)))) (da_cons (de_bin op_mulW ok_mulI (de_idx (de_var (pv 0)) (de_c pe_int fun _ => .int _)) (de_idx (de_var (pv 1)) (de_c pe_int fun _ => .int _))) da_nil)))))))

abbrev s__law_product : Stmt := top 57
theorem sc__law_product : FnScope n__law_product ["x", "y"] (defScope s__law_product) := ⟨rfl, rfl, rfl, by decide +kernel, rfl, by decide +kernel, by decide +kernel⟩
theorem D__law_product {f : Addr} {fd : FuncData} (F : FunD K "_law_product" "_law_product" (defArgs s__law_product) (defBody s__law_product) (defScope s__law_product) [] [] f fd) (hm : mg "_law_product" = some (.ref f)) (T : Tx K mg) : Fn P w K mg base "_law_product" 1 2 F__law_product := by
  refine ⟨f, fd, ["x", "y"], fn_mkB (N := n__law_product) (n := 2) (k := 0) (g := b__law_product) F sc__law_product rfl (by decide) (fun cdv A outer s H E c W b => ?_), hm, F.kp, F.bindsN fun _ _ _ _ _ _ us hl => match us, hl with | [_, _], _ => rfl⟩
  exact (ds_one (ds_ret (de_tup (da_cons (de_bin op_mulW ok_mulI (de_idx (de_var (pv 0)) (de_c pe_int fun _ => .int _)) (de_idx (de_var (pv 1)) (de_c pe_int fun _ => .int _))) (da_cons (de_bin op_addAll ok_add (de_bin op_mulW ok_mulI (de_idx (de_var (pv 0)) (de_c pe_int fun _ => .int _)) (de_idx (de_var (pv 1)) (de_c pe_int fun _ => .int _))) (de_bin op_mulW ok_mulI (de_idx (de_var (pv 0)) (de_c pe_int fun _ => .int _)) (de_idx (de_var (pv 1)) (de_c pe_int fun _ => .int _)))) (da_cons (de_bin op_mulW ok_mulI (de_idx (de_var (pv 0)) (de_c pe_int fun _ => .int _)) (de_idx (de_var (pv 1)) (de_c pe_int fun _ => .int _))) da_nil))))))

abbrev s__law_apply : Stmt := top 58
theorem sc__law_apply : FnScope n__law_apply ["m", "x", "y", "shift"] (defScope s__law_apply) := ⟨rfl, rfl, rfl, by decide +kernel, rfl, by decide +kernel, by decide +kernel⟩
theorem D__law_apply {f : Addr} {fd : FuncData} (F : FunD K "_law_apply" "_law_apply" (defArgs s__law_apply) (defBody s__law_apply) (defScope s__law_apply) [] [] f fd) (hm : mg "_law_apply" = some (.ref f)) (T : Tx K mg) (H__law_sum : Fn P w K mg base "_law_sum" 1 2 F__law_sum) (H__law_product : Fn P w K mg base "_law_product" 1 2 F__law_product) : Fn P w K mg base "_law_apply" 2 4 F__law_apply := by
  refine ⟨f, fd, ["m", "x", "y", "shift"], fn_mkB (N := n__law_apply) (n := 4) (k := 1) (g := b__law_apply) F sc__law_apply rfl (by decide) (fun cdv A outer s H E c W b => ?_), hm, F.kp, F.bindsN fun _ _ _ _ _ _ us hl => match us, hl with | [_, _, _, _], _ => rfl⟩
  exact (ds_cons (ds_asg (i := 4) sc__law_apply.nd rfl (by first | exact Or.inl rfl | exact Or.inr rfl) (de_fn b.toBx H__law_sum (by decide) rfl (da_cons (de_fn b.toBx H__law_product (by decide) rfl (da_cons (de_idx (de_var (pv 0)) (de_c pe_int fun _ => .int _)) (da_cons (de_val (pv 1)) da_nil))) (da_cons (de_fn b.toBx H__law_product (by decide) rfl (da_cons (de_idx (de_var (pv 0)) (de_c pe_int fun _ => .int _)) (da_cons (de_val (pv 2)) da_nil))) da_nil))))
 (ds_cons (ds_asg (i := 5) sc__law_apply.nd rfl (by first | exact Or.inl rfl | exact Or.inr rfl) (de_fn b.toBx H__law_sum (by decide) rfl (da_cons (de_fn b.toBx H__law_product (by decide) rfl (da_cons (de_idx (de_var (pv 0)) (de_c pe_int fun _ => .int _)) (da_cons (de_val (pv 1)) da_nil))) (da_cons (de_fn b.toBx H__law_product (by decide) rfl (da_cons (de_idx (de_var (pv 0)) (de_c pe_int fun _ => .int _)) (da_cons (de_val (pv 2)) da_nil))) da_nil))))
 (ds_cons (ds_if (dt_cmp (op_eqAll b.room.units) ok_eq (de_var (pv 3)) (de_c pe_int fun _ => .int _) (nomark _))
 (ds_cons (ds_asg (i := 4) sc__law_apply.nd rfl (by first | exact Or.inl rfl | exact Or.inr rfl) (de_fn b.toBx H__law_sum (by decide) rfl (da_cons (de_val (pv 4)) (da_cons (de_idx (de_var (pv 0)) (de_c pe_int fun _ => .int _)) da_nil))))
 (ds_one (ds_asg (i := 5) sc__law_apply.nd rfl (by first | exact Or.inl rfl | exact Or.inr rfl) (de_fn b.toBx H__law_sum (by decide) rfl (da_cons (de_val (pv 5)) (da_cons (de_idx (de_var (pv 0)) (de_c pe_int fun _ => .int _)) da_nil))))))
 ds_nil)
 (ds_one (ds_ret (de_frz (de_lstF (da_cons (de_val (pv 4)) (da_cons (de_val (pv 5)) da_nil)))))))))

abbrev s__law_after : Stmt := top 59
theorem sc__law_after : FnScope n__law_after ["m", "n"] (defScope s__law_after) := ⟨rfl, rfl, rfl, by decide +kernel, rfl, by decide +kernel, by decide +kernel⟩
theorem D__law_after {f : Addr} {fd : FuncData} (F : FunD K "_law_after" "_law_after" (defArgs s__law_after) (defBody s__law_after) (defScope s__law_after) [] [] f fd) (hm : mg "_law_after" = some (.ref f)) (T : Tx K mg) (H__law_apply : Fn P w K mg base "_law_apply" 2 4 F__law_apply) : Fn P w K mg base "_law_after" 3 2 F__law_after := by
  refine ⟨f, fd, ["m", "n"], fn_mkB (N := n__law_after) (n := 2) (k := 2) (g := b__law_after) F sc__law_after rfl (by decide) (fun cdv A outer s H E c W b => ?_), hm, F.kp, F.bindsN fun _ _ _ _ _ _ us hl => match us, hl with | [_, _], _ => rfl⟩
  exact (ds_cons (ds_asg (i := 2) sc__law_after.nd rfl (by first | exact Or.inl rfl | exact Or.inr rfl) (de_bin op_addAll ok_add (de_fn b.toBx H__law_apply (by decide) rfl (da_cons (de_val (pv 1)) (da_cons (de_idx (de_var (pv 0)) (de_c pe_int fun _ => .int _)) (da_cons (de_idx (de_var (pv 0)) (de_c pe_int fun _ => .int _)) (da_cons (de_c pe_int fun _ => .int _) da_nil))))) (de_fn b.toBx H__law_apply (by decide) rfl (da_cons (de_val (pv 1)) (da_cons (de_idx (de_var (pv 0)) (de_c pe_int fun _ => .int _)) (da_cons (de_idx (de_var (pv 0)) (de_c pe_int fun _ => .int _)) (da_cons (de_c pe_int fun _ => .int _) da_nil)))))))
 (ds_one (ds_ret (de_bin op_addAll ok_add (de_var (pv 2)) (de_fn b.toBx H__law_apply (by decide) rfl (da_cons (de_val (pv 1)) (da_cons (de_idx (de_var (pv 0)) (de_c pe_int fun _ => .int _)) (da_cons (de_idx (de_var (pv 0)) (de_c pe_int fun _ => .int _)) (da_cons (de_c pe_int fun _ => .int _) da_nil)))))))))

abbrev s__law_det : Stmt := top 60
theorem sc__law_det : FnScope n__law_det ["m"] (defScope s__law_det) := ⟨rfl, rfl, rfl, by decide +kernel, rfl, by decide +kernel, by decide +kernel⟩
theorem D__law_det {f : Addr} {fd : FuncData} (F : FunD K "_law_det" "_law_det" (defArgs s__law_det) (defBody s__law_det) (defScope s__law_det) [] [] f fd) (hm : mg "_law_det" = some (.ref f)) (T : Tx K mg) (H__law_product : Fn P w K mg base "_law_product" 1 2 F__law_product) (H__law_sum : Fn P w K mg base "_law_sum" 1 2 F__law_sum) : Fn P w K mg base "_law_det" 2 1 F__law_det := by
  refine ⟨f, fd, ["m"], fn_mkB (N := n__law_det) (n := 1) (k := 1) (g := b__law_det) F sc__law_det rfl (by decide) (fun cdv A outer s H E c W b => ?_), hm, F.kp, F.bindsN fun _ _ _ _ _ _ us hl => match us, hl with | [_], _ => rfl⟩
  exact (ds_cons (ds_asg (i := 1) sc__law_det.nd rfl (by first | exact Or.inl rfl | exact Or.inr rfl) (de_fn b.toBx H__law_product (by decide) rfl (da_cons (de_idx (de_var (pv 0)) (de_c pe_int fun _ => .int _)) (da_cons (de_idx (de_var (pv 0)) (de_c pe_int fun _ => .int _)) da_nil))))
 (ds_one (ds_ret (de_fn b.toBx H__law_sum (by decide) rfl (da_cons (de_fn b.toBx H__law_product (by decide) rfl (da_cons (de_idx (de_var (pv 0)) (de_c pe_int fun _ => .int _)) (da_cons (de_idx (de_var (pv 0)) (de_c pe_int fun _ => .int _)) da_nil))) (da_cons (de_tup (da_cons (de_neg (de_idx (de_var (pv 1)) (de_c pe_int fun _ => .int _))) (da_cons (de_neg (de_idx (de_var (pv 1)) (de_c pe_int fun _ => .int _))) (da_cons (de_idx (de_var (pv 1)) (de_c pe_int fun _ => .int _)) da_nil)))) da_nil))))))

abbrev s__law_with : Stmt := top 61
theorem sc__law_with : FnScope n__law_with ["m", "k", "x"] (defScope s__law_with) := ⟨rfl, rfl, rfl, by decide +kernel, rfl, by decide +kernel, by decide +kernel⟩
theorem D__law_with {f : Addr} {fd : FuncData} (F : FunD K "_law_with" "_law_with" (defArgs s__law_with) (defBody s__law_with) (defScope s__law_with) [] [] f fd) (hm : mg "_law_with" = some (.ref f)) (T : Tx K mg) : Fn P w K mg base "_law_with" 1 3 F__law_with := by
  refine ⟨f, fd, ["m", "k", "x"], fn_mkB (N := n__law_with) (n := 3) (k := 0) (g := b__law_with) F sc__law_with rfl (by decide) (fun cdv A outer s H E c W b => ?_), hm, F.kp, F.bindsN fun _ _ _ _ _ _ us hl => match us, hl with | [_, _, _], _ => rfl⟩
  exact (ds_one (ds_ret (de_bin op_addAll ok_add (de_bin op_addAll ok_add (de_slice (de_var (pv 0)) do_none (do_some (de_var (pv 1)))) (de_tup (da_cons (de_val (pv 2)) da_nil))) (de_slice (de_var (pv 0)) (do_some (de_bin op_addAll ok_add (de_var (pv 1)) (de_c pe_int fun _ => .int _))) do_none))))

abbrev s__law_stray : Stmt := top 62
theorem sc__law_stray : FnScope n__law_stray ["e"] (defScope s__law_stray) := ⟨rfl, rfl, rfl, by decide +kernel, rfl, by decide +kernel, by decide +kernel⟩
theorem D__law_stray {f : Addr} {fd : FuncData} (F : FunD K "_law_stray" "_law_stray" (defArgs s__law_stray) (defBody s__law_stray) (defScope s__law_stray) [] [] f fd) (hm : mg "_law_stray" = some (.ref f)) (T : Tx K mg) : FnE P w K mg base "_law_stray" 1 F__law_stray := by
  refine ⟨f, fd, ["e"], fn_E (N := n__law_stray) (k := 0) (g := b__law_stray) (ok := fun y => hasX xtab y.cls) F sc__law_stray (by decide) (fun cdv A outer s H E q c y hx hX rm => ?_), rfl, hm, F.kp, F.bindsN fun _ _ _ _ _ _ us hl => match us, hl with | [_], _ => rfl⟩
  exact (ds_cons (ds_if (PW.pt (dw_or (dt_not (dt_tru (de_is1 T.xt hX hx (pv 0) (cn_own T.g_PrintError) (List.mem_of_getElem? (i := 24) rfl) rfl T.b_isinstance))) (dw_or1 (dt_not (dt_tru (de_is1 T.xt hX hx (pv 0) (cn_ty T.b_ValueError) (List.mem_of_getElem? (i := 25) rfl) rfl T.b_isinstance))))))
 (ds_one (ds_ret (de_c pe_bl fun _ => .bl _)))
 ds_nil)
 (ds_cons (ds_if (dt_tru (de_isN T.xt hX hx (pv 0) (.cons (cn_own T.g_BadText) (List.mem_of_getElem? (i := 0) rfl) (.cons (cn_own T.g_NoPlace) (List.mem_of_getElem? (i := 1) rfl) (.cons (cn_own T.g_ByZero) (List.mem_of_getElem? (i := 2) rfl) (.cons (cn_own T.g_TooLong) (List.mem_of_getElem? (i := 3) rfl) (.cons (cn_own T.g_TooDeep) (List.mem_of_getElem? (i := 4) rfl) (.cons (cn_own T.g_TooMany) (List.mem_of_getElem? (i := 5) rfl) (.cons (cn_own T.g_TooGreat) (List.mem_of_getElem? (i := 6) rfl) (.cons (cn_own T.g_NoPiece) (List.mem_of_getElem? (i := 7) rfl) (.cons (cn_own T.g_NoPatch) (List.mem_of_getElem? (i := 8) rfl) .nil))))))))) (by decide) rfl T.b_isinstance))
 (ds_one (ds_ret (de_c pe_bl fun _ => .bl _)))
 ds_nil)
 (ds_cons (ds_if (dt_tru (de_isN T.xt hX hx (pv 0) (.cons (cn_own T.g_NoEntry) (List.mem_of_getElem? (i := 9) rfl) (.cons (cn_own T.g_NotOpaque) (List.mem_of_getElem? (i := 10) rfl) (.cons (cn_own T.g_SameInk) (List.mem_of_getElem? (i := 11) rfl) (.cons (cn_own T.g_BadHeights) (List.mem_of_getElem? (i := 12) rfl) (.cons (cn_own T.g_BadTurn) (List.mem_of_getElem? (i := 13) rfl) (.cons (cn_own T.g_BadRange) (List.mem_of_getElem? (i := 14) rfl) (.cons (cn_own T.g_Turns) (List.mem_of_getElem? (i := 15) rfl) (.cons (cn_own T.g_Parallel) (List.mem_of_getElem? (i := 16) rfl) .nil)))))))) (by decide) rfl T.b_isinstance))
 (ds_one (ds_ret (de_c pe_bl fun _ => .bl _)))
 ds_nil)
 (ds_one (ds_ret (de_isN T.xt hX hx (pv 0) (.cons (cn_own T.g_NotWithin) (List.mem_of_getElem? (i := 17) rfl) (.cons (cn_own T.g_TooManyPages) (List.mem_of_getElem? (i := 18) rfl) (.cons (cn_own T.g_BadPart) (List.mem_of_getElem? (i := 19) rfl) (.cons (cn_own T.g_NoPage) (List.mem_of_getElem? (i := 20) rfl) (.cons (cn_own T.g_BadOrder) (List.mem_of_getElem? (i := 21) rfl) (.cons (cn_own T.g_NothingToUndo) (List.mem_of_getElem? (i := 22) rfl) (.cons (cn_own T.g_NothingToRedo) (List.mem_of_getElem? (i := 23) rfl) .nil))))))) (by decide) rfl T.b_isinstance))))))

abbrev s__law_ask : Stmt := top 63
theorem sc__law_ask : FnScope n__law_ask ["word", "m", "n"] (defScope s__law_ask) := ⟨rfl, rfl, rfl, by decide +kernel, rfl, by decide +kernel, by decide +kernel⟩
theorem D__law_ask {f : Addr} {fd : FuncData} (F : FunD K "_law_ask" "_law_ask" (defArgs s__law_ask) (defBody s__law_ask) (defScope s__law_ask) [] [] f fd) (hm : mg "_law_ask" = some (.ref f)) (T : Tx K mg) (H_back : Fn P w K mg base "back" 4 1 F_back) (H_after : Fn P w K mg base "after" 5 2 F_after) (H_lead : Fn P w K mg base "lead" 4 2 F_lead) (H_lead_step : Fn P w K mg base "lead_step" 3 2 F_lead_step) (H_determinant : Fn P w K mg base "determinant" 3 1 F_determinant) (H__law_stray : FnE P w K mg base "_law_stray" 1 F__law_stray) : Fn P w K mg base "_law_ask" 6 3 F__law_ask := by
  refine ⟨f, fd, ["word", "m", "n"], fn_mkB (N := n__law_ask) (n := 3) (k := 5) (g := b__law_ask) F sc__law_ask rfl (by decide) (fun cdv A outer s H E c W b => ?_), hm, F.kp, F.bindsN fun _ _ _ _ _ _ us hl => match us, hl with | [_, _, _], _ => rfl⟩
  exact (ds_one (ds_try (t := xtab) b sc__law_ask.nd (.cons (i := 3) (C := (CN.own "Moving")) (cn_own T.g_Moving) (fun x hx => T.xt.exm x hx _ (List.mem_of_getElem? (i := 0) rfl)) rfl rfl (fun c a pn x hx hX rm => (ds_one (ds_ret (de_frz (de_lstF (da_cons (de_c pe_int fun _ => .int _) (da_cons (de_c pe_str fun _ => .str _) (da_cons (de_and (de_not (de_is1 T.xt hX hx (pv 3) (cn_own T.g_Flat) (List.mem_of_getElem? (i := 27) rfl) rfl T.b_isinstance)) (de_one (de_not (de_hot H__law_stray hX (rm.mono (by decide)) rfl (pv 3))))) da_nil))))))))
 (.cons (i := 3) (C := (CN.own "Flat")) (cn_own T.g_Flat) (fun x hx => T.xt.exm x hx _ (List.mem_of_getElem? (i := 1) rfl)) rfl rfl (fun c a pn x hx hX rm => (ds_one (ds_ret (de_frz (de_lstF (da_cons (de_c pe_int fun _ => .int _) (da_cons (de_c pe_str fun _ => .str _) (da_cons (de_and (de_not (de_is1 T.xt hX hx (pv 3) (cn_own T.g_Moving) (List.mem_of_getElem? (i := 26) rfl) rfl T.b_isinstance)) (de_one (de_not (de_hot H__law_stray hX (rm.mono (by decide)) rfl (pv 3))))) da_nil))))))))
 .nil))
 (fun W1 pn xe b => (ds_cons (ds_if (dt_cmp (op_eqAll b.room.units) ok_eq (de_var (pv 0)) (de_c pe_str fun _ => .str _) (nomark _))
 (ds_one (ds_ret (de_frz (de_lstF (da_cons (de_c pe_int fun _ => .int _) (da_cons (de_fn b.toBx H_after (by decide) rfl (da_cons (de_val (pv 1)) (da_cons (de_val (pv 2)) da_nil))) (da_cons (de_c pe_bl fun _ => .bl _) da_nil)))))))
 ds_nil)
 (ds_cons (ds_if (dt_cmp (op_eqAll b.room.units) ok_eq (de_var (pv 0)) (de_c pe_str fun _ => .str _) (nomark _))
 (ds_one (ds_ret (de_frz (de_lstF (da_cons (de_c pe_int fun _ => .int _) (da_cons (de_fn b.toBx H_lead (by decide) rfl (da_cons (de_val (pv 1)) (da_cons (de_val (pv 2)) da_nil))) (da_cons (de_c pe_bl fun _ => .bl _) da_nil)))))))
 ds_nil)
 (ds_cons (ds_if (dt_cmp (op_eqAll b.room.units) ok_eq (de_var (pv 0)) (de_c pe_str fun _ => .str _) (nomark _))
 (ds_one (ds_ret (de_frz (de_lstF (da_cons (de_c pe_int fun _ => .int _) (da_cons (de_fn b.toBx H_lead_step (by decide) rfl (da_cons (de_val (pv 1)) (da_cons (de_val (pv 2)) da_nil))) (da_cons (de_c pe_bl fun _ => .bl _) da_nil)))))))
 ds_nil)
 (ds_cons (ds_if (dt_cmp (op_eqAll b.room.units) ok_eq (de_var (pv 0)) (de_c pe_str fun _ => .str _) (nomark _))
 (ds_one (ds_ret (de_frz (de_lstF (da_cons (de_c pe_int fun _ => .int _) (da_cons (de_fn b.toBx H_determinant (by decide) rfl (da_cons (de_val (pv 1)) da_nil)) (da_cons (de_c pe_bl fun _ => .bl _) da_nil)))))))
 ds_nil)
 (ds_one (ds_ret (de_frz (de_lstF (da_cons (de_c pe_int fun _ => .int _) (da_cons (de_fn b.toBx H_back (by decide) rfl (da_cons (de_val (pv 1)) da_nil)) (da_cons (de_c pe_bl fun _ => .bl _) da_nil))))))))))))))

abbrev s__law_moved : Stmt := top 64
theorem sc__law_moved : FnScope n__law_moved ["word", "m", "n"] (defScope s__law_moved) := ⟨rfl, rfl, rfl, by decide +kernel, rfl, by decide +kernel, by decide +kernel⟩
theorem D__law_moved {f : Addr} {fd : FuncData} (F : FunD K "_law_moved" "_law_moved" (defArgs s__law_moved) (defBody s__law_moved) (defScope s__law_moved) [] [] f fd) (hm : mg "_law_moved" = some (.ref f)) (T : Tx K mg) (H__law_ask : Fn P w K mg base "_law_ask" 6 3 F__law_ask) : Fn P w K mg base "_law_moved" 7 3 F__law_moved := by
  refine ⟨f, fd, ["word", "m", "n"], fn_mkB (N := n__law_moved) (n := 3) (k := 6) (g := b__law_moved) F sc__law_moved rfl (by decide) (fun cdv A outer s H E c W b => ?_), hm, F.kp, F.bindsN fun _ _ _ _ _ _ us hl => match us, hl with | [_, _, _], _ => rfl⟩
  exact (ds_cons (ds_asg (i := 3) sc__law_moved.nd rfl (by first | exact Or.inl rfl | exact Or.inr rfl) (de_fn b.toBx H__law_ask (by decide) rfl (da_cons (de_val (pv 0)) (da_cons (de_val (pv 1)) (da_cons (de_val (pv 2)) da_nil)))))
 (ds_one (ds_ret (de_and (de_cmp (op_eqAll b.room.units) ok_eq (de_idx (de_var (pv 3)) (de_c pe_int fun _ => .int _)) (de_c pe_int fun _ => .int _) (nomark _)) (de_and (de_cmp (op_eqAll b.room.units) ok_eq (de_idx (de_var (pv 3)) (de_c pe_int fun _ => .int _)) (de_c pe_str fun _ => .str _) (nomark _)) (de_one (de_idx (de_var (pv 3)) (de_c pe_int fun _ => .int _))))))))

abbrev s__law_fine : Stmt := top 65
theorem sc__law_fine : FnScope n__law_fine ["word", "m", "n", "dues"] (defScope s__law_fine) := ⟨rfl, rfl, rfl, by decide +kernel, rfl, by decide +kernel, by decide +kernel⟩
theorem D__law_fine {f : Addr} {fd : FuncData} (F : FunD K "_law_fine" "_law_fine" (defArgs s__law_fine) (defBody s__law_fine) (defScope s__law_fine) [] [] f fd) (hm : mg "_law_fine" = some (.ref f)) (T : Tx K mg) (H__law_ask : Fn P w K mg base "_law_ask" 6 3 F__law_ask) (H__law_all : Fn P w K mg base "_law_all" 4 2 F__law_all) : Fn P w K mg base "_law_fine" 7 4 F__law_fine := by
  refine ⟨f, fd, ["word", "m", "n", "dues"], fn_mkB (N := n__law_fine) (n := 4) (k := 6) (g := b__law_fine) F sc__law_fine rfl (by decide) (fun cdv A outer s H E c W b => ?_), hm, F.kp, F.bindsN fun _ _ _ _ _ _ us hl => match us, hl with | [_, _, _, _], _ => rfl⟩
  exact (ds_cons (ds_asg (i := 4) sc__law_fine.nd rfl (by first | exact Or.inl rfl | exact Or.inr rfl) (de_fn b.toBx H__law_ask (by decide) rfl (da_cons (de_val (pv 0)) (da_cons (de_val (pv 1)) (da_cons (de_val (pv 2)) da_nil)))))
 (ds_one (ds_ret (de_and (de_cmp (op_eqAll b.room.units) ok_eq (de_idx (de_var (pv 4)) (de_c pe_int fun _ => .int _)) (de_c pe_int fun _ => .int _) (nomark _)) (de_one (de_fn b.toBx H__law_all (by decide) rfl (da_cons (de_idx (de_var (pv 4)) (de_c pe_int fun _ => .int _)) (da_cons (de_val (pv 3)) da_nil))))))))

abbrev s__law_det_is : Stmt := top 66
theorem sc__law_det_is : FnScope n__law_det_is ["m"] (defScope s__law_det_is) := ⟨rfl, rfl, rfl, by decide +kernel, rfl, by decide +kernel, by decide +kernel⟩
theorem D__law_det_is {f : Addr} {fd : FuncData} (F : FunD K "_law_det_is" "_law_det_is" (defArgs s__law_det_is) (defBody s__law_det_is) (defScope s__law_det_is) [] [] f fd) (hm : mg "_law_det_is" = some (.ref f)) (T : Tx K mg) (H__law_ask : Fn P w K mg base "_law_ask" 6 3 F__law_ask) (H__law_is : Fn P w K mg base "_law_is" 3 2 F__law_is) (H__law_det : Fn P w K mg base "_law_det" 2 1 F__law_det) : Fn P w K mg base "_law_det_is" 7 1 F__law_det_is := by
  refine ⟨f, fd, ["m"], fn_mkB (N := n__law_det_is) (n := 1) (k := 6) (g := b__law_det_is) F sc__law_det_is rfl (by decide) (fun cdv A outer s H E c W b => ?_), hm, F.kp, F.bindsN fun _ _ _ _ _ _ us hl => match us, hl with | [_], _ => rfl⟩
  exact (ds_cons (ds_asg (i := 1) sc__law_det_is.nd rfl (by first | exact Or.inl rfl | exact Or.inr rfl) (de_fn b.toBx H__law_ask (by decide) rfl (da_cons (de_c pe_str fun _ => .str _) (da_cons (de_val (pv 0)) (da_cons (de_tup da_nil) da_nil)))))
 (ds_one (ds_ret (de_and (de_cmp (op_eqAll b.room.units) ok_eq (de_idx (de_var (pv 1)) (de_c pe_int fun _ => .int _)) (de_c pe_int fun _ => .int _) (nomark _)) (de_one (de_fn b.toBx H__law_is (by decide) rfl (da_cons (de_idx (de_var (pv 1)) (de_c pe_int fun _ => .int _)) (da_cons (de_fn b.toBx H__law_det (by decide) rfl (da_cons (de_val (pv 0)) da_nil)) da_nil))))))))

abbrev s__law_leads : Stmt := top 67
theorem sc__law_leads : FnScope n__law_leads ["m", "p"] (defScope s__law_leads) := ⟨rfl, rfl, rfl, by decide +kernel, rfl, by decide +kernel, by decide +kernel⟩
theorem D__law_leads {f : Addr} {fd : FuncData} (F : FunD K "_law_leads" "_law_leads" (defArgs s__law_leads) (defBody s__law_leads) (defScope s__law_leads) [] [] f fd) (hm : mg "_law_leads" = some (.ref f)) (T : Tx K mg) (H__law_fine : Fn P w K mg base "_law_fine" 7 4 F__law_fine) (H__law_apply : Fn P w K mg base "_law_apply" 2 4 F__law_apply) : Fn P w K mg base "_law_leads" 8 2 F__law_leads := by
  refine ⟨f, fd, ["m", "p"], fn_mkB (N := n__law_leads) (n := 2) (k := 7) (g := b__law_leads) F sc__law_leads rfl (by decide) (fun cdv A outer s H E c W b => ?_), hm, F.kp, F.bindsN fun _ _ _ _ _ _ us hl => match us, hl with | [_, _], _ => rfl⟩
  exact (ds_cons (ds_if (dt_not (dt_tru (de_fn b.toBx H__law_fine (by decide) rfl (da_cons (de_c pe_str fun _ => .str _) (da_cons (de_val (pv 0)) (da_cons (de_val (pv 1)) (da_cons (de_fn b.toBx H__law_apply (by decide) rfl (da_cons (de_val (pv 0)) (da_cons (de_idx (de_var (pv 1)) (de_c pe_int fun _ => .int _)) (da_cons (de_idx (de_var (pv 1)) (de_c pe_int fun _ => .int _)) (da_cons (de_c pe_int fun _ => .int _) da_nil))))) da_nil)))))))
 (ds_one (ds_ret (de_c pe_bl fun _ => .bl _)))
 ds_nil)
 (ds_one (ds_ret (de_fn b.toBx H__law_fine (by decide) rfl (da_cons (de_c pe_str fun _ => .str _) (da_cons (de_val (pv 0)) (da_cons (de_val (pv 1)) (da_cons (de_fn b.toBx H__law_apply (by decide) rfl (da_cons (de_val (pv 0)) (da_cons (de_idx (de_var (pv 1)) (de_c pe_int fun _ => .int _)) (da_cons (de_idx (de_var (pv 1)) (de_c pe_int fun _ => .int _)) (da_cons (de_c pe_int fun _ => .int _) da_nil))))) da_nil))))))))

abbrev s__law_composed : Stmt := top 68
theorem sc__law_composed : FnScope n__law_composed ["m", "n", "p"] (defScope s__law_composed) := ⟨rfl, rfl, rfl, by decide +kernel, rfl, by decide +kernel, by decide +kernel⟩
theorem D__law_composed {f : Addr} {fd : FuncData} (F : FunD K "_law_composed" "_law_composed" (defArgs s__law_composed) (defBody s__law_composed) (defScope s__law_composed) [] [] f fd) (hm : mg "_law_composed" = some (.ref f)) (T : Tx K mg) (H__law_apply : Fn P w K mg base "_law_apply" 2 4 F__law_apply) (H__law_all : Fn P w K mg base "_law_all" 4 2 F__law_all) (H__law_fine : Fn P w K mg base "_law_fine" 7 4 F__law_fine) (H_lead : Fn P w K mg base "lead" 4 2 F_lead) (H__law_leads : Fn P w K mg base "_law_leads" 8 2 F__law_leads) (H__law_det_is : Fn P w K mg base "_law_det_is" 7 1 F__law_det_is) (H__law_after : Fn P w K mg base "_law_after" 3 2 F__law_after) (H_after : Fn P w K mg base "after" 5 2 F_after) : Fn P w K mg base "_law_composed" 9 3 F__law_composed := by
  refine ⟨f, fd, ["m", "n", "p"], fn_mkB (N := n__law_composed) (n := 3) (k := 8) (g := b__law_composed) F sc__law_composed rfl (by decide) (fun cdv A outer s H E c W b => ?_), hm, F.kp, F.bindsN fun _ _ _ _ _ _ us hl => match us, hl with | [_, _, _], _ => rfl⟩
  exact (ds_cons (ds_if (PW.pt (dw_or (dt_not (dt_tru (de_fn b.toBx H__law_leads (by decide) rfl (da_cons (de_val (pv 0)) (da_cons (de_val (pv 2)) da_nil))))) (dw_or1 (dt_not (dt_tru (de_fn b.toBx H__law_det_is (by decide) rfl (da_cons (de_val (pv 0)) da_nil)))))))
 (ds_one (ds_ret (de_c pe_bl fun _ => .bl _)))
 ds_nil)
 (ds_cons (ds_if (dt_not (dt_tru (de_fn b.toBx H__law_fine (by decide) rfl (da_cons (de_c pe_str fun _ => .str _) (da_cons (de_val (pv 0)) (da_cons (de_val (pv 1)) (da_cons (de_fn b.toBx H__law_after (by decide) rfl (da_cons (de_val (pv 0)) (da_cons (de_val (pv 1)) da_nil))) da_nil)))))))
 (ds_one (ds_ret (de_c pe_bl fun _ => .bl _)))
 ds_nil)
 (ds_cons (ds_asg (i := 3) sc__law_composed.nd rfl (by first | exact Or.inl rfl | exact Or.inr rfl) (de_fn b.toBx H__law_apply (by decide) rfl (da_cons (de_val (pv 0)) (da_cons (de_idx (de_var (pv 2)) (de_c pe_int fun _ => .int _)) (da_cons (de_idx (de_var (pv 2)) (de_c pe_int fun _ => .int _)) (da_cons (de_c pe_int fun _ => .int _) da_nil))))))
 (ds_one (ds_ret (de_fn b.toBx H__law_all (by decide) rfl (da_cons (de_fn b.toBx H_lead (by decide) rfl (da_cons (de_fn b.toBx H_after (by decide) rfl (da_cons (de_val (pv 0)) (da_cons (de_val (pv 1)) da_nil))) (da_cons (de_val (pv 2)) da_nil))) (da_cons (de_fn b.toBx H__law_apply (by decide) rfl (da_cons (de_val (pv 1)) (da_cons (de_idx (de_var (pv 3)) (de_c pe_int fun _ => .int _)) (da_cons (de_idx (de_var (pv 3)) (de_c pe_int fun _ => .int _)) (da_cons (de_c pe_int fun _ => .int _) da_nil))))) da_nil))))))))

abbrev s__law_back : Stmt := top 69
theorem sc__law_back : FnScope n__law_back ["m", "p"] (defScope s__law_back) := ⟨rfl, rfl, rfl, by decide +kernel, rfl, by decide +kernel, by decide +kernel⟩
theorem D__law_back {f : Addr} {fd : FuncData} (F : FunD K "_law_back" "_law_back" (defArgs s__law_back) (defBody s__law_back) (defScope s__law_back) [] [] f fd) (hm : mg "_law_back" = some (.ref f)) (T : Tx K mg) (H__law_ask : Fn P w K mg base "_law_ask" 6 3 F__law_ask) (H__law_after : Fn P w K mg base "_law_after" 3 2 F__law_after) (H__law_all : Fn P w K mg base "_law_all" 4 2 F__law_all) (H__law_det : Fn P w K mg base "_law_det" 2 1 F__law_det) (H_lead : Fn P w K mg base "lead" 4 2 F_lead) (H_back : Fn P w K mg base "back" 4 1 F_back) (H__law_formed : Fn P w K mg base "_law_formed" 2 1 F__law_formed) : Fn P w K mg base "_law_back" 7 2 F__law_back := by
  refine ⟨f, fd, ["m", "p"], fn_mkB (N := n__law_back) (n := 2) (k := 6) (g := b__law_back) F sc__law_back rfl (by decide) (fun cdv A outer s H E c W b => ?_), hm, F.kp, F.bindsN fun _ _ _ _ _ _ us hl => match us, hl with | [_, _], _ => rfl⟩
  exact (ds_cons (ds_asg (i := 2) sc__law_back.nd rfl (by first | exact Or.inl rfl | exact Or.inr rfl) (de_fn b.toBx H__law_ask (by decide) rfl (da_cons (de_c pe_str fun _ => .str _) (da_cons (de_val (pv 0)) (da_cons (de_tup da_nil) da_nil)))))
 (ds_cons (ds_if (dt_cmp (op_eqAll b.room.units) ok_eq (de_idx (de_fn b.toBx H__law_det (by decide) rfl (da_cons (de_val (pv 0)) da_nil)) (de_c pe_int fun _ => .int _)) (de_c pe_int fun _ => .int _) (nomark _))
 (ds_one (ds_ret (de_and (de_cmp (op_eqAll b.room.units) ok_eq (de_idx (de_var (pv 2)) (de_c pe_int fun _ => .int _)) (de_c pe_int fun _ => .int _) (nomark _)) (de_and (de_cmp (op_eqAll b.room.units) ok_eq (de_idx (de_var (pv 2)) (de_c pe_int fun _ => .int _)) (de_c pe_str fun _ => .str _) (nomark _)) (de_one (de_idx (de_var (pv 2)) (de_c pe_int fun _ => .int _)))))))
 ds_nil)
 (ds_cons (ds_asg (i := 3) sc__law_back.nd rfl (by first | exact Or.inl rfl | exact Or.inr rfl) (de_idx (de_var (pv 2)) (de_c pe_int fun _ => .int _)))
 (ds_cons (ds_if (PW.pt (dw_or (dt_cmp (op_eqAll b.room.units) ok_eq (de_idx (de_var (pv 2)) (de_c pe_int fun _ => .int _)) (de_c pe_int fun _ => .int _) (nomark _)) (dw_or (dt_not (dt_tru (de_blt call_isi ok_isi rfl T.b_isinstance (by decide +kernel) (da_cons (de_var (pv 3)) (da_cons (de_c (pe_bltn (v := .ty "tuple") rfl T.b_tuple (by decide +kernel) rfl) fun _ => .ty _) da_nil))))) (dw_or1 (dt_cmp (op_neAll b.room.units) ok_ne (de_blt call_len ok_len rfl T.b_len (by decide +kernel) (da_cons (de_var (pv 3)) da_nil)) (de_c pe_int fun _ => .int _) (nomark _))))))
 (ds_one (ds_ret (de_c pe_bl fun _ => .bl _)))
 ds_nil)
 (ds_cons (ds_for b.po b.calm (di_range1 rfl T.b_range (da_cons (de_c pe_int fun _ => .int _) da_nil)) (dg_name (i := 4) sc__law_back.nd rfl (by first | exact Or.inl rfl | exact Or.inr rfl))
 (ds_one (ds_if (PW.pt (dw_or (dt_not (dt_tru (de_fn b.toBx H__law_formed (by decide) rfl (da_cons (de_idx (de_var (pv 3)) (de_var (pv 4))) da_nil)))) (dw_or1 (PW.pt (dw_and (dt_cmp op_lt ok_lt (de_var (pv 4)) (de_c pe_int fun _ => .int _) (nomark _)) (dw_and1 (dt_cmp (op_neAll b.room.units) ok_ne (de_idx (de_idx (de_var (pv 3)) (de_var (pv 4))) (de_c pe_int fun _ => .int _)) (de_c pe_int fun _ => .int _) (nomark _))))))))
 (ds_one (ds_ret (de_c pe_bl fun _ => .bl _)))
 ds_nil)))
 (ds_cons (ds_asg (i := 5) sc__law_back.nd rfl (by first | exact Or.inl rfl | exact Or.inr rfl) (de_fn b.toBx H__law_after (by decide) rfl (da_cons (de_val (pv 0)) (da_cons (de_val (pv 3)) da_nil))))
 (ds_cons (ds_for b.po b.calm (di_range1 rfl T.b_range (da_cons (de_c pe_int fun _ => .int _) da_nil)) (dg_name (i := 4) sc__law_back.nd rfl (by first | exact Or.inl rfl | exact Or.inr rfl))
 (ds_cons (ds_asg (i := 6) sc__law_back.nd rfl (by first | exact Or.inl rfl | exact Or.inr rfl) (de_bltTy call_int1 ok_toInt rfl T.b_int (by decide +kernel) (da_cons (de_or (de_cmp (op_eqAll b.room.units) ok_eq (de_var (pv 4)) (de_c pe_int fun _ => .int _) (nomark _)) (de_one (de_cmp (op_eqAll b.room.units) ok_eq (de_var (pv 4)) (de_c pe_int fun _ => .int _) (nomark _)))) da_nil)))
 (ds_one (ds_if (PW.pt (dw_or (dt_cmp (op_neAll b.room.units) ok_ne (de_idx (de_idx (de_var (pv 5)) (de_var (pv 4))) (de_c pe_int fun _ => .int _)) (de_c pe_int fun _ => .int _) (nomark _)) (dw_or1 (dt_cmp (op_neAll b.room.units) ok_ne (de_idx (de_idx (de_var (pv 5)) (de_var (pv 4))) (de_c pe_int fun _ => .int _)) (de_bin op_mulW ok_mulI (de_idx (de_idx (de_var (pv 5)) (de_var (pv 4))) (de_c pe_int fun _ => .int _)) (de_var (pv 6))) (nomark _)))))
 (ds_one (ds_ret (de_c pe_bl fun _ => .bl _)))
 ds_nil))))
 (ds_one (ds_ret (de_and (de_fn b.toBx H__law_all (by decide) rfl (da_cons (de_fn b.toBx H_lead (by decide) rfl (da_cons (de_val (pv 3)) (da_cons (de_fn b.toBx H_lead (by decide) rfl (da_cons (de_val (pv 0)) (da_cons (de_val (pv 1)) da_nil))) da_nil))) (da_cons (de_val (pv 1)) da_nil))) (de_one (de_fn b.toBx H__law_all (by decide) rfl (da_cons (de_fn b.toBx H_back (by decide) rfl (da_cons (de_val (pv 3)) da_nil)) (da_cons (de_val (pv 0)) da_nil))))))))))))))

abbrev s__law_movers : Stmt := top 70
theorem sc__law_movers : FnScope n__law_movers ["tape", "m", "n", "x", "y"] (defScope s__law_movers) := ⟨rfl, rfl, rfl, by decide +kernel, rfl, by decide +kernel, by decide +kernel⟩
theorem D__law_movers {f : Addr} {fd : FuncData} (F : FunD K "_law_movers" "_law_movers" (defArgs s__law_movers) (defBody s__law_movers) (defScope s__law_movers) [] [] f fd) (hm : mg "_law_movers" = some (.ref f)) (T : Tx K mg) (H__law_next : Fn P w K mg base "_law_next" 1 2 F__law_next) (H__law_with : Fn P w K mg base "_law_with" 1 3 F__law_with) (H__law_leads : Fn P w K mg base "_law_leads" 8 2 F__law_leads) (H__law_moved : Fn P w K mg base "_law_moved" 7 3 F__law_moved) (H__law_fine : Fn P w K mg base "_law_fine" 7 4 F__law_fine) (H__law_after : Fn P w K mg base "_law_after" 3 2 F__law_after) : Fn P w K mg base "_law_movers" 9 5 F__law_movers := by
  refine ⟨f, fd, ["tape", "m", "n", "x", "y"], fn_mkB (N := n__law_movers) (n := 5) (k := 8) (g := b__law_movers) F sc__law_movers rfl (by decide) (fun cdv A outer s H E c W b => ?_), hm, F.kp, F.bindsN fun _ _ _ _ _ _ us hl => match us, hl with | [_, _, _, _, _], _ => rfl⟩
  exact (ds_cons (ds_asg (i := 5) sc__law_movers.nd rfl (by first | exact Or.inl rfl | exact Or.inr rfl) (de_fn b.toBx H__law_next (by decide) rfl (da_cons (de_var (pv 0)) (da_cons (de_c pe_int fun _ => .int _) da_nil))))
 (ds_cons (ds_asg (i := 6) sc__law_movers.nd rfl (by first | exact Or.inl rfl | exact Or.inr rfl) (de_bin op_addAll ok_add (de_bin op_mulW ok_mulI (de_c pe_int fun _ => .int _) (de_fn b.toBx H__law_next (by decide) rfl (da_cons (de_var (pv 0)) (da_cons (de_c pe_int fun _ => .int _) da_nil)))) (de_bin op_fdivA ok_div (de_var (pv 5)) (de_c pe_int fun _ => .int _))))
 (ds_cons (ds_asg (i := 7) sc__law_movers.nd rfl (by first | exact Or.inl rfl | exact Or.inr rfl) (de_fn b.toBx H__law_with (by decide) rfl (da_cons (de_val (pv 2)) (da_cons (de_val (pv 5)) (da_cons (de_val (pv 3)) da_nil)))))
 (ds_cons (ds_if (dt_not (dt_tru (de_fn b.toBx H__law_moved (by decide) rfl (da_cons (de_c pe_str fun _ => .str _) (da_cons (de_fn b.toBx H__law_with (by decide) rfl (da_cons (de_val (pv 1)) (da_cons (de_val (pv 6)) (da_cons (de_val (pv 4)) da_nil)))) (da_cons (de_val (pv 7)) da_nil))))))
 (ds_one (ds_ret (de_c pe_bl fun _ => .bl _)))
 ds_nil)
 (ds_cons (ds_asg (i := 8) sc__law_movers.nd rfl (by first | exact Or.inl rfl | exact Or.inr rfl) (de_fn b.toBx H__law_with (by decide) rfl (da_cons (de_val (pv 1)) (da_cons (de_bin op_sub ok_sub (de_bin op_addAll ok_add (de_var (pv 6)) (de_c pe_int fun _ => .int _)) (de_bin op_mulW ok_mulI (de_c pe_int fun _ => .int _) (de_bin op_fdivA ok_div (de_var (pv 5)) (de_c pe_int fun _ => .int _)))) (da_cons (de_val (pv 4)) da_nil)))))
 (ds_cons (ds_if (dt_not (dt_tru (de_fn b.toBx H__law_fine (by decide) rfl (da_cons (de_c pe_str fun _ => .str _) (da_cons (de_val (pv 8)) (da_cons (de_val (pv 7)) (da_cons (de_fn b.toBx H__law_after (by decide) rfl (da_cons (de_val (pv 8)) (da_cons (de_val (pv 7)) da_nil))) da_nil)))))))
 (ds_one (ds_ret (de_c pe_bl fun _ => .bl _)))
 ds_nil)
 (ds_cons (ds_asg (i := 9) sc__law_movers.nd rfl (by first | exact Or.inl rfl | exact Or.inr rfl) (de_tup (da_cons (de_val (pv 4)) (da_cons (de_idx (de_var (pv 1)) (de_c pe_int fun _ => .int _)) da_nil))))
 (ds_cons (ds_asg (i := 10) sc__law_movers.nd rfl (by first | exact Or.inl rfl | exact Or.inr rfl) (de_tup (da_cons (de_idx (de_var (pv 1)) (de_c pe_int fun _ => .int _)) (da_cons (de_val (pv 4)) da_nil))))
 (ds_cons (ds_if (dt_cmp op_gt ok_gt (de_var (pv 5)) (de_c pe_int fun _ => .int _) (nomark _))
 (ds_cons (ds_asg (i := 9) sc__law_movers.nd rfl (by first | exact Or.inl rfl | exact Or.inr rfl) (de_tup (da_cons (de_idx (de_var (pv 1)) (de_c pe_int fun _ => .int _)) (da_cons (de_val (pv 4)) da_nil))))
 (ds_one (ds_asg (i := 10) sc__law_movers.nd rfl (by first | exact Or.inl rfl | exact Or.inr rfl) (de_tup (da_cons (de_val (pv 4)) (da_cons (de_idx (de_var (pv 1)) (de_c pe_int fun _ => .int _)) da_nil))))))
 ds_nil)
 (ds_cons (ds_if (PW.pt (dw_or (dt_not (dt_tru (de_fn b.toBx H__law_moved (by decide) rfl (da_cons (de_c pe_str fun _ => .str _) (da_cons (de_val (pv 7)) (da_cons (de_val (pv 9)) da_nil)))))) (dw_or1 (dt_not (dt_tru (de_fn b.toBx H__law_moved (by decide) rfl (da_cons (de_c pe_str fun _ => .str _) (da_cons (de_val (pv 7)) (da_cons (de_val (pv 9)) da_nil)))))))))
 (ds_one (ds_ret (de_c pe_bl fun _ => .bl _)))
 ds_nil)
 (ds_one (ds_ret (de_fn b.toBx H__law_leads (by decide) rfl (da_cons (de_val (pv 7)) (da_cons (de_val (pv 10)) da_nil)))))))))))))))

abbrev s__law_dets : Stmt := top 71
theorem sc__law_dets : FnScope n__law_dets ["tape", "m", "x", "y"] (defScope s__law_dets) := ⟨rfl, rfl, rfl, by decide +kernel, rfl, by decide +kernel, by decide +kernel⟩
theorem D__law_dets {f : Addr} {fd : FuncData} (F : FunD K "_law_dets" "_law_dets" (defArgs s__law_dets) (defBody s__law_dets) (defScope s__law_dets) [] [] f fd) (hm : mg "_law_dets" = some (.ref f)) (T : Tx K mg) (H__law_next : Fn P w K mg base "_law_next" 1 2 F__law_next) (H__law_with : Fn P w K mg base "_law_with" 1 3 F__law_with) (H__law_moved : Fn P w K mg base "_law_moved" 7 3 F__law_moved) (H__law_det_is : Fn P w K mg base "_law_det_is" 7 1 F__law_det_is) : Fn P w K mg base "_law_dets" 8 4 F__law_dets := by
  refine ⟨f, fd, ["tape", "m", "x", "y"], fn_mkB (N := n__law_dets) (n := 4) (k := 7) (g := b__law_dets) F sc__law_dets rfl (by decide) (fun cdv A outer s H E c W b => ?_), hm, F.kp, F.bindsN fun _ _ _ _ _ _ us hl => match us, hl with | [_, _, _, _], _ => rfl⟩
  exact (ds_cons (ds_asg (i := 4) sc__law_dets.nd rfl (by first | exact Or.inl rfl | exact Or.inr rfl) (de_fn b.toBx H__law_next (by decide) rfl (da_cons (de_var (pv 0)) (da_cons (de_c pe_int fun _ => .int _) da_nil))))
 (ds_cons (ds_asg (i := 5) sc__law_dets.nd rfl (by first | exact Or.inl rfl | exact Or.inr rfl) (de_fn b.toBx H__law_next (by decide) rfl (da_cons (de_var (pv 0)) (da_cons (de_c pe_int fun _ => .int _) da_nil))))
 (ds_cons (ds_asg (i := 6) sc__law_dets.nd rfl (by first | exact Or.inl rfl | exact Or.inr rfl) (de_fn b.toBx H__law_with (by decide) rfl (da_cons (de_val (pv 1)) (da_cons (de_val (pv 4)) (da_cons (de_val (pv 2)) da_nil)))))
 (ds_cons (ds_if (dt_not (dt_tru (de_fn b.toBx H__law_moved (by decide) rfl (da_cons (de_c pe_str fun _ => .str _) (da_cons (de_fn b.toBx H__law_with (by decide) rfl (da_cons (de_val (pv 6)) (da_cons (de_bin op_sub ok_sub (de_c pe_int fun _ => .int _) (de_var (pv 4))) (da_cons (de_val (pv 3)) da_nil)))) (da_cons (de_tup da_nil) da_nil))))))
 (ds_one (ds_ret (de_c pe_bl fun _ => .bl _)))
 ds_nil)
 (ds_cons (ds_if (PW.pt (dw_or (dt_not (dt_tru (de_fn b.toBx H__law_det_is (by decide) rfl (da_cons (de_fn b.toBx H__law_with (by decide) rfl (da_cons (de_val (pv 6)) (da_cons (de_bin op_addAll ok_add (de_c pe_int fun _ => .int _) (de_var (pv 4))) (da_cons (de_val (pv 3)) da_nil)))) da_nil)))) (dw_or1 (dt_not (dt_tru (de_fn b.toBx H__law_det_is (by decide) rfl (da_cons (de_val (pv 6)) da_nil)))))))
 (ds_one (ds_ret (de_c pe_bl fun _ => .bl _)))
 ds_nil)
 (ds_cons (ds_if (dt_not (dt_tru (de_fn b.toBx H__law_moved (by decide) rfl (da_cons (de_c pe_str fun _ => .str _) (da_cons (de_tup (da_cons (de_val (pv 2)) (da_cons (de_val (pv 2)) (da_cons (de_val (pv 2)) (da_cons (de_val (pv 2)) (da_cons (de_idx (de_var (pv 1)) (de_c pe_int fun _ => .int _)) (da_cons (de_idx (de_var (pv 1)) (de_c pe_int fun _ => .int _)) da_nil))))))) (da_cons (de_tup da_nil) da_nil))))))
 (ds_one (ds_ret (de_c pe_bl fun _ => .bl _)))
 ds_nil)
 (ds_cons (ds_asg (i := 7) sc__law_dets.nd rfl (by first | exact Or.inl rfl | exact Or.inr rfl) (de_tup (da_cons (de_tup (da_cons (de_c pe_int fun _ => .int _) (da_cons (de_c pe_int fun _ => .int _) (da_cons (de_c pe_int fun _ => .int _) da_nil)))) (da_cons (de_tup (da_cons (de_c pe_int fun _ => .int _) (da_cons (de_c pe_int fun _ => .int _) (da_cons (de_c pe_int fun _ => .int _) da_nil)))) (da_cons (de_tup (da_cons (de_c pe_int fun _ => .int _) (da_cons (de_c pe_int fun _ => .int _) (da_cons (de_c pe_int fun _ => .int _) da_nil)))) (da_cons (de_tup (da_cons (de_c pe_int fun _ => .int _) (da_cons (de_c pe_int fun _ => .int _) (da_cons (de_c pe_int fun _ => .int _) da_nil)))) (da_cons (de_idx (de_var (pv 1)) (de_c pe_int fun _ => .int _)) (da_cons (de_idx (de_var (pv 1)) (de_c pe_int fun _ => .int _)) da_nil))))))))
 (ds_cons (ds_if (dt_not (dt_tru (de_fn b.toBx H__law_moved (by decide) rfl (da_cons (de_c pe_str fun _ => .str _) (da_cons (de_fn b.toBx H__law_with (by decide) rfl (da_cons (de_val (pv 1)) (da_cons (de_val (pv 5)) (da_cons (de_val (pv 2)) da_nil)))) (da_cons (de_tup da_nil) da_nil))))))
 (ds_one (ds_ret (de_c pe_bl fun _ => .bl _)))
 ds_nil)
 (ds_one (ds_ret (de_fn b.toBx H__law_moved (by decide) rfl (da_cons (de_c pe_str fun _ => .str _) (da_cons (de_fn b.toBx H__law_with (by decide) rfl (da_cons (de_val (pv 7)) (da_cons (de_val (pv 5)) (da_cons (de_val (pv 2)) da_nil)))) (da_cons (de_tup da_nil) da_nil))))))))))))))

abbrev s_law : Stmt := top 72
theorem sc_law : FnScope n_law ["script"] (defScope s_law) := ⟨rfl, rfl, rfl, by decide +kernel, rfl, by decide +kernel, by decide +kernel⟩
theorem D_law {f : Addr} {fd : FuncData} (F : FunD K "law" "law" (defArgs s_law) (defBody s_law) (defScope s_law) [] [] f fd) (T : Tx K mg) (H__law_corner : Fn P w K mg base "_law_corner" 4 2 F__law_corner) (H__law_mover : Fn P w K mg base "_law_mover" 3 1 F__law_mover) (H__law_form : Fn P w K mg base "_law_form" 2 3 F__law_form) (H__law_row : Fn P w K mg base "_law_row" 1 1 F__law_row) (H__law_next : Fn P w K mg base "_law_next" 1 2 F__law_next) (H__law_all : Fn P w K mg base "_law_all" 4 2 F__law_all) (H__law_back : Fn P w K mg base "_law_back" 7 2 F__law_back) (H__law_movers : Fn P w K mg base "_law_movers" 9 5 F__law_movers) (H__law_dets : Fn P w K mg base "_law_dets" 8 4 F__law_dets) (H__law_composed : Fn P w K mg base "_law_composed" 9 3 F__law_composed) (H__law_entry : Fn P w K mg base "_law_entry" 3 2 F__law_entry) : FnOk P w K mg base (L2.CX P w) 10 f fd ["script"] (spF K 1 F_law) := by
  refine fn_mkB (N := n_law) (n := 1) (k := 9) (g := b_law) F sc_law rfl (by decide) (fun cdv A outer s H E c W b => ?_)
  exact (ds_cons (ds_asgF (i := 1) sc_law.nd rfl (by first | exact Or.inl rfl | exact Or.inr rfl) (de_lstF (da_cons (de_fn b.toBx H__law_row (by decide) rfl (da_cons (de_val (pv 0)) da_nil)) (da_cons (de_c pe_int fun _ => .int _) da_nil))))
 (ds_cons (ds_asg (i := 2) sc_law.nd rfl (by first | exact Or.inl rfl | exact Or.inr rfl) (de_bltTy call_int1 ok_toInt rfl T.b_int (by decide +kernel) (da_cons (de_cmp (op_eqAll b.room.units) ok_eq (de_fn b.toBx H__law_next (by decide) rfl (da_cons (de_var (pv 1)) (da_cons (de_c pe_int fun _ => .int _) da_nil))) (de_c pe_int fun _ => .int _) (nomark _)) da_nil)))
 (ds_cons (ds_asg (i := 3) sc_law.nd rfl (by first | exact Or.inl rfl | exact Or.inr rfl) (de_bltTy call_tuple_of ok_tuple rfl T.b_tuple (by decide +kernel) (da_cons (de_frz (de_lc (own := [("k", 4)]) b.calm sc_law.nd (di_range1 rfl T.b_range (da_cons (de_c pe_int fun _ => .int _) da_nil)) (blkOk_by (own := [("k", 4)]) (N := n_law) (sc := defScope s_law) (by decide +kernel)) (by decide) (fun _ _ _ _ _ => (dg_name (i := 4) sc_law.nd rfl (by first | exact Or.inl rfl | exact Or.inr rfl))) (fun _ _ _ _ _ => dts_nil) (fun _ _ _ _ _ => (de_fn (Bx.blk b.toBx) H__law_entry (by decide) rfl (da_cons (de_var (pv 1)) (da_cons (de_val (pv 2)) da_nil)))))) da_nil)))
 (ds_cons (ds_asg (i := 5) sc_law.nd rfl (by first | exact Or.inl rfl | exact Or.inr rfl) (de_bltTy call_tuple_of ok_tuple rfl T.b_tuple (by decide +kernel) (da_cons (de_frz (de_lc (own := [("k", 4)]) b.calm sc_law.nd (di_range1 rfl T.b_range (da_cons (de_c pe_int fun _ => .int _) da_nil)) (blkOk_by (own := [("k", 4)]) (N := n_law) (sc := defScope s_law) (by decide +kernel)) (by decide) (fun _ _ _ _ _ => (dg_name (i := 4) sc_law.nd rfl (by first | exact Or.inl rfl | exact Or.inr rfl))) (fun _ _ _ _ _ => dts_nil) (fun _ _ _ _ _ => (de_fn (Bx.blk b.toBx) H__law_entry (by decide) rfl (da_cons (de_var (pv 1)) (da_cons (de_val (pv 2)) da_nil)))))) da_nil)))
 (ds_cons (ds_asg (i := 6) sc_law.nd rfl (by first | exact Or.inl rfl | exact Or.inr rfl) (de_fn b.toBx H__law_corner (by decide) rfl (da_cons (de_var (pv 1)) (da_cons (de_val (pv 2)) da_nil))))
 (ds_cons (ds_asg (i := 7) sc_law.nd rfl (by first | exact Or.inl rfl | exact Or.inr rfl) (de_fn b.toBx H__law_mover (by decide) rfl (da_cons (de_var (pv 1)) da_nil)))
 (ds_cons (ds_asg (i := 8) sc_law.nd rfl (by first | exact Or.inl rfl | exact Or.inr rfl) (de_fn b.toBx H__law_mover (by decide) rfl (da_cons (de_var (pv 1)) da_nil)))
 (ds_cons (ds_asg (i := 9) sc_law.nd rfl (by first | exact Or.inl rfl | exact Or.inr rfl) (de_bin op_sub ok_sub (de_fn b.toBx H__law_next (by decide) rfl (da_cons (de_var (pv 1)) (da_cons (de_c pe_int fun _ => .int _) da_nil))) (de_c pe_int fun _ => .int _)))
 (ds_cons (ds_asg (i := 10) sc_law.nd rfl (by first | exact Or.inl rfl | exact Or.inr rfl) (de_fn b.toBx H__law_form (by decide) rfl (da_cons (de_bin op_mulW ok_mulI (de_idx (de_idx (de_var (pv 3)) (de_c pe_int fun _ => .int _)) (de_c pe_int fun _ => .int _)) (de_var (pv 9))) (da_cons (de_c pe_int fun _ => .int _) (da_cons (de_idx (de_idx (de_var (pv 3)) (de_c pe_int fun _ => .int _)) (de_c pe_int fun _ => .int _)) da_nil)))))
 (ds_cons (ds_asg (i := 11) sc_law.nd rfl (by first | exact Or.inl rfl | exact Or.inr rfl) (de_tup (da_cons (de_idx (de_var (pv 3)) (de_c pe_int fun _ => .int _)) (da_cons (de_idx (de_var (pv 3)) (de_c pe_int fun _ => .int _)) (da_cons (de_val (pv 10)) (da_cons (de_fn b.toBx H__law_form (by decide) rfl (da_cons (de_bin op_mulW ok_mulI (de_idx (de_idx (de_var (pv 3)) (de_c pe_int fun _ => .int _)) (de_c pe_int fun _ => .int _)) (de_var (pv 9))) (da_cons (de_c pe_int fun _ => .int _) (da_cons (de_idx (de_idx (de_var (pv 3)) (de_c pe_int fun _ => .int _)) (de_c pe_int fun _ => .int _)) da_nil)))) (da_cons (de_val (pv 7)) (da_cons (de_val (pv 8)) da_nil))))))))
 (ds_cons (ds_asg (i := 12) sc_law.nd rfl (by first | exact Or.inl rfl | exact Or.inr rfl) (de_frz (de_lstF (da_cons (de_tup (da_cons (de_c pe_int fun _ => .int _) (da_cons (de_c pe_int fun _ => .int _) (da_cons (de_c pe_int fun _ => .int _) da_nil)))) (da_cons (de_tup (da_cons (de_c pe_int fun _ => .int _) (da_cons (de_c pe_int fun _ => .int _) (da_cons (de_c pe_int fun _ => .int _) da_nil)))) (da_cons (de_tup (da_cons (de_c pe_int fun _ => .int _) (da_cons (de_c pe_int fun _ => .int _) (da_cons (de_c pe_int fun _ => .int _) da_nil)))) (da_cons (de_tup (da_cons (de_c pe_int fun _ => .int _) (da_cons (de_c pe_int fun _ => .int _) (da_cons (de_c pe_int fun _ => .int _) da_nil)))) (da_cons (de_tup (da_cons (de_c pe_int fun _ => .int _) (da_cons (de_c pe_int fun _ => .int _) (da_cons (de_c pe_int fun _ => .int _) da_nil)))) (da_cons (de_tup (da_cons (de_c pe_int fun _ => .int _) (da_cons (de_c pe_int fun _ => .int _) (da_cons (de_c pe_int fun _ => .int _) da_nil)))) da_nil)))))))))
 (ds_cons (ds_if (dt_not (dt_tru (de_fn b.toBx H__law_all (by decide) rfl (da_cons (de_c (pe_glob (v := .ref _) rfl T.g_IDENTITY rfl) T.c_IDENTITY) (da_cons (de_val (pv 12)) da_nil)))))
 (ds_one (ds_ret (de_c pe_bl fun _ => .bl _)))
 ds_nil)
 (ds_cons (ds_if (PW.pt (dw_or (dt_not (dt_tru (de_fn b.toBx H__law_composed (by decide) rfl (da_cons (de_val (pv 3)) (da_cons (de_c (pe_glob (v := .ref _) rfl T.g_IDENTITY rfl) T.c_IDENTITY) (da_cons (de_val (pv 6)) da_nil)))))) (dw_or1 (dt_not (dt_tru (de_fn b.toBx H__law_composed (by decide) rfl (da_cons (de_c (pe_glob (v := .ref _) rfl T.g_IDENTITY rfl) T.c_IDENTITY) (da_cons (de_val (pv 5)) (da_cons (de_val (pv 6)) da_nil)))))))))
 (ds_one (ds_ret (de_c pe_bl fun _ => .bl _)))
 ds_nil)
 (ds_cons (ds_if (PW.pt (dw_or (dt_not (dt_tru (de_fn b.toBx H__law_composed (by decide) rfl (da_cons (de_val (pv 3)) (da_cons (de_val (pv 5)) (da_cons (de_val (pv 6)) da_nil)))))) (dw_or1 (dt_not (dt_tru (de_fn b.toBx H__law_back (by decide) rfl (da_cons (de_val (pv 3)) (da_cons (de_val (pv 6)) da_nil))))))))
 (ds_one (ds_ret (de_c pe_bl fun _ => .bl _)))
 ds_nil)
 (ds_cons (ds_asg (i := 13) sc_law.nd rfl (by first | exact Or.inl rfl | exact Or.inr rfl) (de_bin op_addAll ok_add (de_slice (de_var (pv 3)) do_none (do_some (de_c pe_int fun _ => .int _))) (de_tup (da_cons (de_val (pv 7)) (da_cons (de_val (pv 8)) da_nil)))))
 (ds_cons (ds_if (PW.pt (dw_or (dt_not (dt_tru (de_fn b.toBx H__law_composed (by decide) rfl (da_cons (de_val (pv 13)) (da_cons (de_val (pv 5)) (da_cons (de_val (pv 6)) da_nil)))))) (dw_or1 (dt_not (dt_tru (de_fn b.toBx H__law_back (by decide) rfl (da_cons (de_val (pv 13)) (da_cons (de_val (pv 6)) da_nil))))))))
 (ds_one (ds_ret (de_c pe_bl fun _ => .bl _)))
 ds_nil)
 (ds_cons (ds_asg (i := 13) sc_law.nd rfl (by first | exact Or.inl rfl | exact Or.inr rfl) (de_bin op_addAll ok_add (de_slice (de_var (pv 5)) do_none (do_some (de_c pe_int fun _ => .int _))) (de_tup (da_cons (de_val (pv 8)) (da_cons (de_val (pv 7)) da_nil)))))
 (ds_cons (ds_if (PW.pt (dw_or (dt_not (dt_tru (de_fn b.toBx H__law_composed (by decide) rfl (da_cons (de_val (pv 3)) (da_cons (de_val (pv 13)) (da_cons (de_val (pv 6)) da_nil)))))) (dw_or1 (dt_not (dt_tru (de_fn b.toBx H__law_back (by decide) rfl (da_cons (de_val (pv 13)) (da_cons (de_val (pv 6)) da_nil))))))))
 (ds_one (ds_ret (de_c pe_bl fun _ => .bl _)))
 ds_nil)
 (ds_cons (ds_if (dt_not (dt_tru (de_fn b.toBx H__law_back (by decide) rfl (da_cons (de_val (pv 11)) (da_cons (de_val (pv 6)) da_nil)))))
 (ds_one (ds_ret (de_c pe_bl fun _ => .bl _)))
 ds_nil)
 (ds_cons (ds_if (dt_not (dt_tru (de_fn b.toBx H__law_movers (by decide) rfl (da_cons (de_var (pv 1)) (da_cons (de_val (pv 3)) (da_cons (de_val (pv 5)) (da_cons (de_val (pv 7)) (da_cons (de_val (pv 8)) da_nil))))))))
 (ds_one (ds_ret (de_c pe_bl fun _ => .bl _)))
 ds_nil)
 (ds_cons (ds_if (dt_not (dt_tru (de_fn b.toBx H__law_dets (by decide) rfl (da_cons (de_var (pv 1)) (da_cons (de_val (pv 3)) (da_cons (de_val (pv 7)) (da_cons (de_val (pv 8)) da_nil)))))))
 (ds_one (ds_ret (de_c pe_bl fun _ => .bl _)))
 ds_nil)
 (ds_one (ds_ret (de_and (de_fn b.toBx H__law_composed (by decide) rfl (da_cons (de_val (pv 3)) (da_cons (de_val (pv 5)) (da_cons (de_val (pv 6)) da_nil)))) (de_one (de_fn b.toBx H__law_back (by decide) rfl (da_cons (de_val (pv 3)) (da_cons (de_val (pv 6)) da_nil))))))))))))))))))))))))))))

end
end K02
end

section
set_option maxRecDepth 100000
set_option maxHeartbeats 0
namespace K02
open PySem L2 DL
def d_number : He.DefD := ⟨("number", none), "number", "number", defArgs s_number, defBody s_number, defScope s_number, [.int 0, .int 1], []⟩
def d_plus : He.DefD := ⟨("plus", none), "plus", "plus", defArgs s_plus, defBody s_plus, defScope s_plus, [], []⟩
def d_minus : He.DefD := ⟨("minus", none), "minus", "minus", defArgs s_minus, defBody s_minus, defScope s_minus, [], []⟩
def d_times : He.DefD := ⟨("times", none), "times", "times", defArgs s_times, defBody s_times, defScope s_times, [], []⟩
def d_over : He.DefD := ⟨("over", none), "over", "over", defArgs s_over, defBody s_over, defScope s_over, [], []⟩
def d_moves : He.DefD := ⟨("moves", none), "moves", "moves", defArgs s_moves, defBody s_moves, defScope s_moves, [], []⟩
def d_lead_step : He.DefD := ⟨("lead_step", none), "lead_step", "lead_step", defArgs s_lead_step, defBody s_lead_step, defScope s_lead_step, [], []⟩
def d_lead : He.DefD := ⟨("lead", none), "lead", "lead", defArgs s_lead, defBody s_lead, defScope s_lead, [], []⟩
def d_after : He.DefD := ⟨("after", none), "after", "after", defArgs s_after, defBody s_after, defScope s_after, [], []⟩
def d_determinant : He.DefD := ⟨("determinant", none), "determinant", "determinant", defArgs s_determinant, defBody s_determinant, defScope s_determinant, [], []⟩
def d_back : He.DefD := ⟨("back", none), "back", "back", defArgs s_back, defBody s_back, defScope s_back, [], []⟩
def d__law_gcd : He.DefD := ⟨("_law_gcd", none), "_law_gcd", "_law_gcd", defArgs s__law_gcd, defBody s__law_gcd, defScope s__law_gcd, [], []⟩
def d__law_row : He.DefD := ⟨("_law_row", none), "_law_row", "_law_row", defArgs s__law_row, defBody s__law_row, defScope s__law_row, [], []⟩
def d__law_next : He.DefD := ⟨("_law_next", none), "_law_next", "_law_next", defArgs s__law_next, defBody s__law_next, defScope s__law_next, [], []⟩
def d__law_form : He.DefD := ⟨("_law_form", none), "_law_form", "_law_form", defArgs s__law_form, defBody s__law_form, defScope s__law_form, [], []⟩
def d__law_entry : He.DefD := ⟨("_law_entry", none), "_law_entry", "_law_entry", defArgs s__law_entry, defBody s__law_entry, defScope s__law_entry, [], []⟩
def d__law_mover : He.DefD := ⟨("_law_mover", none), "_law_mover", "_law_mover", defArgs s__law_mover, defBody s__law_mover, defScope s__law_mover, [], []⟩
def d__law_corner : He.DefD := ⟨("_law_corner", none), "_law_corner", "_law_corner", defArgs s__law_corner, defBody s__law_corner, defScope s__law_corner, [], []⟩
def d__law_int : He.DefD := ⟨("_law_int", none), "_law_int", "_law_int", defArgs s__law_int, defBody s__law_int, defScope s__law_int, [], []⟩
def d__law_formed : He.DefD := ⟨("_law_formed", none), "_law_formed", "_law_formed", defArgs s__law_formed, defBody s__law_formed, defScope s__law_formed, [], []⟩
def d__law_is : He.DefD := ⟨("_law_is", none), "_law_is", "_law_is", defArgs s__law_is, defBody s__law_is, defScope s__law_is, [], []⟩
def d__law_all : He.DefD := ⟨("_law_all", none), "_law_all", "_law_all", defArgs s__law_all, defBody s__law_all, defScope s__law_all, [], []⟩
def d__law_sum : He.DefD := ⟨("_law_sum", none), "_law_sum", "_law_sum", defArgs s__law_sum, defBody s__law_sum, defScope s__law_sum, [], []⟩
def d__law_product : He.DefD := ⟨("_law_product", none), "_law_product", "_law_product", defArgs s__law_product, defBody s__law_product, defScope s__law_product, [], []⟩
def d__law_apply : He.DefD := ⟨("_law_apply", none), "_law_apply", "_law_apply", defArgs s__law_apply, defBody s__law_apply, defScope s__law_apply, [], []⟩
def d__law_after : He.DefD := ⟨("_law_after", none), "_law_after", "_law_after", defArgs s__law_after, defBody s__law_after, defScope s__law_after, [], []⟩
def d__law_det : He.DefD := ⟨("_law_det", none), "_law_det", "_law_det", defArgs s__law_det, defBody s__law_det, defScope s__law_det, [], []⟩
def d__law_with : He.DefD := ⟨("_law_with", none), "_law_with", "_law_with", defArgs s__law_with, defBody s__law_with, defScope s__law_with, [], []⟩
def d__law_stray : He.DefD := ⟨("_law_stray", none), "_law_stray", "_law_stray", defArgs s__law_stray, defBody s__law_stray, defScope s__law_stray, [], []⟩
def d__law_ask : He.DefD := ⟨("_law_ask", none), "_law_ask", "_law_ask", defArgs s__law_ask, defBody s__law_ask, defScope s__law_ask, [], []⟩
def d__law_moved : He.DefD := ⟨("_law_moved", none), "_law_moved", "_law_moved", defArgs s__law_moved, defBody s__law_moved, defScope s__law_moved, [], []⟩
def d__law_fine : He.DefD := ⟨("_law_fine", none), "_law_fine", "_law_fine", defArgs s__law_fine, defBody s__law_fine, defScope s__law_fine, [], []⟩
def d__law_det_is : He.DefD := ⟨("_law_det_is", none), "_law_det_is", "_law_det_is", defArgs s__law_det_is, defBody s__law_det_is, defScope s__law_det_is, [], []⟩
def d__law_leads : He.DefD := ⟨("_law_leads", none), "_law_leads", "_law_leads", defArgs s__law_leads, defBody s__law_leads, defScope s__law_leads, [], []⟩
def d__law_composed : He.DefD := ⟨("_law_composed", none), "_law_composed", "_law_composed", defArgs s__law_composed, defBody s__law_composed, defScope s__law_composed, [], []⟩
def d__law_back : He.DefD := ⟨("_law_back", none), "_law_back", "_law_back", defArgs s__law_back, defBody s__law_back, defScope s__law_back, [], []⟩
def d__law_movers : He.DefD := ⟨("_law_movers", none), "_law_movers", "_law_movers", defArgs s__law_movers, defBody s__law_movers, defScope s__law_movers, [], []⟩
def d__law_dets : He.DefD := ⟨("_law_dets", none), "_law_dets", "_law_dets", defArgs s__law_dets, defBody s__law_dets, defScope s__law_dets, [], []⟩
def d_law : He.DefD := ⟨("law", none), "law", "law", defArgs s_law, defBody s_law, defScope s_law, [], []⟩
def fnl : List He.DefD := [d_number, d_plus, d_minus, d_times, d_over, d_moves, d_lead_step, d_lead, d_after, d_determinant, d_back, d__law_gcd, d__law_row, d__law_next, d__law_form, d__law_entry, d__law_mover, d__law_corner, d__law_int, d__law_formed, d__law_is, d__law_all, d__law_sum, d__law_product, d__law_apply, d__law_after, d__law_det, d__law_with, d__law_stray, d__law_ask, d__law_moved, d__law_fine, d__law_det_is, d__law_leads, d__law_composed, d__law_back, d__law_movers, d__law_dets, d_law]
def fal : List He.Fa := [.glo "number", .glo "plus", .glo "minus", .glo "times", .glo "over", .glo "moves", .glo "lead_step", .glo "lead", .glo "after", .glo "determinant", .glo "back", .glo "_law_gcd", .glo "_law_row", .glo "_law_next", .glo "_law_form", .glo "_law_entry", .glo "_law_mover", .glo "_law_corner", .glo "_law_int", .glo "_law_formed", .glo "_law_is", .glo "_law_all", .glo "_law_sum", .glo "_law_product", .glo "_law_apply", .glo "_law_after", .glo "_law_det", .glo "_law_with", .glo "_law_stray", .glo "_law_ask", .glo "_law_moved", .glo "_law_fine", .glo "_law_det_is", .glo "_law_leads", .glo "_law_composed", .glo "_law_back", .glo "_law_movers", .glo "_law_dets", .glo "law", .free "ValueError", .free "abs", .free "bool", .free "int", .free "isinstance", .free "len", .free "range", .free "tuple", .glo "IDENTITY", .glo "ZERO", .exc "ByZero", .exc "Flat", .exc "Moving", .glo "ByZero", .glo "Flat", .glo "Moving", .glo "BadHeights", .glo "BadOrder", .glo "BadPart", .glo "BadRange", .glo "BadText", .glo "BadTurn", .glo "ByZero", .glo "Flat", .glo "Moving", .glo "NoEntry", .glo "NoPage", .glo "NoPatch", .glo "NoPiece", .glo "NoPlace", .glo "NotOpaque", .glo "NotWithin", .glo "NothingToRedo", .glo "NothingToUndo", .glo "Parallel", .glo "PrintError", .glo "SameInk", .glo "TooDeep", .glo "TooGreat", .glo "TooLong", .glo "TooMany", .glo "TooManyPages", .glo "Turns"]
def exl : List (PySem.W.Frag → Bool) := [bltB "gcd" "math.gcd", cstB "IDENTITY" c_IDENTITY, cstB "ZERO" c_ZERO, xtB xtab cns ens]
end K02
end

section
set_option maxRecDepth 100000
set_option maxHeartbeats 0
namespace K02
open PySem L2 DL
abbrev R : PySem.W.OpenRow := PySem.W.OpenLaw.row PySem.Challenge.rw_printstacks_k02_matrices_lead_and_come_b
def asl : List PySem.Addr := [3, 52, 72, 91, 103, 115, 127, 146, 165, 184, 196, 215, 234, 253, 272, 291, 310, 329, 348, 367, 379, 391, 410, 429, 448, 467, 479, 491, 494, 502, 509, 516, 523, 530, 537, 544, 551, 558, 565, 572, 579, 586, 593, 600, 607, 614, 621, 628, 635, 642, 649, 656, 663, 670, 677, 684, 691, 698, 705, 712, 719, 726, 733, 740, 747, 754, 761, 768, 773, 51, 102, 114, 126, 501, 495, 508, 515, 522, 529, 536, 538, 539, 540, 541, 542, 543, 550, 557, 564, 571, 578, 585, 592, 599, 606, 613, 620, 627, 634, 641, 648, 655, 662, 669, 676, 683, 690, 697, 704, 711, 718, 725, 732, 739, 746, 753, 760, 767, 772]
abbrev hk : PySem.W.Hook := hookL asl fal fnl exl
def ob (s : PySem.W.SharedT) : He.AlD := obsLG asl fal fnl exl (HandSHeadRun.getT s)
theorem ob_eq (s : PySem.W.SharedT) : ob s = hk.obs s.abs := obsLG_eq (HandSHeadRun.getT_eq s)
def loose0 : List PySem.Str := ["PrintError", "BadText", "NoPlace", "ByZero", "Moving", "Flat", "TooLong", "TooDeep", "TooMany", "TooGreat", "NoPiece", "NoPatch", "NoEntry", "NotOpaque", "SameInk", "BadHeights", "BadTurn", "BadRange", "Turns", "Parallel", "NotWithin", "TooManyPages", "BadPart", "NoPage", "BadOrder", "NothingToUndo", "NothingToRedo", "ZERO", "number", "plus"]
def loose1 : List PySem.Str := ["minus", "times", "over", "moves", "IDENTITY", "lead_step", "lead", "after", "determinant", "back", "_law_gcd", "_law_row", "_law_next", "_law_form", "_law_entry", "_law_mover", "_law_corner", "_law_int", "_law_formed", "_law_is", "_law_all", "_law_sum", "_law_product", "_law_apply", "_law_after", "_law_det", "_law_with", "_law_stray", "_law_ask", "_law_moved"]
def loose2 : List PySem.Str := ["_law_fine", "_law_det_is", "_law_leads", "_law_composed", "_law_back", "_law_movers", "_law_dets"]
abbrev loose : List PySem.Str := loose0 ++ loose1 ++ loose2
theorem run (w : World) : HandSHeadRun.RunEqI R (PySem.W.view R.prog [0, 72]) hk ob 20000 loose w := by
  unfold HandSHeadRun.RunEqI
  kernel_rfl
section
variable {P : Program} {w : World} {K : PySem.W.Frag} {h : Heap} {mg : Str → Option Value}
theorem tx (X : K.In h) (G : h.Ns mainGlobals mg) (c : SaysX fal fnl exl K) : Tx K mg where
  b_ValueError := He.free_ok X G (c.toD.fact 39 (f := .free "ValueError") rfl)
  b_abs := He.free_ok X G (c.toD.fact 40 (f := .free "abs") rfl)
  b_bool := He.free_ok X G (c.toD.fact 41 (f := .free "bool") rfl)
  b_int := He.free_ok X G (c.toD.fact 42 (f := .free "int") rfl)
  b_isinstance := He.free_ok X G (c.toD.fact 43 (f := .free "isinstance") rfl)
  b_len := He.free_ok X G (c.toD.fact 44 (f := .free "len") rfl)
  b_range := He.free_ok X G (c.toD.fact 45 (f := .free "range") rfl)
  b_tuple := He.free_ok X G (c.toD.fact 46 (f := .free "tuple") rfl)
  i_gcd := bltB_ok X G (c.ext 0 (f := bltB "gcd" "math.gcd") rfl)
  g_IDENTITY := He.glo_ok X G (c.toD.fact 47 (f := .glo "IDENTITY") rfl)
  c_IDENTITY := shB_ref (c.ext 1 (f := cstB "IDENTITY" c_IDENTITY) rfl)
  g_ZERO := He.glo_ok X G (c.toD.fact 48 (f := .glo "ZERO") rfl)
  c_ZERO := shB_ref (c.ext 2 (f := cstB "ZERO" c_ZERO) rfl)
  x_ByZero := ⟨c.toD.fact 49 (f := .exc "ByZero") rfl, He.glo_ok X G (c.toD.fact 52 (f := .glo "ByZero") rfl)⟩
  x_Flat := ⟨c.toD.fact 50 (f := .exc "Flat") rfl, He.glo_ok X G (c.toD.fact 53 (f := .glo "Flat") rfl)⟩
  x_Moving := ⟨c.toD.fact 51 (f := .exc "Moving") rfl, He.glo_ok X G (c.toD.fact 54 (f := .glo "Moving") rfl)⟩
  g_BadHeights := He.glo_ok X G (c.toD.fact 55 (f := .glo "BadHeights") rfl)
  g_BadOrder := He.glo_ok X G (c.toD.fact 56 (f := .glo "BadOrder") rfl)
  g_BadPart := He.glo_ok X G (c.toD.fact 57 (f := .glo "BadPart") rfl)
  g_BadRange := He.glo_ok X G (c.toD.fact 58 (f := .glo "BadRange") rfl)
  g_BadText := He.glo_ok X G (c.toD.fact 59 (f := .glo "BadText") rfl)
  g_BadTurn := He.glo_ok X G (c.toD.fact 60 (f := .glo "BadTurn") rfl)
  g_ByZero := He.glo_ok X G (c.toD.fact 61 (f := .glo "ByZero") rfl)
  g_Flat := He.glo_ok X G (c.toD.fact 62 (f := .glo "Flat") rfl)
  g_Moving := He.glo_ok X G (c.toD.fact 63 (f := .glo "Moving") rfl)
  g_NoEntry := He.glo_ok X G (c.toD.fact 64 (f := .glo "NoEntry") rfl)
  g_NoPage := He.glo_ok X G (c.toD.fact 65 (f := .glo "NoPage") rfl)
  g_NoPatch := He.glo_ok X G (c.toD.fact 66 (f := .glo "NoPatch") rfl)
  g_NoPiece := He.glo_ok X G (c.toD.fact 67 (f := .glo "NoPiece") rfl)
  g_NoPlace := He.glo_ok X G (c.toD.fact 68 (f := .glo "NoPlace") rfl)
  g_NotOpaque := He.glo_ok X G (c.toD.fact 69 (f := .glo "NotOpaque") rfl)
  g_NotWithin := He.glo_ok X G (c.toD.fact 70 (f := .glo "NotWithin") rfl)
  g_NothingToRedo := He.glo_ok X G (c.toD.fact 71 (f := .glo "NothingToRedo") rfl)
  g_NothingToUndo := He.glo_ok X G (c.toD.fact 72 (f := .glo "NothingToUndo") rfl)
  g_Parallel := He.glo_ok X G (c.toD.fact 73 (f := .glo "Parallel") rfl)
  g_PrintError := He.glo_ok X G (c.toD.fact 74 (f := .glo "PrintError") rfl)
  g_SameInk := He.glo_ok X G (c.toD.fact 75 (f := .glo "SameInk") rfl)
  g_TooDeep := He.glo_ok X G (c.toD.fact 76 (f := .glo "TooDeep") rfl)
  g_TooGreat := He.glo_ok X G (c.toD.fact 77 (f := .glo "TooGreat") rfl)
  g_TooLong := He.glo_ok X G (c.toD.fact 78 (f := .glo "TooLong") rfl)
  g_TooMany := He.glo_ok X G (c.toD.fact 79 (f := .glo "TooMany") rfl)
  g_TooManyPages := He.glo_ok X G (c.toD.fact 80 (f := .glo "TooManyPages") rfl)
  g_Turns := He.glo_ok X G (c.toD.fact 81 (f := .glo "Turns") rfl)
  xt := xtB_ok (c.ext 3 (f := xtB xtab cns ens) rfl)
theorem law_fn (X : K.In h) (G : h.Ns mainGlobals mg) (c : SaysX fal fnl exl K) : ∃ (fd : FuncData), (∀ (s : Shared) (u : Value), BindsTo s fd ⟨[u], []⟩ [("script", u)]) ∧ ∀ base : Heap, FnOk P w K mg base (L2.CX P w) 10 (He.fAd K ("law", none)) fd ["script"] (spF K 1 F_law) := by
  have T := tx X G c
  obtain ⟨f_number, G_number⟩ := c.toD.def_ 0 (d := d_number) rfl
  have H_number_1 := fun base : Heap => D_number_1 (P := P) (w := w) (base := base) G_number (He.glo_ok X G (c.toD.fact 0 (f := .glo "number") rfl)) T
  have H_number_2 := fun base : Heap => D_number_2 (P := P) (w := w) (base := base) G_number (He.glo_ok X G (c.toD.fact 0 (f := .glo "number") rfl)) T
  have H_number_3 := fun base : Heap => D_number_3 (P := P) (w := w) (base := base) G_number (He.glo_ok X G (c.toD.fact 0 (f := .glo "number") rfl)) T
  obtain ⟨f_plus, G_plus⟩ := c.toD.def_ 1 (d := d_plus) rfl
  have H_plus := fun base : Heap => D_plus (P := P) (w := w) (base := base) G_plus (He.glo_ok X G (c.toD.fact 1 (f := .glo "plus") rfl)) T (H_number_1 base) (H_number_2 base) (H_number_3 base)
  obtain ⟨f_minus, G_minus⟩ := c.toD.def_ 2 (d := d_minus) rfl
  have H_minus := fun base : Heap => D_minus (P := P) (w := w) (base := base) G_minus (He.glo_ok X G (c.toD.fact 2 (f := .glo "minus") rfl)) T (H_number_1 base) (H_number_2 base) (H_number_3 base)
  obtain ⟨f_times, G_times⟩ := c.toD.def_ 3 (d := d_times) rfl
  have H_times := fun base : Heap => D_times (P := P) (w := w) (base := base) G_times (He.glo_ok X G (c.toD.fact 3 (f := .glo "times") rfl)) T (H_number_1 base) (H_number_2 base) (H_number_3 base)
  obtain ⟨f_over, G_over⟩ := c.toD.def_ 4 (d := d_over) rfl
  have H_over := fun base : Heap => D_over (P := P) (w := w) (base := base) G_over (He.glo_ok X G (c.toD.fact 4 (f := .glo "over") rfl)) T (H_number_1 base) (H_number_2 base) (H_number_3 base)
  obtain ⟨f_moves, G_moves⟩ := c.toD.def_ 5 (d := d_moves) rfl
  have H_moves := fun base : Heap => D_moves (P := P) (w := w) (base := base) G_moves (He.glo_ok X G (c.toD.fact 5 (f := .glo "moves") rfl)) T
  obtain ⟨f_lead_step, G_lead_step⟩ := c.toD.def_ 6 (d := d_lead_step) rfl
  have H_lead_step := fun base : Heap => D_lead_step (P := P) (w := w) (base := base) G_lead_step (He.glo_ok X G (c.toD.fact 6 (f := .glo "lead_step") rfl)) T (H_plus base) (H_times base)
  obtain ⟨f_lead, G_lead⟩ := c.toD.def_ 7 (d := d_lead) rfl
  have H_lead := fun base : Heap => D_lead (P := P) (w := w) (base := base) G_lead (He.glo_ok X G (c.toD.fact 7 (f := .glo "lead") rfl)) T (H_lead_step base) (H_plus base)
  obtain ⟨f_after, G_after⟩ := c.toD.def_ 8 (d := d_after) rfl
  have H_after := fun base : Heap => D_after (P := P) (w := w) (base := base) G_after (He.glo_ok X G (c.toD.fact 8 (f := .glo "after") rfl)) T (H_lead_step base) (H_lead base)
  obtain ⟨f_determinant, G_determinant⟩ := c.toD.def_ 9 (d := d_determinant) rfl
  have H_determinant := fun base : Heap => D_determinant (P := P) (w := w) (base := base) G_determinant (He.glo_ok X G (c.toD.fact 9 (f := .glo "determinant") rfl)) T (H_minus base) (H_times base)
  obtain ⟨f_back, G_back⟩ := c.toD.def_ 10 (d := d_back) rfl
  have H_back := fun base : Heap => D_back (P := P) (w := w) (base := base) G_back (He.glo_ok X G (c.toD.fact 10 (f := .glo "back") rfl)) T (H_determinant base) (H_moves base) (H_over base) (H_lead_step base) (H_minus base)
  obtain ⟨f__law_gcd, G__law_gcd⟩ := c.toD.def_ 11 (d := d__law_gcd) rfl
  have H__law_gcd := fun base : Heap => D__law_gcd (P := P) (w := w) (base := base) G__law_gcd (He.glo_ok X G (c.toD.fact 11 (f := .glo "_law_gcd") rfl)) T
  obtain ⟨f__law_row, G__law_row⟩ := c.toD.def_ 12 (d := d__law_row) rfl
  have H__law_row := fun base : Heap => D__law_row (P := P) (w := w) (base := base) G__law_row (He.glo_ok X G (c.toD.fact 12 (f := .glo "_law_row") rfl)) T
  obtain ⟨f__law_next, G__law_next⟩ := c.toD.def_ 13 (d := d__law_next) rfl
  have H__law_next := fun base : Heap => D__law_next (P := P) (w := w) (base := base) G__law_next (He.glo_ok X G (c.toD.fact 13 (f := .glo "_law_next") rfl)) T
  obtain ⟨f__law_form, G__law_form⟩ := c.toD.def_ 14 (d := d__law_form) rfl
  have H__law_form := fun base : Heap => D__law_form (P := P) (w := w) (base := base) G__law_form (He.glo_ok X G (c.toD.fact 14 (f := .glo "_law_form") rfl)) T (H__law_gcd base)
  obtain ⟨f__law_entry, G__law_entry⟩ := c.toD.def_ 15 (d := d__law_entry) rfl
  have H__law_entry := fun base : Heap => D__law_entry (P := P) (w := w) (base := base) G__law_entry (He.glo_ok X G (c.toD.fact 15 (f := .glo "_law_entry") rfl)) T (H__law_form base) (H__law_next base)
  obtain ⟨f__law_mover, G__law_mover⟩ := c.toD.def_ 16 (d := d__law_mover) rfl
  have H__law_mover := fun base : Heap => D__law_mover (P := P) (w := w) (base := base) G__law_mover (He.glo_ok X G (c.toD.fact 16 (f := .glo "_law_mover") rfl)) T (H__law_form base) (H__law_next base)
  obtain ⟨f__law_corner, G__law_corner⟩ := c.toD.def_ 17 (d := d__law_corner) rfl
  have H__law_corner := fun base : Heap => D__law_corner (P := P) (w := w) (base := base) G__law_corner (He.glo_ok X G (c.toD.fact 17 (f := .glo "_law_corner") rfl)) T (H__law_next base) (H__law_mover base) (H__law_entry base)
  obtain ⟨f__law_int, G__law_int⟩ := c.toD.def_ 18 (d := d__law_int) rfl
  have H__law_int := fun base : Heap => D__law_int (P := P) (w := w) (base := base) G__law_int (He.glo_ok X G (c.toD.fact 18 (f := .glo "_law_int") rfl)) T
  obtain ⟨f__law_formed, G__law_formed⟩ := c.toD.def_ 19 (d := d__law_formed) rfl
  have H__law_formed := fun base : Heap => D__law_formed (P := P) (w := w) (base := base) G__law_formed (He.glo_ok X G (c.toD.fact 19 (f := .glo "_law_formed") rfl)) T (H__law_int base) (H__law_gcd base)
  obtain ⟨f__law_is, G__law_is⟩ := c.toD.def_ 20 (d := d__law_is) rfl
  have H__law_is := fun base : Heap => D__law_is (P := P) (w := w) (base := base) G__law_is (He.glo_ok X G (c.toD.fact 20 (f := .glo "_law_is") rfl)) T (H__law_formed base)
  obtain ⟨f__law_all, G__law_all⟩ := c.toD.def_ 21 (d := d__law_all) rfl
  have H__law_all := fun base : Heap => D__law_all (P := P) (w := w) (base := base) G__law_all (He.glo_ok X G (c.toD.fact 21 (f := .glo "_law_all") rfl)) T (H__law_is base)
  obtain ⟨f__law_sum, G__law_sum⟩ := c.toD.def_ 22 (d := d__law_sum) rfl
  have H__law_sum := fun base : Heap => D__law_sum (P := P) (w := w) (base := base) G__law_sum (He.glo_ok X G (c.toD.fact 22 (f := .glo "_law_sum") rfl)) T
  obtain ⟨f__law_product, G__law_product⟩ := c.toD.def_ 23 (d := d__law_product) rfl
  have H__law_product := fun base : Heap => D__law_product (P := P) (w := w) (base := base) G__law_product (He.glo_ok X G (c.toD.fact 23 (f := .glo "_law_product") rfl)) T
  obtain ⟨f__law_apply, G__law_apply⟩ := c.toD.def_ 24 (d := d__law_apply) rfl
  have H__law_apply := fun base : Heap => D__law_apply (P := P) (w := w) (base := base) G__law_apply (He.glo_ok X G (c.toD.fact 24 (f := .glo "_law_apply") rfl)) T (H__law_sum base) (H__law_product base)
  obtain ⟨f__law_after, G__law_after⟩ := c.toD.def_ 25 (d := d__law_after) rfl
  have H__law_after := fun base : Heap => D__law_after (P := P) (w := w) (base := base) G__law_after (He.glo_ok X G (c.toD.fact 25 (f := .glo "_law_after") rfl)) T (H__law_apply base)
  obtain ⟨f__law_det, G__law_det⟩ := c.toD.def_ 26 (d := d__law_det) rfl
  have H__law_det := fun base : Heap => D__law_det (P := P) (w := w) (base := base) G__law_det (He.glo_ok X G (c.toD.fact 26 (f := .glo "_law_det") rfl)) T (H__law_product base) (H__law_sum base)
  obtain ⟨f__law_with, G__law_with⟩ := c.toD.def_ 27 (d := d__law_with) rfl
  have H__law_with := fun base : Heap => D__law_with (P := P) (w := w) (base := base) G__law_with (He.glo_ok X G (c.toD.fact 27 (f := .glo "_law_with") rfl)) T
  obtain ⟨f__law_stray, G__law_stray⟩ := c.toD.def_ 28 (d := d__law_stray) rfl
  have H__law_stray := fun base : Heap => D__law_stray (P := P) (w := w) (base := base) G__law_stray (He.glo_ok X G (c.toD.fact 28 (f := .glo "_law_stray") rfl)) T
  obtain ⟨f__law_ask, G__law_ask⟩ := c.toD.def_ 29 (d := d__law_ask) rfl
  have H__law_ask := fun base : Heap => D__law_ask (P := P) (w := w) (base := base) G__law_ask (He.glo_ok X G (c.toD.fact 29 (f := .glo "_law_ask") rfl)) T (H_back base) (H_after base) (H_lead base) (H_lead_step base) (H_determinant base) (H__law_stray base)
  obtain ⟨f__law_moved, G__law_moved⟩ := c.toD.def_ 30 (d := d__law_moved) rfl
  have H__law_moved := fun base : Heap => D__law_moved (P := P) (w := w) (base := base) G__law_moved (He.glo_ok X G (c.toD.fact 30 (f := .glo "_law_moved") rfl)) T (H__law_ask base)
  obtain ⟨f__law_fine, G__law_fine⟩ := c.toD.def_ 31 (d := d__law_fine) rfl
  have H__law_fine := fun base : Heap => D__law_fine (P := P) (w := w) (base := base) G__law_fine (He.glo_ok X G (c.toD.fact 31 (f := .glo "_law_fine") rfl)) T (H__law_ask base) (H__law_all base)
  obtain ⟨f__law_det_is, G__law_det_is⟩ := c.toD.def_ 32 (d := d__law_det_is) rfl
  have H__law_det_is := fun base : Heap => D__law_det_is (P := P) (w := w) (base := base) G__law_det_is (He.glo_ok X G (c.toD.fact 32 (f := .glo "_law_det_is") rfl)) T (H__law_ask base) (H__law_is base) (H__law_det base)
  obtain ⟨f__law_leads, G__law_leads⟩ := c.toD.def_ 33 (d := d__law_leads) rfl
  have H__law_leads := fun base : Heap => D__law_leads (P := P) (w := w) (base := base) G__law_leads (He.glo_ok X G (c.toD.fact 33 (f := .glo "_law_leads") rfl)) T (H__law_fine base) (H__law_apply base)
  obtain ⟨f__law_composed, G__law_composed⟩ := c.toD.def_ 34 (d := d__law_composed) rfl
  have H__law_composed := fun base : Heap => D__law_composed (P := P) (w := w) (base := base) G__law_composed (He.glo_ok X G (c.toD.fact 34 (f := .glo "_law_composed") rfl)) T (H__law_apply base) (H__law_all base) (H__law_fine base) (H_lead base) (H__law_leads base) (H__law_det_is base) (H__law_after base) (H_after base)
  obtain ⟨f__law_back, G__law_back⟩ := c.toD.def_ 35 (d := d__law_back) rfl
  have H__law_back := fun base : Heap => D__law_back (P := P) (w := w) (base := base) G__law_back (He.glo_ok X G (c.toD.fact 35 (f := .glo "_law_back") rfl)) T (H__law_ask base) (H__law_after base) (H__law_all base) (H__law_det base) (H_lead base) (H_back base) (H__law_formed base)
  obtain ⟨f__law_movers, G__law_movers⟩ := c.toD.def_ 36 (d := d__law_movers) rfl
  have H__law_movers := fun base : Heap => D__law_movers (P := P) (w := w) (base := base) G__law_movers (He.glo_ok X G (c.toD.fact 36 (f := .glo "_law_movers") rfl)) T (H__law_next base) (H__law_with base) (H__law_leads base) (H__law_moved base) (H__law_fine base) (H__law_after base)
  obtain ⟨f__law_dets, G__law_dets⟩ := c.toD.def_ 37 (d := d__law_dets) rfl
  have H__law_dets := fun base : Heap => D__law_dets (P := P) (w := w) (base := base) G__law_dets (He.glo_ok X G (c.toD.fact 37 (f := .glo "_law_dets") rfl)) T (H__law_next base) (H__law_with base) (H__law_moved base) (H__law_det_is base)
  obtain ⟨fd, F⟩ := c.toD.def_ 38 (d := d_law) rfl
  have b := FunD.bindsA (ps := ["script"]) F fun _ _ _ _ _ _ us hl => match us, hl with | [_], _ => rfl
  exact ⟨fd, fun s v => b s [v] rfl, fun base => D_law F T (H__law_corner base) (H__law_mover base) (H__law_form base) (H__law_row base) (H__law_next base) (H__law_all base) (H__law_back base) (H__law_movers base) (H__law_dets base) (H__law_composed base) (H__law_entry base)⟩
end
end K02
open PySem PySem.W PySem.Calls PyProof.Rows DL
theorem K02.hold (plain : ∀ ns : List Int, ns.length ≤ 63 → ∃ outs, K02.F_law [.klst (ns.map D.int)] = .ok (.bl true) outs) : PySem.Challenge.rw_printstacks_k02_matrices_lead_and_come_b.Holds := by
  w_on; o_law
  refine HandSHeadRun.head_imp (r := OpenLaw.row PySem.Challenge.rw_printstacks_k02_matrices_lead_and_come_b) (q := view (OpenLaw.row PySem.Challenge.rw_printstacks_k02_matrices_lead_and_come_b).prog [0, 72]) (H := K02.hk) (ob := K02.ob) (M := 20000) (loose := K02.loose) (d := HandSHeadRun.topDef (OpenLaw.row PySem.Challenge.rw_printstacks_k02_matrices_lead_and_come_b).prog 72) (kwd := []) K02.ob_eq
    K02.run (by kernel_rfl) (by kernel_rfl) (by kernel_rfl) (by rfl) (by first | assumption | decide +kernel) (by decide +kernel) ⟨rfl, rfl, rfl, rfl, rfl, by decide +kernel⟩ ?hw ?hc
  case hw => w_witness2
  case hc =>
    refine walk_ofW (l := PySem.Challenge.rw_printstacks_k02_matrices_lead_and_come_b) (n := 63) (k := 10) (x := "script") (F := K02.F_law) rfl (by decide) (by kernel_rfl) ⟨rfl, by decide, by decide⟩ plain fun w mg fa h Y G hmg0 => ?_
    obtain ⟨K, KX, c⟩ := Y
    have hmg : mg ("law" : PySem.Str) = some (.ref fa) := by
      have e : (HandSHeadRun.topDef (OpenLaw.row PySem.Challenge.rw_printstacks_k02_matrices_lead_and_come_b).prog 72).name = ("law" : PySem.Str) := by kernel_rfl
      rw [← e]
      exact hmg0
    have e := hmg.symm.trans (He.glo_ok KX G (c.toD.fact 38 (f := .glo "law") rfl))
    cases e
    obtain ⟨fd, b, F⟩ := K02.law_fn (P := (PySem.Challenge.rw_printstacks_k02_matrices_lead_and_come_b).prog) (w := w) KX G c
    exact ⟨K, fd, KX, b, F⟩
end

section
set_option maxRecDepth 100000
set_option maxHeartbeats 2000000
namespace DL
open PySem

/-! ### what a run gives, told from behind -/
structure Hd {γ : Type} (Q : γ) : Type where
/-- E: what is asked where an exception x leaves -/
def Wq {α : Type} (E : Exn → Env → Prop) (r : Rs α) (Q : α → Env → Prop) (_ : Hd (E, Q) := ⟨⟩) : Prop := match r with
  | .ok a e => Q a e
  | .ex x e => E x e
  | .no => False
abbrev noE : Exn → Env → Prop := fun _ _ => False
abbrev Wp {α : Type} (r : Rs α) (Q : α → Env → Prop) : Prop := Wq noE r Q
theorem Wq.ext {α : Type} {E : Exn → Env → Prop} {r : Rs α} {P Q : α → Env → Prop} (h : ∀ a e, P a e = Q a e) : Wq E r P = Wq E r Q := by
  have : P = Q := funext fun a => funext fun e => h a e
  subst this
  rfl
theorem Wq.imp {α : Type} {E E' : Exn → Env → Prop} {r : Rs α} {P Q : α → Env → Prop} (h : Wq E r P) (k : ∀ a e, P a e → Q a e) (l : ∀ x e, E x e → E' x e) : Wq E' r Q := by
  cases r with
  | ok a e => exact k a e h
  | ex x e => exact l x e h
  | no => exact h
theorem Wp.imp {α : Type} {E : Exn → Env → Prop} {r : Rs α} {P Q : α → Env → Prop} (h : Wp r P) (k : ∀ a e, P a e → Q a e) : Wq E r Q := Wq.imp h k fun _ _ z => z.elim
theorem Wp.get {α : Type} {r : Rs α} {P : α → Env → Prop} (h : Wp r P) : ∃ a e, r = .ok a e ∧ P a e := by
  cases r with
  | ok a e => exact ⟨a, e, rfl, h⟩
  | ex x e => exact (show False from h).elim
  | no => exact (show False from h).elim
theorem Wp.and {α : Type} {r : Rs α} {P Q : α → Env → Prop} (h : Wp r P) (k : Wp r Q) : Wp r fun a e => P a e ∧ Q a e := by
  cases r with
  | ok a e => exact ⟨h, k⟩
  | ex x e => exact h
  | no => exact h
/-- an option that is there -/
def Op {α : Type} (o : Option α) (P : α → Prop) (_ : Hd P := ⟨⟩) : Prop := match o with
  | some a => P a
  | none => False
@[simp] theorem op_some {α : Type} {a : α} {P : α → Prop} : Op (some a) P = P a := rfl
@[simp] theorem op_none {α : Type} {P : α → Prop} : Op none P = False := rfl
@[simp] theorem op_bind {α β : Type} {o : Option α} {f : α → Option β} {P : β → Prop} : Op (o.bind f) P = Op o fun a => Op (f a) P := by cases o <;> rfl
@[simp] theorem op_ifn {α : Type} {c : Prop} [Decidable c] {a : Option α} {P : α → Prop} : Op (if c then a else none) P = (c ∧ Op a P) := by
  by_cases h : c <;> simp [h]
theorem op_if {α : Type} {c : Prop} [Decidable c] {a b : Option α} {P : α → Prop} : Op (if c then a else b) P = ((c → Op a P) ∧ (¬c → Op b P)) := by
  by_cases h : c <;> simp [h]

section
variable {E : Exn → Env → Prop} {α β : Type} {Q : α → Env → Prop} {e : Env}
@[simp] theorem wp_ok {a : α} : Wq E (.ok a e) Q = Q a e := rfl
@[simp] theorem wp_mret {a : α} : Wq E (mret a e) Q = Q a e := rfl
@[simp] theorem wp_bind {r : Rs β} {g : β → M α} : Wq E (r.bind g) Q = Wq E r fun b e' => Wq E (g b e') Q := by cases r <;> rfl
@[simp] theorem wp_mbind {f : M β} {g : β → M α} : Wq E (mbind f g e) Q = Wq E (f e) fun b e' => Wq E (g b e') Q := by
  unfold mbind
  cases f e <;> rfl
@[simp] theorem wp_some {a : α} : Wq E (mopt (some a) e) Q = Q a e := rfl
@[simp] theorem wp_iteM {c : Prop} [Decidable c] {a b : M α} : Wq E ((if c then a else b) e) Q = ((c → Wq E (a e) Q) ∧ (¬c → Wq E (b e) Q)) := by
  by_cases h : c <;> simp [h]
@[simp] theorem wp_ite {c : Prop} [Decidable c] {a b : Rs α} : Wq E (if c then a else b) Q = ((c → Wq E a Q) ∧ (¬c → Wq E b Q)) := by
  by_cases h : c <;> simp [h]
@[simp] theorem wp_no : Wq E (.no : Rs α) Q = False := rfl
end
section
variable {E : Exn → Env → Prop} {Q : D → Env → Prop} {QF : Fl → Env → Prop} {QL : List D → Env → Prop} {QB : Bool → Env → Prop} {e : Env}
/-- a slot's value as a name gives it -/
def seeD (i : Nat) : D → D
  | .own _ => .al i
  | .bor _ => .al i
  | d => d
@[simp] theorem see_own {i xs} : seeD i (.own xs) = .al i := rfl
@[simp] theorem see_bor {i xs} : seeD i (.bor xs) = .al i := rfl
@[simp] theorem see_int {i n} : seeD i (.int n) = .int n := rfl
@[simp] theorem see_bl {i n} : seeD i (.bl n) = .bl n := rfl
@[simp] theorem see_str {i n} : seeD i (.str n) = .str n := rfl
@[simp] theorem see_tup {i n} : seeD i (.tup n) = .tup n := rfl
@[simp] theorem see_lst {i n} : seeD i (.lst n) = .lst n := rfl
@[simp] theorem see_klst {i n} : seeD i (.klst n) = .klst n := rfl
@[simp] theorem see_non {i} : seeD i .non = .non := rfl
theorem see_al {i j} : seeD i (.al j) = .al j := rfl
@[simp] theorem wp_var {i : Nat} : Wq E (eVar i e) Q = (match e[i]? with | some (some d) => Q (seeD i d) e | _ => False) := by
  unfold eVar
  cases h : e[i]? with
  | none => rfl
  | some o => cases o with
    | none => rfl
    | some d => cases d <;> rfl
/-- of a slot that is no list of one's own -/
@[simp] theorem wp_val_at {i : Nat} : Wq E (eVal i e) Q = (match e[i]? with
    | some (some (.own xs)) => (xs.all isSh) = true ∧ Q (.lst xs) (e.set i (some (.lst xs)))
    | some (some (.bor _)) => False
    | some (some (.al _)) => False
    | some (some d) => Q d e
    | _ => False) := by
  unfold eVal
  cases h : e[i]? with
  | none => rfl
  | some o => cases o with
    | none => rfl
    | some d => cases d with
      | own xs =>
        by_cases q : (xs.all isSh) = true
        · simp only [q, if_true]; simp
        · simp only [q]; simp
      | _ => rfl
@[simp] theorem wp_C {d : D} : Wq E (eC d e) Q = Q d e := rfl
@[simp] theorem wp_bin {op : D → D → Option D} {fa fb : M D} : Wq E (eBin op fa fb e) Q = Wq E (fa e) fun x e1 => Wq E (fb e1) fun y e2 => Wq E (mopt (op (rs e2 x) (rs e2 y)) e2) Q := by
  unfold eBin
  rw [wp_mbind]
  refine Wq.ext fun x e1 => ?_
  rw [wp_mbind]
@[simp] theorem wp_blt {op : List D → Option D} {fs : M (List D)} : Wq E (eBlt op fs e) Q = Wq E (fs e) fun ds e1 => Wq E (mopt (op (ds.map (rs e1))) e1) Q := by
  unfold eBlt
  rw [wp_mbind]
@[simp] theorem wp_nil : Wq E (aNil e) QL = QL [] e := rfl
@[simp] theorem wp_cons {f : M D} {g : M (List D)} : Wq E (aCons f g e) QL = Wq E (f e) fun d e1 => Wq E (g e1) fun ds e2 => QL (d :: ds) e2 := by
  unfold aCons
  rw [wp_mbind]
  refine Wq.ext fun x e1 => ?_
  rw [wp_mbind]
  rfl
@[simp] theorem wp_tOf {f : M D} : Wq E (tOf f e) QB = Wq E (f e) fun d e1 => Wq E (mopt (bOf d) e1) QB := by
  unfold tOf
  rw [wp_mbind]
@[simp] theorem wp_tTru {f : M D} : Wq E (tTruD f e) QB = Wq E (f e) fun d e1 => Wq E (mopt (dTru (rs e1 d)) e1) QB := by
  unfold tTruD
  rw [wp_mbind]
@[simp] theorem wp_tNot {f : M Bool} : Wq E (tNotD f e) QB = Wq E (f e) fun k e1 => QB (!k) e1 := by
  unfold tNotD
  rw [wp_mbind]
  rfl
@[simp] theorem wp_tAnd {f g : M Bool} : Wq E (tAndD f g e) QB = Wq E (f e) fun k e1 => (k = true → Wq E (g e1) QB) ∧ (¬k = true → QB false e1) := by
  unfold tAndD
  rw [wp_mbind]
  refine Wq.ext fun k e1 => ?_
  rw [wp_iteM]
  rfl
@[simp] theorem wp_tOr {f g : M Bool} : Wq E (tOrD f g e) QB = Wq E (f e) fun k e1 => (k = true → QB true e1) ∧ (¬k = true → Wq E (g e1) QB) := by
  unfold tOrD
  rw [wp_mbind]
  refine Wq.ext fun k e1 => ?_
  rw [wp_iteM]
  rfl
@[simp] theorem wp_eIf {t : M Bool} {a b : M D} : Wq E (eIf t a b e) Q = Wq E (t e) fun k e1 => (k = true → Wq E (a e1) Q) ∧ (¬k = true → Wq E (b e1) Q) := by
  unfold eIf
  rw [wp_mbind]
  refine Wq.ext fun k e1 => ?_
  rw [wp_iteM]
@[simp] theorem wp_tYes : Wq E (tYesD e) QB = QB true e := rfl
/-! statements -/
@[simp] theorem wp_next : Wq E (sNext e) QF = QF .nx e := rfl
@[simp] theorem wp_pass : Wq E (sPass e) QF = QF .nx e := rfl
@[simp] theorem wp_break : Wq E (sBreak e) QF = QF .bk e := rfl
@[simp] theorem wp_cont : Wq E (sCont e) QF = QF .ct e := rfl
@[simp] theorem wp_retN : Wq E (sRetN e) QF = QF (.rt .non) e := rfl
/-- what follows a statement -/
def thn (E : Exn → Env → Prop) (b : M Fl) (Q : Fl → Env → Prop) : Fl → Env → Prop
  | .nx, e => Wq E (b e) Q
  | f, e => Q f e
@[simp] theorem thn_nx {b : M Fl} : thn E b QF .nx e = Wq E (b e) QF := rfl
@[simp] theorem thn_bk {b : M Fl} : thn E b QF .bk e = QF .bk e := rfl
@[simp] theorem thn_ct {b : M Fl} : thn E b QF .ct e = QF .ct e := rfl
@[simp] theorem thn_rt {b : M Fl} {d : D} : thn E b QF (.rt d) e = QF (.rt d) e := rfl
@[simp] theorem wp_seq {a b : M Fl} : Wq E (sSeq a b e) QF = Wq E (a e) (thn E b QF) := by
  unfold sSeq
  cases a e with
  | ok f e1 => cases f <;> rfl
  | _ => rfl
@[simp] theorem wp_ret {f : M D} : Wq E (sRet f e) QF = Wq E (f e) fun d e1 => isSh d = true ∧ QF (.rt d) e1 := by
  unfold sRet
  rw [wp_mbind]
  refine Wq.ext fun d e1 => ?_
  rw [wp_iteM]
  by_cases h : isSh d = true <;> simp [h]
@[simp] theorem wp_if {t : M Bool} {a b : M Fl} : Wq E (sIf t a b e) QF = Wq E (t e) fun k e1 => (k = true → Wq E (a e1) QF) ∧ (¬k = true → Wq E (b e1) QF) := by
  unfold sIf
  rw [wp_mbind]
  refine Wq.ext fun k e1 => ?_
  rw [wp_iteM]
@[simp] theorem wp_asg {i : Nat} {f : M D} : Wq E (sAsg i f e) QF = Wq E (f e) fun d e1 => isSh d = true ∧ QF .nx (e1.set i (some d)) := by
  unfold sAsg
  rw [wp_mbind]
  refine Wq.ext fun d e1 => ?_
  rw [wp_iteM]
  by_cases h : isSh d = true <;> simp [h]
@[simp] theorem wp_asgF {i : Nat} {f : M (List D)} : Wq E (sAsgF i f e) QF = Wq E (f e) fun ds e1 => QF .nx (e1.set i (some (.own ds))) := by
  unfold sAsgF
  rw [wp_mbind]
  rfl
@[simp] theorem wp_drop {f : M D} : Wq E (sDrop f e) QF = Wq E (f e) fun _ e1 => QF .nx e1 := by
  unfold sDrop
  rw [wp_mbind]
  rfl
@[simp] theorem wp_eTup {fs : M (List D)} : Wq E (eTup fs e) Q = Wq E (fs e) fun ds e1 => ((ds.all isSh) = true ∧ ds.length ≤ 1000000) ∧ Q (.tup ds) e1 := by
  unfold eTup
  rw [wp_mbind]
  refine Wq.ext fun ds e1 => ?_
  rw [wp_iteM]
  by_cases h : (ds.all isSh) = true ∧ ds.length ≤ 1000000
  · simp only [h]; simp
  · simp only [h]; simp
@[simp] theorem wp_lstF {fs : M (List D)} : Wq E (eLstF fs e) QL = Wq E (fs e) fun ds e1 => ((ds.all isSh) = true ∧ ds.length ≤ 1000000) ∧ QL ds e1 := by
  unfold eLstF
  rw [wp_mbind]
  refine Wq.ext fun ds e1 => ?_
  rw [wp_iteM]
  by_cases h : (ds.all isSh) = true ∧ ds.length ≤ 1000000
  · simp only [h]; simp
  · simp only [h]; simp
@[simp] theorem wp_frz {f : M (List D)} : Wq E (eFrz f e) Q = Wq E (f e) fun ds e1 => Q (.lst ds) e1 := by
  unfold eFrz
  rw [wp_mbind]
  rfl
@[simp] theorem wp_iter {f : M D} : Wq E (eIter f e) QL = Wq E (f e) fun d e1 => Wq E (mopt (seqSh d) e1) QL := by
  unfold eIter
  rw [wp_mbind]
@[simp] theorem wp_range {fs : M (List D)} : Wq E (eRange fs e) QL = Wq E (fs e) fun ds e1 => Wq E (mopt (rgOf ds) e1) QL := by
  unfold eRange
  rw [wp_mbind]
@[simp] theorem wp_range2 {fs : M (List D)} : Wq E (eRange2 fs e) QL = Wq E (fs e) fun ds e1 => Wq E (mopt (rgOf2 ds) e1) QL := by
  unfold eRange2
  rw [wp_mbind]
@[simp] theorem wp_slice {f : M D} {lo hi : M (Option Int)} : Wq E (eSlice f lo hi e) Q = Wq E (f e) fun x e1 => Wq E (lo e1) fun l e2 => Wq E (hi e2) fun h e3 => Wq E (mopt (dSlice (rs e3 x) l h) e3) Q := by
  unfold eSlice
  rw [wp_mbind]
  refine Wq.ext fun x e1 => ?_
  rw [wp_mbind]
  refine Wq.ext fun l e2 => ?_
  rw [wp_mbind]
@[simp] theorem wp_noPart {QO : Option Int → Env → Prop} : Wq E (eNoPart e) QO = QO none e := rfl
@[simp] theorem wp_part {QO : Option Int → Env → Prop} {f : M D} : Wq E (ePart f e) QO = Wq E (f e) fun d e1 => Wq E (mopt (iOf d) e1) QO := by
  unfold ePart
  rw [wp_mbind]
@[simp] theorem wp_sFor {it : M (List D)} {t : TgF} {b : M Fl} : Wq E (sFor it t b e) QF = Wq E (it e) fun ds e1 => Wq E (forL t b ds e1) QF := by
  unfold sFor
  rw [wp_mbind]
@[simp] theorem wp_comp {it : M (List D)} {vs : List Nat} {t : TgF} {ft : M Bool} {fe : M D} : Wq E (eComp it vs t ft fe e) QL = Wq E (it e) fun ds e1 => Wq E (compL vs t ft fe ds [] (eWipe e1 vs)) QL := by
  unfold eComp
  rw [wp_mbind]
@[simp] theorem wp_unp {t : TgF} {f : M D} : Wq E (sUnp t f e) QF = Wq E (f e) fun d e1 => isSh d = true ∧ (Op (t d e1) fun e2 => QF .nx e2) := by
  unfold sUnp
  rw [wp_mbind]
  refine Wq.ext fun d e1 => ?_
  by_cases h : isSh d = true
  · simp only [h, if_true]
    cases t d e1 <;> simp
  · simp [h]
@[simp] theorem wp_par {i j : Nat} {fs : M (List D)} : Wq E (sPar i j fs e) QF = Wq E (fs e) fun ds e1 => (match ds with | [a, b] => (isSh a = true ∧ isSh b = true) ∧ QF .nx ((e1.set i (some a)).set j (some b)) | _ => False) := by
  unfold sPar
  rw [wp_mbind]
  refine Wq.ext fun ds e1 => ?_
  rcases ds with _ | ⟨a, _ | ⟨b, _ | ⟨c, r⟩⟩⟩
  · rfl
  · rfl
  · show Wq E ((if isSh a = true ∧ isSh b = true then (fun e => Rs.ok Fl.nx ((e.set i (some a)).set j (some b)) : M Fl) else fun _ => Rs.no) e1) QF = _
    rw [wp_iteM]
    by_cases h : isSh a = true ∧ isSh b = true
    · simp only [h]; simp
    · simp only [h]; simp
  · rfl
@[simp] theorem wp_app {fo fy : M D} : Wq E (sApp fo fy e) QF = Wq E (fo e) fun o e1 => (ownAt e1 o).isSome = true ∧ Wq E (fy e1) fun y e2 => Op (appE e2 o y) fun e3 => QF .nx e3 := by
  unfold sApp
  rw [wp_mbind]
  refine Wq.ext fun o e1 => ?_
  by_cases h : (ownAt e1 o).isSome = true
  · rw [if_pos h, wp_mbind]
    simp only [h, true_and]
    refine Wq.ext fun y e2 => ?_
    cases appE e2 o y <;> simp
  · rw [if_neg h]
    simp [h]
@[simp] theorem wp_sub {fo fi fy : M D} : Wq E (sSub fo fi fy e) QF = Wq E (fy e) fun y e1 => isSh y = true ∧ Wq E (fo e1) fun o e2 => Wq E (fi e2) fun i e3 => Op (subE e3 o i y) fun e4 => QF .nx e4 := by
  unfold sSub
  rw [wp_mbind]
  refine Wq.ext fun y e1 => ?_
  by_cases h : isSh y = true
  · rw [if_pos h, wp_mbind]
    simp only [h, true_and]
    refine Wq.ext fun o e2 => ?_
    rw [wp_mbind]
    refine Wq.ext fun i e3 => ?_
    cases subE e3 o i y <;> simp
  · rw [if_neg h]
    simp [h]
@[simp] theorem wp_call {n : Nat} {F : List D → Rs D} {fs : M (List D)} : Wq E (eCall n F fs e) Q = Wq E (fs e) fun ds e1 => (ds.length = n ∧ alN ds = true ∧ (ds.map (rsB e1)).all noOwn = true) ∧ Wq (fun x outs => E x (putO e1 ds outs)) (F (ds.map (rsB e1))) fun r outs => Q r (putO e1 ds outs) := by
  unfold eCall
  rw [wp_mbind]
  refine Wq.ext fun ds e1 => ?_
  by_cases h : ds.length = n ∧ alN ds = true ∧ (ds.map (rsB e1)).all noOwn = true
  · simp only [h]
    cases F (ds.map (rsB e1)) <;> simp <;> rfl
  · simp only [h]
    simp
end
/-- a body, run -/
theorem wp_runF {E : Exn → Env → Prop} {N : Nat} {g : M Fl} {ds : List D} {Q : D → Env → Prop} : Wq E (runF N g ds) Q = Wq (fun x e => borOk ds e = true ∧ E x e) (g (ds.map some ++ List.replicate (N - ds.length) none)) fun f e => borOk ds e = true ∧ (match f with | .rt d => Q d e | .nx => Q .non e | _ => False) := by
  unfold runF endF
  cases g (ds.map some ++ List.replicate (N - ds.length) none) with
  | ok f e => cases f with
    | nx =>
      by_cases h : borOk ds e = true
      · simp [h]
      · simp [h]
    | rt d =>
      by_cases h : borOk ds e = true
      · simp [h]
      · simp [h]
    | _ => simp
  | ex x e =>
    show Wq E (if borOk ds e = true then Rs.ex x e else Rs.no) Q = (borOk ds e = true ∧ E x e)
    by_cases h : borOk ds e = true
    · rw [if_pos h]; simp only [h, true_and]; rfl
    · rw [if_neg h]; exact propext ⟨fun z => (show False from z).elim, fun z => (h z.1).elim⟩
  | no => rfl
/-- a turn's end -/
def trn (I : Env → Prop) (Q : Fl → Env → Prop) : Fl → Env → Prop
  | .nx, e => I e
  | .ct, e => I e
  | .bk, e => Q .nx e
  | .rt v, e => Q (.rt v) e
section
variable {I : Env → Prop} {Q : Fl → Env → Prop} {e : Env}
@[simp] theorem trn_nx : trn I Q .nx e = I e := rfl
@[simp] theorem trn_ct : trn I Q .ct e = I e := rfl
@[simp] theorem trn_bk : trn I Q .bk e = Q .nx e := rfl
@[simp] theorem trn_rt {v : D} : trn I Q (.rt v) e = Q (.rt v) e := rfl
end
theorem Op.get {α : Type} {o : Option α} {P : α → Prop} (h : Op o P) : ∃ a, o = some a ∧ P a := by
  cases o with
  | none => exact h.elim
  | some a => exact ⟨a, rfl, h⟩
/-- a loop by what holds ahead of each turn -/
theorem wp_forL {E : Exn → Env → Prop} {t : TgF} {b : M Fl} {Q : Fl → Env → Prop} (I : Nat → Env → Prop) : ∀ (ds : List D) (k : Nat) (e : Env), I k e →
    (∀ i d e1, ds[i]? = some d → I (k + i) e1 → Op (t d e1) fun e2 => Wq E (b e2) (trn (I (k + i + 1)) Q)) →
    (∀ e1, I (k + ds.length) e1 → Q .nx e1) → Wq E (forL t b ds e) Q
  | [], k, e, h, _, z => z e h
  | d :: ds, k, e, h, st, z => by
    obtain ⟨e2, h1, h2⟩ := (st 0 d e rfl h).get
    unfold forL
    simp only [h1]
    have rest : ∀ e3, I (k + 1) e3 → Wq E (forL t b ds e3) Q := fun e3 h3 => wp_forL I ds (k + 1) e3 h3
      (fun i d e1 hi hI => by
        have := st (i + 1) d e1 (by simpa using hi) (by rw [show k + (i + 1) = k + 1 + i by omega]; exact hI)
        rw [show k + (i + 1) + 1 = k + 1 + i + 1 by omega] at this
        exact this)
      (fun e1 hI => z e1 (by rw [List.length_cons, show k + (ds.length + 1) = k + 1 + ds.length by omega]; exact hI))
    generalize b e2 = r at h2 ⊢
    cases r with
    | ok f e3 => cases f with
      | nx => exact rest e3 h2
      | ct => exact rest e3 h2
      | bk => exact h2
      | rt v => exact h2
    | _ => exact h2
@[simp] theorem wp_forNil {E : Exn → Env → Prop} {t : TgF} {b : M Fl} {Q : Fl → Env → Prop} {e : Env} : Wq E (forL t b [] e) Q = Q .nx e := rfl
/-- what follows a turn -/
def turn (E : Exn → Env → Prop) (t : TgF) (b : M Fl) (ds : List D) (Q : Fl → Env → Prop) : Fl → Env → Prop
  | .nx, e => Wq E (forL t b ds e) Q
  | .ct, e => Wq E (forL t b ds e) Q
  | .bk, e => Q .nx e
  | .rt v, e => Q (.rt v) e
section
variable {E : Exn → Env → Prop} {t : TgF} {b : M Fl} {ds : List D} {Q : Fl → Env → Prop} {e : Env}
@[simp] theorem turn_nx : turn E t b ds Q .nx e = Wq E (forL t b ds e) Q := rfl
@[simp] theorem turn_ct : turn E t b ds Q .ct e = Wq E (forL t b ds e) Q := rfl
@[simp] theorem turn_bk : turn E t b ds Q .bk e = Q .nx e := rfl
@[simp] theorem turn_rt {v : D} : turn E t b ds Q (.rt v) e = Q (.rt v) e := rfl
@[simp] theorem wp_forCons {d : D} : Wq E (forL t b (d :: ds) e) Q = Op (t d e) fun e1 => Wq E (b e1) (turn E t b ds Q) := by
  show Wq E (match t d e with | none => Rs.no | some e1 => _) Q = _
  cases t d e with
  | none => rfl
  | some e1 =>
    show Wq E (match b e1 with | .ok .nx e2 => forL t b ds e2 | .ok .ct e2 => forL t b ds e2 | .ok .bk e2 => .ok .nx e2 | r => r) Q = Wq E (b e1) (turn E t b ds Q)
    cases b e1 with
    | ok f e3 => cases f <;> rfl
    | _ => rfl
end
section
variable {E : Exn → Env → Prop} {vs : List Nat} {t : TgF} {ft : M Bool} {fe : M D} {Q : List D → Env → Prop}
@[simp] theorem wp_bindN {α β : Type} {r : Rs α} {f : α → M β} {Q : β → Env → Prop} : Wq E (r.bindN f) Q = Wq noE r fun a e => Wq E (f a e) Q := by cases r <;> rfl
@[simp] theorem wp_compNil {acc : List D} {e : Env} : Wq E (compL vs t ft fe [] acc e) Q = Q acc e := rfl
@[simp] theorem wp_compCons {d : D} {ds acc : List D} {e : Env} : Wq E (compL vs t ft fe (d :: ds) acc e) Q = Op (t d e) fun e1 => Wq noE (ft e1) fun k e2 => (k = true → Wq noE (fe e2) fun y e3 => (isSh y = true ∧ acc.length < 1000000) ∧ Wq E (compL vs t ft fe ds (acc ++ [y]) (eWipe e3 vs)) Q) ∧ (¬k = true → Wq E (compL vs t ft fe ds acc (eWipe e2 vs)) Q) := by
  show Wq E (match t d e with | none => Rs.no | some e1 => _) Q = _
  cases t d e with
  | none => rfl
  | some e1 =>
    show Wq E ((ft e1).bindN _) Q = _
    rw [wp_bindN]
    refine Wq.ext fun k e2 => ?_
    by_cases h : k = true
    · simp only [h, if_true, wp_bindN]
      simp only [not_true_eq_false, false_implies, and_true, forall_const]
      refine Wq.ext fun y e3 => ?_
      by_cases h : isSh y = true ∧ acc.length < 1000000
      · simp only [h]; simp
      · simp only [h]; simp
    · simp [h]
/-- a comprehension by what holds ahead of each turn -/
theorem wp_compL (I : Nat → List D → Env → Prop) : ∀ (ds : List D) (k : Nat) (acc : List D) (e : Env), I k acc e → acc.length + ds.length ≤ 1000000 →
    (∀ i d acc e1, ds[i]? = some d → I (k + i) acc e1 → Op (t d e1) fun e2 => Wq noE (ft e2) fun b e3 => (b = true → Wq noE (fe e3) fun y e4 => isSh y = true ∧ I (k + i + 1) (acc ++ [y]) (eWipe e4 vs)) ∧ (¬b = true → I (k + i + 1) acc (eWipe e3 vs))) →
    (∀ acc e1, I (k + ds.length) acc e1 → Q acc e1) → Wq E (compL vs t ft fe ds acc e) Q
  | [], k, acc, e, h, _, _, z => z acc e h
  | d :: ds, k, acc, e, h, hl, st, z => by
    rw [List.length_cons] at hl
    obtain ⟨e2, h1, h2⟩ := (st 0 d acc e rfl h).get
    have rest : ∀ acc' e3, acc'.length ≤ acc.length + 1 → I (k + 1) acc' e3 → Wq E (compL vs t ft fe ds acc' e3) Q := fun acc' e3 hl' h3 => wp_compL I ds (k + 1) acc' e3 h3 (by omega)
      (fun i d acc e1 hi hI => by
        have := st (i + 1) d acc e1 (by simpa using hi) (by rw [show k + (i + 1) = k + 1 + i by omega]; exact hI)
        rw [show k + (i + 1) + 1 = k + 1 + i + 1 by omega] at this
        exact this)
      (fun acc e1 hI => z acc e1 (by rw [List.length_cons, show k + (ds.length + 1) = k + 1 + ds.length by omega]; exact hI))
    rw [wp_compCons, h1, op_some]
    refine Wp.imp h2 fun b e3 h3 => ⟨fun hb => Wp.imp (h3.1 hb) fun y e4 h4 => ⟨⟨h4.1, by omega⟩, rest _ _ (by simp) h4.2⟩, fun hb => rest _ _ (by omega) (h3.2 hb)⟩
end
end DL
end

section
set_option maxRecDepth 100000
set_option maxHeartbeats 2000000
namespace DL
open PySem L2
variable {E : Exn → Env → Prop}

/-! ### operations told -/
def MulOk (i j : Int) : Prop := i.natAbs.log2 + j.natAbs.log2 < 1000000
def DivOk (j : Int) : Prop := j ≠ 0 ∧ j.natAbs.log2 < 9000
section
variable {Q : D → Env → Prop} {e : Env} {i j : Int} {s t : Str}
@[simp] theorem rs_al {k : Nat} : rs e (.al k) = (match e[k]? with
    | some (some (.own xs)) => .own xs
    | some (some (.bor xs)) => .bor xs
    | _ => .al k) := rfl
@[simp] theorem rs_int : rs e (.int i) = .int i := rfl
@[simp] theorem rs_bl {b} : rs e (.bl b) = .bl b := rfl
@[simp] theorem rs_str : rs e (.str s) = .str s := rfl
@[simp] theorem rs_non : rs e .non = .non := rfl
@[simp] theorem rs_ty {n} : rs e (.ty n) = .ty n := rfl
@[simp] theorem rs_ref {n} : rs e (.ref n) = .ref n := rfl
@[simp] theorem rs_tup {xs} : rs e (.tup xs) = .tup xs := rfl
@[simp] theorem rs_lst {xs} : rs e (.lst xs) = .lst xs := rfl
@[simp] theorem rs_klst {xs} : rs e (.klst xs) = .klst xs := rfl
@[simp] theorem sh_int : isSh (.int i) = true := rfl
@[simp] theorem sh_bl {b} : isSh (.bl b) = true := rfl
@[simp] theorem sh_str : isSh (.str s) = true := rfl
@[simp] theorem sh_non : isSh .non = true := rfl
@[simp] theorem sh_tup {xs} : isSh (.tup xs) = true := rfl
@[simp] theorem sh_lst {xs} : isSh (.lst xs) = true := rfl
@[simp] theorem sh_klst {xs} : isSh (.klst xs) = true := rfl
@[simp] theorem sh_ints {xs : List Int} : (xs.map D.int).all isSh = true := by
  induction xs with
  | nil => rfl
  | cons x xs ih => exact ih
theorem sh_intsA {xs : List Int} : (∀ x ∈ xs.map D.int, isSh x = true) := by
  intro x h
  obtain ⟨y, _, rfl⟩ := List.mem_map.mp h
  rfl
@[simp] theorem add_int : dAdd (.int i) (.int j) = some (.int (i + j)) := rfl
@[simp] theorem sub_int : dSub (.int i) (.int j) = some (.int (i - j)) := rfl
@[simp] theorem lt_int : dLt (.int i) (.int j) = some (.bl (decide (i < j))) := rfl
@[simp] theorem le_int : dLe (.int i) (.int j) = some (.bl (decide (i ≤ j))) := rfl
@[simp] theorem gt_int : dGt (.int i) (.int j) = some (.bl (decide (j < i))) := rfl
@[simp] theorem ge_int : dGe (.int i) (.int j) = some (.bl (decide (j ≤ i))) := rfl
@[simp] theorem eq_int : dEq (.int i) (.int j) = some (.bl (decide (i = j))) := rfl
@[simp] theorem ne_int : dNe (.int i) (.int j) = some (.bl (!decide (i = j))) := rfl
@[simp] theorem eq_bl {a b} : dEq (.bl a) (.bl b) = some (.bl (decide (a = b))) := rfl
@[simp] theorem ne_bl {a b} : dNe (.bl a) (.bl b) = some (.bl (!decide (a = b))) := rfl
@[simp] theorem eq_str : dEq (.str s) (.str t) = some (.bl (decide (s = t))) := rfl
@[simp] theorem ne_str : dNe (.str s) (.str t) = some (.bl (!decide (s = t))) := rfl
@[simp] theorem wp_mulI : Wq E (mopt (dMulI (.int i) (.int j)) e) Q = (MulOk i j ∧ Q (.int (i * j)) e) := by
  show Wq E (mopt (if i.natAbs.log2 + j.natAbs.log2 < 1000000 then some (D.int (i * j)) else none) e) Q = ((i.natAbs.log2 + j.natAbs.log2 < 1000000) ∧ _)
  by_cases h : i.natAbs.log2 + j.natAbs.log2 < 1000000
  · rw [if_pos h]
    simp [h]
  · rw [if_neg h]
    simp [h, mopt]
@[simp] theorem wp_divI : Wq E (mopt (dDiv (.int i) (.int j)) e) Q = (DivOk j ∧ Q (.int (i.fdiv j)) e) := by
  show Wq E (mopt (if j ≠ 0 ∧ j.natAbs.log2 < 9000 then some (D.int (i.fdiv j)) else none) e) Q = ((j ≠ 0 ∧ j.natAbs.log2 < 9000) ∧ _)
  by_cases h : j ≠ 0 ∧ j.natAbs.log2 < 9000
  · rw [if_pos h]
    simp [h]
  · rw [if_neg h]
    simp [h, mopt]
@[simp] theorem wp_modI : Wq E (mopt (dMod (.int i) (.int j)) e) Q = (j ≠ 0 ∧ Q (.int (i.fmod j)) e) := by
  show Wq E (mopt (if j ≠ 0 then some (D.int (i.fmod j)) else none) e) Q = _
  by_cases h : j ≠ 0
  · rw [if_pos h]
    simp [h]
  · rw [if_neg h]
    simp [h, mopt]
@[simp] theorem bOf_bl {b} : bOf (.bl b) = some b := rfl
@[simp] theorem tru_bl {b} : dTru (.bl b) = some b := rfl
@[simp] theorem tru_int : dTru (.int i) = some (i != 0) := rfl
@[simp] theorem abs_int : dAbs [.int i] = some (.int i.natAbs) := by
  show some (D.int (if i < 0 then -i else i)) = _
  congr 2
  split <;> omega
@[simp] theorem toInt_int : dToInt [.int i] = some (.int i) := rfl
@[simp] theorem toInt_bl {b} : dToInt [.bl b] = some (.int (if b then 1 else 0)) := rfl
@[simp] theorem len_tup {xs} : dLen [.tup xs] = some (.int xs.length) := rfl
@[simp] theorem len_lst {xs} : dLen [.lst xs] = some (.int xs.length) := rfl
@[simp] theorem len_klst {xs} : dLen [.klst xs] = some (.int xs.length) := rfl
@[simp] theorem len_own {xs} : dLen [.own xs] = some (.int xs.length) := rfl
@[simp] theorem len_bor {xs} : dLen [.bor xs] = some (.int xs.length) := rfl
@[simp] theorem tuple_lst {xs} : dTuple [.lst xs] = some (.tup xs) := rfl
@[simp] theorem tuple_tup {xs} : dTuple [.tup xs] = some (.tup xs) := rfl
@[simp] theorem seq_lst {xs} : seqSh (.lst xs) = some xs := rfl
@[simp] theorem seq_klst {xs} : seqSh (.klst xs) = some xs := rfl
@[simp] theorem seq_tup {xs} : seqSh (.tup xs) = some xs := rfl
@[simp] theorem iOf_int : iOf (.int i) = some (some i) := rfl
@[simp] theorem add_lst {xs ys} : dAdd (.lst xs) (.lst ys) = if xs.length + ys.length ≤ 1000000 then some (.lst (xs ++ ys)) else none := rfl
@[simp] theorem wp_mif {c : Prop} [Decidable c] {α : Type} {a : α} {QA : α → Env → Prop} : Wq E (mopt (if c then some a else none) e) QA = (c ∧ QA a e) := by
  by_cases h : c <;> simp [h, mopt]
theorem add_own {xs ys} (h : (xs.all isSh) = true) : dAdd (.own xs) (.lst ys) = if xs.length + ys.length ≤ 1000000 then some (.lst (xs ++ ys)) else none := by
  show ((if (xs.all isSh) = true then some xs else none).bind fun xs => (mls (D.lst ys)).bind fun ys => if xs.length + ys.length ≤ 1000000 then some (D.lst (xs ++ ys)) else none) = _
  rw [if_pos h]
  rfl
@[simp] theorem idx_tup {xs} : dIdx (.tup xs) (.int i) = atI xs i := rfl
@[simp] theorem idx_lst {xs} : dIdx (.lst xs) (.int i) = (atI xs i).bind shOnly := rfl
@[simp] theorem idx_klst {xs} : dIdx (.klst xs) (.int i) = (atI xs i).bind shOnly := rfl
@[simp] theorem idx_own {xs} : dIdx (.own xs) (.int i) = (atI xs i).bind shOnly := rfl
@[simp] theorem idx_bor {xs} : dIdx (.bor xs) (.int i) = (atI xs i).bind shOnly := rfl
@[simp] theorem shOnly_int : shOnly (.int i) = some (.int i) := rfl
@[simp] theorem shOnly_tup {xs} : shOnly (.tup xs) = some (.tup xs) := rfl
@[simp] theorem shOnly_lst {xs} : shOnly (.lst xs) = some (.lst xs) := rfl
@[simp] theorem shOnly_str : shOnly (.str s) = some (.str s) := rfl
@[simp] theorem wp_rgOf {j : Int} {Q : List D → Env → Prop} : Wq E (mopt (rgOf [.int j]) e) Q = ((-1000000 ≤ j ∧ j ≤ 1000000) ∧ Q (rg 0 j) e) := by
  show Wq E (mopt (if -1000000 ≤ j ∧ j ≤ 1000000 then some (rg 0 j) else none) e) Q = _
  rw [wp_mif]
@[simp] theorem wp_rgOf2 {i j : Int} {Q : List D → Env → Prop} : Wq E (mopt (rgOf2 [.int i, .int j]) e) Q = ((-1000000 ≤ i ∧ i ≤ 1000000 ∧ -1000000 ≤ j ∧ j ≤ 1000000) ∧ Q (rg i j) e) := by
  show Wq E (mopt (if -1000000 ≤ i ∧ i ≤ 1000000 ∧ -1000000 ≤ j ∧ j ≤ 1000000 then some (rg i j) else none) e) Q = _
  rw [wp_mif]
@[simp] theorem gN_eq {k : Nat} {d : D} : gN k d e = some (e.set k (some d)) := rfl
@[simp] theorem gsNil_nil : gsNil [] e = some e := rfl
@[simp] theorem gsCons_cons {t : TgF} {u : List D → Env → Option Env} {d : D} {r : List D} : gsCons t u (d :: r) e = (t d e).bind (u r) := rfl
@[simp] theorem gT_tup {n} {t} {xs : List D} : gT n t (.tup xs) e = if xs.length = n then t xs e else none := rfl
@[simp] theorem gT_lst {n} {t} {xs : List D} : gT n t (.lst xs) e = if xs.length = n then t xs e else none := rfl
@[simp] theorem wipe_nil : eWipe e [] = e := rfl
@[simp] theorem wipe_cons {v : Nat} {vs : List Nat} : eWipe e (v :: vs) = (eWipe e vs).set v none := rfl
@[simp] theorem rsB_int : rsB e (.int i) = .int i := rfl
@[simp] theorem rsB_bl {b} : rsB e (.bl b) = .bl b := rfl
@[simp] theorem rsB_str : rsB e (.str s) = .str s := rfl
@[simp] theorem rsB_non : rsB e .non = .non := rfl
@[simp] theorem rsB_tup {xs} : rsB e (.tup xs) = .tup xs := rfl
@[simp] theorem rsB_lst {xs} : rsB e (.lst xs) = .lst xs := rfl
@[simp] theorem rsB_klst {xs} : rsB e (.klst xs) = .klst xs := rfl
@[simp] theorem rsB_ale {k : Nat} : rsB e (.al k) = (match e[k]? with | some (some d) => borOf d | _ => .own []) := rfl
@[simp] theorem borOf_own {xs} : borOf (.own xs) = .bor xs := rfl
@[simp] theorem borOf_bor {xs} : borOf (.bor xs) = .bor xs := rfl
@[simp] theorem noOwn_int : noOwn (.int i) = true := rfl
@[simp] theorem noOwn_bl {b} : noOwn (.bl b) = true := rfl
@[simp] theorem noOwn_str : noOwn (.str s) = true := rfl
@[simp] theorem noOwn_non : noOwn .non = true := rfl
@[simp] theorem noOwn_tup {xs} : noOwn (.tup xs) = true := rfl
@[simp] theorem noOwn_lst {xs} : noOwn (.lst xs) = true := rfl
@[simp] theorem noOwn_klst {xs} : noOwn (.klst xs) = true := rfl
@[simp] theorem noOwn_bor {xs} : noOwn (.bor xs) = true := rfl
@[simp] theorem alN_nil : alN [] = true := rfl
@[simp] theorem alN_int {r} : alN (.int i :: r) = alN r := rfl
@[simp] theorem alN_bl {b r} : alN (.bl b :: r) = alN r := rfl
@[simp] theorem alN_str {r} : alN (.str s :: r) = alN r := rfl
@[simp] theorem alN_non {r} : alN (.non :: r) = alN r := rfl
@[simp] theorem alN_tup {xs r} : alN (.tup xs :: r) = alN r := rfl
@[simp] theorem alN_lst {xs r} : alN (.lst xs :: r) = alN r := rfl
@[simp] theorem alN_klst {xs r} : alN (.klst xs :: r) = alN r := rfl
@[simp] theorem alN_al {k : Nat} {r} : alN (.al k :: r) = (!(r.any (isAl k)) && alN r) := rfl
@[simp] theorem isAl_int {k} : isAl k (.int i) = false := rfl
@[simp] theorem isAl_bl {k b} : isAl k (.bl b) = false := rfl
@[simp] theorem isAl_str {k} : isAl k (.str s) = false := rfl
@[simp] theorem isAl_non {k} : isAl k .non = false := rfl
@[simp] theorem isAl_tup {k xs} : isAl k (.tup xs) = false := rfl
@[simp] theorem isAl_lst {k xs} : isAl k (.lst xs) = false := rfl
@[simp] theorem isAl_klst {k xs} : isAl k (.klst xs) = false := rfl
@[simp] theorem isAl_al {k m} : isAl k (.al m) = (m == k) := rfl
@[simp] theorem borOk_nil : borOk [] e = true := rfl
@[simp] theorem borOk_int {r o} : borOk (.int i :: r) (o :: e) = borOk r e := rfl
@[simp] theorem borOk_bl {b r o} : borOk (.bl b :: r) (o :: e) = borOk r e := rfl
@[simp] theorem borOk_str {r o} : borOk (.str s :: r) (o :: e) = borOk r e := rfl
@[simp] theorem borOk_non {r o} : borOk (.non :: r) (o :: e) = borOk r e := rfl
@[simp] theorem borOk_tup {xs r o} : borOk (.tup xs :: r) (o :: e) = borOk r e := rfl
@[simp] theorem borOk_lst {xs r o} : borOk (.lst xs :: r) (o :: e) = borOk r e := rfl
@[simp] theorem borOk_klst {xs r o} : borOk (.klst xs :: r) (o :: e) = borOk r e := rfl
@[simp] theorem borOk_bor {xs ys r} : borOk (.bor xs :: r) (some (.bor ys) :: e) = borOk r e := rfl
/-- what was lent, put back: nothing lent -/
theorem findIdx_none {ds : List D} {j : Nat} (h : ∀ d ∈ ds, isAl j d = false) : ds.findIdx? (isAl j) = none := by
  induction ds with
  | nil => rfl
  | cons d ds ih =>
    rw [List.findIdx?_cons, h d (List.mem_cons_self ..), ih fun d m => h d (List.mem_cons_of_mem _ m)]
    rfl
def notAl : D → Bool
  | .al _ => false
  | _ => true
theorem notAl_is {d : D} {j : Nat} (h : notAl d = true) : isAl j d = false := by cases d <;> first | rfl | exact absurd h Bool.false_ne_true
@[simp] theorem notAl_int : notAl (.int i) = true := rfl
@[simp] theorem notAl_bl {b} : notAl (.bl b) = true := rfl
@[simp] theorem notAl_str : notAl (.str s) = true := rfl
@[simp] theorem notAl_non : notAl .non = true := rfl
@[simp] theorem notAl_tup {xs} : notAl (.tup xs) = true := rfl
@[simp] theorem notAl_lst {xs} : notAl (.lst xs) = true := rfl
@[simp] theorem notAl_klst {xs} : notAl (.klst xs) = true := rfl
@[simp] theorem putO_no {ds : List D} {outs : Env} (h : ds.all notAl = true) : putO e ds outs = e := by
  unfold putO
  have h2 : ∀ j, ds.findIdx? (isAl j) = none := fun j => findIdx_none fun d m => notAl_is (List.all_eq_true.mp h d m)
  apply List.ext_getElem?
  intro j
  rw [List.getElem?_mapIdx, h2]
  cases e[j]? <;> rfl
/-- .. one, the first argument -/
theorem putO_one {ds : List D} {outs : Env} {k : Nat} {ys : List D} (ho : outs[0]? = some (some (.bor ys))) (h : ds.all notAl = true) : putO e (.al k :: ds) outs = (match e[k]? with | some d => e.set k (relab d ys) | none => e) := by
  have h2 : ∀ j, ds.findIdx? (isAl j) = none := fun j => findIdx_none fun d m => notAl_is (List.all_eq_true.mp h d m)
  cases hk : e[k]? with
  | none =>
    apply List.ext_getElem?
    intro j
    unfold putO
    rw [List.getElem?_mapIdx]
    simp only [List.findIdx?_cons, isAl_al, h2]
    by_cases hj : k = j
    · subst hj
      simp [hk]
    · have : (k == j) = false := by simp [hj]
      simp only [this]
      cases e[j]? <;> rfl
  | some d =>
    apply List.ext_getElem?
    intro j
    unfold putO
    rw [List.getElem?_mapIdx]
    simp only [List.findIdx?_cons, isAl_al, h2]
    by_cases hj : k = j
    · subst hj
      simp [hk, ho]
      rw [List.getElem?_set_self (List.getElem?_eq_some_iff.mp hk).1]
    · have : (k == j) = false := by simp [hj]
      simp only [this]
      rw [List.getElem?_set_ne hj]
      cases e[j]? <;> rfl
@[simp] theorem relab_own {xs ys} : relab (some (.own xs)) ys = some (.own ys) := rfl
@[simp] theorem relab_bor {xs ys} : relab (some (.bor xs)) ys = some (.bor ys) := rfl
end

/-! ### items told -/
theorem atI_nat {α : Type} {xs : List α} {k : Nat} : atI xs (k : Int) = xs[k]? := by
  unfold atI ixN
  rw [if_pos (by omega)]
  by_cases h : (k : Int) < xs.length
  · rw [if_pos h]
    rfl
  · rw [if_neg h]
    rw [List.getElem?_eq_none (by omega)]
    rfl
section
variable {α : Type} {xs : List α} {n : Nat}
@[simp] theorem at0 : atI xs 0 = xs[0]? := atI_nat (k := 0)
@[simp] theorem at1 : atI xs 1 = xs[1]? := atI_nat (k := 1)
@[simp] theorem at2 : atI xs 2 = xs[2]? := atI_nat (k := 2)
@[simp] theorem at3 : atI xs 3 = xs[3]? := atI_nat (k := 3)
@[simp] theorem at4 : atI xs 4 = xs[4]? := atI_nat (k := 4)
@[simp] theorem at5 : atI xs 5 = xs[5]? := atI_nat (k := 5)
@[simp] theorem at6 : atI xs 6 = xs[6]? := atI_nat (k := 6)
@[simp] theorem at7 : atI xs 7 = xs[7]? := atI_nat (k := 7)
theorem ixN_nat {k : Nat} (h : k < n) : ixN n (k : Int) = some k := by
  unfold ixN
  rw [if_pos (by omega), if_pos (by omega)]
  simp
@[simp] theorem ix0 (h : 0 < n) : ixN n 0 = some 0 := ixN_nat (k := 0) h
@[simp] theorem ix1 (h : 1 < n) : ixN n 1 = some 1 := ixN_nat (k := 1) h
@[simp] theorem ix2 (h : 2 < n) : ixN n 2 = some 2 := ixN_nat (k := 2) h
@[simp] theorem ix3 (h : 3 < n) : ixN n 3 = some 3 := ixN_nat (k := 3) h
@[simp] theorem ix4 (h : 4 < n) : ixN n 4 = some 4 := ixN_nat (k := 4) h
@[simp] theorem ix5 (h : 5 < n) : ixN n 5 = some 5 := ixN_nat (k := 5) h
end
@[simp] theorem ownAt_al1 {e : Env} {k : Nat} : ownAt e (.al k) = (match e[k]? with
    | some (some (.own xs)) => some (k, .own xs, xs)
    | some (some (.bor xs)) => some (k, .bor xs, xs)
    | _ => none) := rfl
@[simp] theorem appE_eq {e : Env} {o y : D} : appE e o y = (ownAt e o).bind fun t => if (t.2.2.all isSh) = true ∧ isSh y = true ∧ t.2.2.length < 1000000 then some (e.set t.1 (relab (some t.2.1) (t.2.2 ++ [y]))) else none := rfl
@[simp] theorem subE_int {e : Env} {o y : D} {k : Int} : subE e o (.int k) y = (ownAt e o).bind fun t => (ixN t.2.2.length k).bind fun j => if (t.2.2.all isSh) = true ∧ isSh y = true then some (e.set t.1 (relab (some t.2.1) (t.2.2.set j y))) else none := rfl
theorem op_mif {α : Type} {c : Prop} [Decidable c] {a : α} {P : α → Prop} : Op (if c then some a else none) P = (c ∧ P a) := by
  by_cases h : c <;> simp [h]
@[simp] theorem wp_mbnd {α β : Type} {o : Option α} {f : α → Option β} {Q : β → Env → Prop} {e : Env} : Wq E (mopt (o.bind f) e) Q = Op o fun a => Wq E (mopt (f a) e) Q := by
  cases o <;> rfl
@[simp] theorem wp_mmap {α β : Type} {o : Option α} {f : α → β} {Q : β → Env → Prop} {e : Env} : Wq E (mopt (o.map f) e) Q = Op o fun a => Q (f a) e := by
  cases o <;> rfl
theorem wp_mopt {α : Type} {o : Option α} {Q : α → Env → Prop} {e : Env} : Wq E (mopt o e) Q = Op o fun a => Q a e := by
  cases o <;> rfl

@[simp] theorem slice_klst {xs : List D} {lo hi : Option Int} : dSlice (.klst xs) lo hi = some (.lst (cutD xs lo hi)) := rfl
@[simp] theorem slice_lst {xs : List D} {lo hi : Option Int} : dSlice (.lst xs) lo hi = some (.lst (cutD xs lo hi)) := rfl
theorem cutD_map {α : Type} {f : α → D} {xs : List α} {lo hi : Option Int} : ∃ ys : List α, cutD (xs.map f) lo hi = ys.map f ∧ ys.length ≤ xs.length ∧ ∀ y ∈ ys, y ∈ xs := by
  refine ⟨(xs.drop (HT.sIx xs.length 0 lo)).take (HT.sIx xs.length xs.length hi - HT.sIx xs.length 0 lo), ?_, ?_, fun y m => List.mem_of_mem_drop (List.mem_of_mem_take m)⟩
  · unfold cutD
    rw [List.length_map, List.map_take, List.map_drop]
  · rw [List.length_take, List.length_drop]
    omega

/-! ### sizes -/
def Bd (n : Nat) (x : Int) : Prop := x.natAbs < 2 ^ n
instance {n : Nat} {x : Int} : Decidable (Bd n x) := inferInstanceAs (Decidable (x.natAbs < 2 ^ n))
theorem Bd.mono {m n : Nat} {x : Int} (h : Bd m x) (k : m ≤ n) : Bd n x := Nat.lt_of_lt_of_le h (Nat.pow_le_pow_right (by decide) k)
theorem Bd.mul {m n : Nat} {x y : Int} (h : Bd m x) (k : Bd n y) : Bd (m + n) (x * y) := by
  unfold Bd at *
  rw [Int.natAbs_mul, Nat.pow_add]
  exact Nat.mul_lt_mul'' h k
theorem Bd.add {m n : Nat} {x y : Int} (h : Bd m x) (k : Bd n y) : Bd (max m n + 1) (x + y) := by
  have h1 := h.mono (Nat.le_max_left m n)
  have h2 := k.mono (Nat.le_max_right m n)
  unfold Bd at *
  rw [Nat.pow_succ]
  omega
theorem Bd.sub {m n : Nat} {x y : Int} (h : Bd m x) (k : Bd n y) : Bd (max m n + 1) (x - y) := by
  have h1 := h.mono (Nat.le_max_left m n)
  have h2 := k.mono (Nat.le_max_right m n)
  unfold Bd at *
  rw [Nat.pow_succ]
  omega
theorem Bd.log {n : Nat} {x : Int} (h : Bd n x) : x.natAbs.log2 ≤ n := by
  by_cases z : x.natAbs = 0
  · rw [z]
    simp
  · exact Nat.le_of_lt ((Nat.log2_lt z).mpr h)
theorem Bd.le {n : Nat} {x y : Int} (h : Bd n y) (k : x.natAbs ≤ y.natAbs) : Bd n x := Nat.lt_of_le_of_lt k h
theorem MulOk.of {m n : Nat} {x y : Int} (h : Bd m x) (k : Bd n y) (s : m + n < 1000000) : MulOk x y := by
  have h1 := h.log
  have h2 := k.log
  unfold MulOk
  omega
theorem DivOk.of {n : Nat} {x : Int} (h : Bd n x) (z : x ≠ 0) (s : n < 9000) : DivOk x := ⟨z, Nat.lt_of_le_of_lt h.log s⟩
end DL
end

section
set_option maxRecDepth 100000
set_option maxHeartbeats 2000000
namespace DL
open PySem L2

/-! ### equality of data -/
abbrev tI (xs : List Int) : D := .tup (xs.map .int)
abbrev lI (xs : List Int) : D := .lst (xs.map .int)
abbrev pI (xs : List Int) : PyData := .tuple (xs.map .int)
theorem toPys_ints : ∀ xs : List Int, toPys (xs.map D.int) = some (xs.map PyData.int)
  | [] => by rw [List.map_nil, toPys]; rfl
  | x :: xs => by rw [List.map_cons, toPys, toPys_ints xs, toPy]; rfl
theorem lay_ints : ∀ xs : List Int, PyData.canLayAll0 (xs.map PyData.int) = true
  | [] => by simp only [List.map_nil, PyData.canLayAll0]
  | x :: xs => by simp only [List.map_cons, PyData.canLayAll0, PyData.canLay0, lay_ints xs, Bool.and_self]
theorem dep_ints : ∀ xs : List Int, PyData.depthAll (xs.map PyData.int) ≤ 5
  | [] => by simp only [List.map_nil, PyData.depthAll]; omega
  | x :: xs => by
    have := dep_ints xs
    simp only [List.map_cons, PyData.depthAll, PyData.depth]
    omega
theorem eqv_ints : ∀ xs ys : List Int, PyData.eqvAll (xs.map PyData.int) (ys.map PyData.int) = decide (xs = ys)
  | [], [] => by simp [PyData.eqvAll]
  | [], _ :: _ => by simp [PyData.eqvAll]
  | _ :: _, [] => by simp [PyData.eqvAll]
  | x :: xs, y :: ys => by
    simp only [List.map_cons, PyData.eqvAll, PyData.eqv, eqv_ints xs ys, List.cons.injEq]
    by_cases h : x = y <;> by_cases k : xs = ys <;> simp [h, k]
theorem toPy_tI (xs : List Int) : toPy (tI xs) = some (pI xs) := by
  rw [toPy, toPys_ints]
  rfl
theorem toPy_lI (xs : List Int) : toPy (lI xs) = some (.list (xs.map PyData.int)) := by
  rw [toPy, toPys_ints]
  rfl
theorem shp_tI (xs : List Int) : SeqAt.shaped (pI xs) = true := by
  have := dep_ints xs
  exact Bool.and_eq_true_iff.mpr ⟨by simp only [PyData.canLay0, lay_ints], decide_eq_true (by simp only [PyData.depth]; omega)⟩
theorem shp_lI (xs : List Int) : SeqAt.shaped (.list (xs.map PyData.int)) = true := by
  have := dep_ints xs
  exact Bool.and_eq_true_iff.mpr ⟨by simp only [PyData.canLay0, lay_ints], decide_eq_true (by simp only [PyData.depth]; omega)⟩
theorem eq_of_py {x y : D} {p q : PyData} (hs : dEqS x y = none) (hx : pyOf x = some p) (hy : pyOf y = some q) (sx : SeqAt.shaped p = true) (sy : SeqAt.shaped q = true) : dEq x y = some (.bl (PyData.eqv p q)) := by
  unfold dEq dEqB
  rw [hs]
  unfold dEqG
  rw [hx, hy]
  simp [sx, sy]
theorem ne_of_py {x y : D} {p q : PyData} (hs : dEqS x y = none) (hx : pyOf x = some p) (hy : pyOf y = some q) (sx : SeqAt.shaped p = true) (sy : SeqAt.shaped q = true) : dNe x y = some (.bl (!PyData.eqv p q)) := by
  unfold dNe dEqB
  rw [hs]
  unfold dEqG
  rw [hx, hy]
  simp [sx, sy]
@[simp] theorem eq_tI {xs ys : List Int} : dEq (.tup (xs.map D.int)) (.tup (ys.map D.int)) = some (.bl (decide (xs = ys))) := by
  rw [eq_of_py (x := tI xs) (y := tI ys) rfl (toPy_tI xs) (toPy_tI ys) (shp_tI xs) (shp_tI ys), PyData.eqv, eqv_ints]
@[simp] theorem ne_tI {xs ys : List Int} : dNe (.tup (xs.map D.int)) (.tup (ys.map D.int)) = some (.bl (!decide (xs = ys))) := by
  rw [ne_of_py (x := tI xs) (y := tI ys) rfl (toPy_tI xs) (toPy_tI ys) (shp_tI xs) (shp_tI ys), PyData.eqv, eqv_ints]
@[simp] theorem eq_lI {xs ys : List Int} : dEq (.lst (xs.map D.int)) (.lst (ys.map D.int)) = some (.bl (decide (xs = ys))) := by
  rw [eq_of_py (x := lI xs) (y := lI ys) rfl (toPy_lI xs) (toPy_lI ys) (shp_lI xs) (shp_lI ys), PyData.eqv, eqv_ints]
@[simp] theorem ne_lI {xs ys : List Int} : dNe (.lst (xs.map D.int)) (.lst (ys.map D.int)) = some (.bl (!decide (xs = ys))) := by
  rw [ne_of_py (x := lI xs) (y := lI ys) rfl (toPy_lI xs) (toPy_lI ys) (shp_lI xs) (shp_lI ys), PyData.eqv, eqv_ints]
/-! lists of tuples -/
theorem toPys_tIs : ∀ xs : List (List Int), toPys (xs.map tI) = some (xs.map pI)
  | [] => by rw [List.map_nil, toPys]; rfl
  | x :: xs => by rw [List.map_cons, toPys, toPys_tIs xs, toPy_tI]; rfl
theorem lay_tIs : ∀ xs : List (List Int), PyData.canLayAll0 (xs.map pI) = true
  | [] => by simp only [List.map_nil, PyData.canLayAll0]
  | x :: xs => by simp only [List.map_cons, PyData.canLayAll0, PyData.canLay0, lay_ints, lay_tIs xs, Bool.and_self]
theorem dep_tIs : ∀ xs : List (List Int), PyData.depthAll (xs.map pI) ≤ 10
  | [] => by simp only [List.map_nil, PyData.depthAll]; omega
  | x :: xs => by
    have := dep_tIs xs
    have := dep_ints x
    simp only [List.map_cons, PyData.depthAll, PyData.depth]
    omega
theorem eqv_tIs : ∀ xs ys : List (List Int), PyData.eqvAll (xs.map pI) (ys.map pI) = decide (xs = ys)
  | [], [] => by simp [PyData.eqvAll]
  | [], _ :: _ => by simp [PyData.eqvAll]
  | _ :: _, [] => by simp [PyData.eqvAll]
  | x :: xs, y :: ys => by
    simp only [List.map_cons, PyData.eqvAll, PyData.eqv, eqv_ints, eqv_tIs xs ys, List.cons.injEq]
    by_cases h : x = y <;> by_cases k : xs = ys <;> simp [h, k]
theorem shp_tIs (xs : List (List Int)) : SeqAt.shaped (.list (xs.map pI)) = true := by
  have := dep_tIs xs
  exact Bool.and_eq_true_iff.mpr ⟨by simp only [PyData.canLay0, lay_tIs], decide_eq_true (by simp only [PyData.depth]; omega)⟩
theorem toPy_tIs (xs : List (List Int)) : toPy (.lst (xs.map tI)) = some (.list (xs.map pI)) := by
  rw [toPy, toPys_tIs]
  rfl
theorem eq_tIs {xs ys : List (List Int)} : dEq (.lst (xs.map tI)) (.lst (ys.map tI)) = some (.bl (decide (xs = ys))) := by
  rw [eq_of_py (x := .lst (xs.map tI)) (y := .lst (ys.map tI)) rfl (toPy_tIs xs) (toPy_tIs ys) (shp_tIs xs) (shp_tIs ys), PyData.eqv, eqv_tIs]
theorem ne_tIs {xs ys : List (List Int)} : dNe (.lst (xs.map tI)) (.lst (ys.map tI)) = some (.bl (!decide (xs = ys))) := by
  rw [ne_of_py (x := .lst (xs.map tI)) (y := .lst (ys.map tI)) rfl (toPy_tIs xs) (toPy_tIs ys) (shp_tIs xs) (shp_tIs ys), PyData.eqv, eqv_tIs]
/-! kinds -/
theorem kit_ii : kitB "int" "int" = some true := by decide +kernel
theorem kit_ib : kitB "int" "bool" = some false := by decide +kernel
theorem kit_tt : kitB "tuple" "tuple" = some true := by decide +kernel
@[simp] theorem isi_ii {i : Int} : dIsi [.int i, .ty "int"] = some (.bl true) := by
  show (some "int").bind (fun t => (kitB t "int").map D.bl) = _
  simp [kit_ii]
@[simp] theorem isi_ib {i : Int} : dIsi [.int i, .ty "bool"] = some (.bl false) := by
  show (some "int").bind (fun t => (kitB t "bool").map D.bl) = _
  simp [kit_ib]
@[simp] theorem isi_tt {xs : List D} : dIsi [.tup xs, .ty "tuple"] = some (.bl true) := by
  show (some "tuple").bind (fun t => (kitB t "tuple").map D.bl) = _
  simp [kit_tt]
end DL
end

section
set_option maxRecDepth 100000
set_option maxHeartbeats 1000000
namespace DL
open PySem L2
theorem wp_runP {N : Nat} {g : M Fl} {ds : List D} {Q : D → Env → Prop} : Wp (runF N g ds) Q = Wq noE (g (ds.map some ++ List.replicate (N - ds.length) none)) fun f e => borOk ds e = true ∧ (match f with | .rt d => Q d e | .nx => Q .non e | _ => False) := by
  have h := wp_runF (E := noE) (N := N) (g := g) (ds := ds) (Q := Q)
  have e : (fun (x : Exn) (e : Env) => borOk ds e = true ∧ noE x e) = noE := funext fun x => funext fun e => propext ⟨fun z => z.2, fun z => z.elim⟩
  rw [e] at h
  exact h
variable {E : Exn → Env → Prop}
section
variable {Q : D → Env → Prop} {QF : Fl → Env → Prop} {QL : List D → Env → Prop} {QB : Bool → Env → Prop} {e : Env}
@[simp] theorem wp_un {op : D → Option D} {f : M D} : Wq E (eUn op f e) Q = Wq E (f e) fun x e1 => Wq E (mopt (op (rs e1 x)) e1) Q := by
  unfold eUn
  rw [wp_mbind]
@[simp] theorem neg_int {i : Int} : dNeg (.int i) = some (.int (-i)) := rfl
@[simp] theorem wp_andD {a b : M D} : Wq E (eAndD a b e) Q = Wq E (a e) fun x e1 => (match x with | .bl k => (k = true → Wq E (b e1) Q) ∧ (¬k = true → Q (.bl false) e1) | _ => False) := by
  unfold eAndD
  rw [wp_mbind]
  refine Wq.ext fun x e1 => ?_
  cases x with
  | bl k => cases k <;> simp
  | _ => rfl
@[simp] theorem wp_orD {a b : M D} : Wq E (eOrD a b e) Q = Wq E (a e) fun x e1 => (match x with | .bl k => (k = true → Q (.bl true) e1) ∧ (¬k = true → Wq E (b e1) Q) | _ => False) := by
  unfold eOrD
  rw [wp_mbind]
  refine Wq.ext fun x e1 => ?_
  cases x with
  | bl k => cases k <;> simp
  | _ => rfl
@[simp] theorem wp_notD {a : M D} : Wq E (eNotD a e) Q = Wq E (a e) fun x e1 => (match x with | .bl k => Q (.bl (!k)) e1 | _ => False) := by
  unfold eNotD
  rw [wp_mbind]
  refine Wq.ext fun x e1 => ?_
  cases x <;> rfl
@[simp] theorem wp_chain {op op' : D → D → Option D} {fa fb fc : M D} : Wq E (eChain op op' fa fb fc e) Q = Wq E (fa e) fun x e1 => Wq E (fb e1) fun y e2 => Op (op (rs e2 x) (rs e2 y)) fun z =>
    (match z with | .bl k => (k = true → Wq E (fc e2) fun w e3 => Wq E (mopt (op' (rs e3 y) (rs e3 w)) e3) Q) ∧ (¬k = true → Q (.bl false) e2) | _ => False) := by
  unfold eChain
  rw [wp_mbind]
  refine Wq.ext fun x e1 => ?_
  rw [wp_mbind]
  refine Wq.ext fun y e2 => ?_
  cases op (rs e2 x) (rs e2 y) with
  | none => rfl
  | some z =>
    cases z with
    | bl k => cases k <;> simp
    | _ => rfl
@[simp] theorem wp_more {dds : List D} {fs : M (List D)} : Wq E (aMore dds fs e) QL = Wq E (fs e) fun ds e1 => QL (ds ++ dds) e1 := by
  unfold aMore
  rw [wp_mbind]
  rfl
@[simp] theorem wp_raise0 {x : Str} : Wq E (sRaise0 x e) QF = E ⟨x, []⟩ e := rfl
@[simp] theorem wp_at {n : Nat} {F : List D → Rs D} {ds : List D} : Wq E (eAt n F ds e) Q = ((ds.length = n ∧ alN ds = true ∧ (ds.map (rsB e)).all noOwn = true) ∧ Wq noE (F (ds.map (rsB e))) fun r outs => Q r (putO e ds outs)) := by
  unfold eAt
  by_cases h : ds.length = n ∧ alN ds = true ∧ (ds.map (rsB e)).all noOwn = true
  · rw [if_pos h]
    simp only [h, true_and]
    cases F (ds.map (rsB e)) with
    | ok a o => rfl
    | ex x o => rfl
    | no => rfl
  · rw [if_neg h]
    simp only [h]
    simp
@[simp] theorem wp_callK {n np nk : Nat} {F : List D → Rs D} {g : List D → List D → List D → List D} {dds : List D} {fs ks : M (List D)} : Wq E (eCallK n np nk F g dds fs ks e) Q = Wq E (fs e) fun ds e1 => Wq E (ks e1) fun zs e2 => (ds.length = np ∧ zs.length = nk) ∧ Wq E (eAt n F (g ds dds zs) e2) Q := by
  unfold eCallK
  rw [wp_mbind]
  refine Wq.ext fun ds e1 => ?_
  rw [wp_mbind]
  refine Wq.ext fun zs e2 => ?_
  by_cases h : ds.length = np ∧ zs.length = nk
  · simp only [h, true_and, and_self]
    rfl
  · simp only [h, false_and]
    rfl
@[simp] theorem arr_nil {α : Type} {a d z : List α} : arr [] a d z = [] := rfl
@[simp] theorem arr_cons {α : Type} {a d z : List α} {k i : Nat} {is : List (Nat × Nat)} : arr ((k, i) :: is) a d z = ((if k = 0 then a else if k = 1 then d else z)[i]?).toList ++ arr is a d z := rfl
@[simp] theorem wp_pow {i j : Int} : Wq E (mopt (dPow (.int i) (.int j)) e) Q = ((0 ≤ j ∧ j ≤ 1000000 ∧ i.natAbs < 2 ^ 64) ∧ Q (.int (i ^ j.toNat)) e) := by
  show Wq E (mopt (if 0 ≤ j ∧ j ≤ 1000000 ∧ i.natAbs < 2 ^ 64 then some (D.int (i ^ j.toNat)) else none) e) Q = _
  by_cases h : 0 ≤ j ∧ j ≤ 1000000 ∧ i.natAbs < 2 ^ 64
  · rw [if_pos h]
    simp only [h, true_and]
    rfl
  · rw [if_neg h]
    simp only [h, false_and]
    rfl
@[simp] theorem wp_aug {i : Nat} {g : Int → Int → Int} {f : M D} : Wq E (sAugI i g f e) QF = (match e[i]? with
    | some (some (.int n)) => Wq E (f e) fun y e1 => (match rs e1 y with | .int k => QF .nx (e1.set i (some (.int (g n k)))) | _ => False)
    | _ => False) := by
  unfold sAugI
  cases e[i]? with
  | none => rfl
  | some o => cases o with
    | none => rfl
    | some d => cases d with
      | int n =>
        show Wq E (mbind f _ e) QF = _
        rw [wp_mbind]
        refine Wq.ext fun y e1 => ?_
        cases rs e1 y <;> rfl
      | _ => rfl
@[simp] theorem shOnly_bl {b : Bool} : shOnly (.bl b) = some (.bl b) := rfl
@[simp] theorem shOnly_non : shOnly .non = some .non := rfl
/-! exceptions -/
@[simp] theorem wp_try {t : XTab} {b : M Fl} {cl : List Cl} : Wq E (sTry t b cl e) QF = Wq (fun x e1 => hasX t x.cls = true ∧ Wq E (hand t x cl e1) QF) (b e) QF := by
  unfold sTry
  cases b e with
  | ok f e1 => cases f <;> rfl
  | no => rfl
  | ex x e1 =>
    show Wq E (if hasX t x.cls = true then hand t x cl e1 else .no) QF = (hasX t x.cls = true ∧ Wq E (hand t x cl e1) QF)
    by_cases h : hasX t x.cls = true <;> simp [h]
@[simp] theorem wp_handNil {t : XTab} {x : Exn} : Wq E (hand t x [] e) QF = E x e := rfl
@[simp] theorem wp_handCons {t : XTab} {x : Exn} {i : Nat} {C : CN} {su : Exn → M Fl} {r : List Cl} : Wq E (hand t x ((i, C, su) :: r) e) QF =
    ((isSub t x.cls C = true → (i < e.length ∧ noAl (e.set i none) = true) ∧ Wq noE (su x (e.set i (some (.al i)))) fun f e1 => noAl (e1.set i none) = true ∧ QF f (e1.set i none)) ∧ (¬isSub t x.cls C = true → Wq E (hand t x r e) QF)) := by
  show Wq E (if isSub t x.cls C = true then (if i < e.length ∧ noAl (e.set i none) = true then clr i (su x (e.set i (some (.al i)))) else .no) else hand t x r e) QF = _
  by_cases h : isSub t x.cls C = true
  · rw [if_pos h]
    by_cases g : i < e.length ∧ noAl (e.set i none) = true
    · rw [if_pos g]
      simp only [h, g, forall_const, not_true_eq_false, false_implies, and_true, true_and, and_self]
      cases su x (e.set i (some (.al i))) with
      | no => rfl
      | ex y e1 => rfl
      | ok f e1 =>
        show Wq E (if noAl (e1.set i none) = true then .ok f (e1.set i none) else .no) QF = (noAl (e1.set i none) = true ∧ QF f (e1.set i none))
        by_cases k : noAl (e1.set i none) = true <;> simp [k]
    · rw [if_neg g]
      simp only [h, g, forall_const, not_true_eq_false, false_implies, and_true, false_and]
      rfl
  · rw [if_neg h]
    simp [h]
@[simp] theorem wp_eX {i : Nat} {r : Option D} : Wq E (eX i r e) Q = (match e[i]? with | some (some (.al _)) => Wq E (mopt r e) Q | _ => False) := by
  unfold eX
  cases e[i]? with
  | none => rfl
  | some o => cases o with
    | none => rfl
    | some d => cases d <;> rfl
@[simp] theorem noAl_nil : noAl [] = true := rfl
@[simp] theorem noAl_none : noAl (none :: e) = noAl e := rfl
@[simp] theorem noAl_int {i} : noAl (some (.int i) :: e) = noAl e := rfl
@[simp] theorem noAl_str {i} : noAl (some (.str i) :: e) = noAl e := rfl
@[simp] theorem noAl_bl {i} : noAl (some (.bl i) :: e) = noAl e := rfl
@[simp] theorem noAl_tup {i} : noAl (some (.tup i) :: e) = noAl e := rfl
@[simp] theorem noAl_lst {i} : noAl (some (.lst i) :: e) = noAl e := rfl
@[simp] theorem noAl_klst {i} : noAl (some (.klst i) :: e) = noAl e := rfl
@[simp] theorem noAl_own {i} : noAl (some (.own i) :: e) = noAl e := rfl
@[simp] theorem noAl_bor {i} : noAl (some (.bor i) :: e) = noAl e := rfl
@[simp] theorem noAl_non : noAl (some .non :: e) = noAl e := rfl
end
end DL
end

section
set_option maxRecDepth 100000
set_option maxHeartbeats 1000000
namespace K02
open PySem L2 DL
/-- a tape read at most c times -/
def Tp (c : Nat) (xs : List D) : Prop := ∃ (row : List Int) (n : Nat), xs = [lI row, .int n] ∧ n ≤ c ∧ row.length ≤ 2000
/-- a call that reads the tape -/
def TpQ (c : Nat) (R : D → Prop) : D → DL.Env → Prop := fun d e => R d ∧ ∃ tp, e[0]? = some (some (.bor tp)) ∧ Tp c tp
theorem at_int {row : List Int} {i : Int} (h0 : 0 ≤ i) (h1 : i < row.length) : ∃ v, atI (row.map D.int) i = some (.int v) ∧ v ∈ row := by
  obtain ⟨k, rfl⟩ := Int.eq_ofNat_of_zero_le h0
  have hk : k < row.length := by omega
  refine ⟨row[k], ?_, List.getElem_mem hk⟩
  rw [DL.atI_nat]
  simp [hk]
theorem fmod_range {i m : Int} (h : 0 < m) : 0 ≤ i.fmod m ∧ i.fmod m < m := ⟨Int.fmod_nonneg_of_pos i h, Int.fmod_lt_of_pos i h⟩
theorem bd_nat {k n : Nat} (h : n < 2 ^ k) : Bd k (n : Int) := by
  unfold Bd
  simpa using h
theorem next_ok {c : Nat} {tp : List D} {m : Int} (h : Tp c tp) (hc : c < 100000) (hm : 0 < m) : Wp (F__law_next [.bor tp, .int m]) (TpQ (c + 1) fun d => ∃ n, d = .int n ∧ 0 ≤ n ∧ n < m) := by
  obtain ⟨row, n, rfl, h1, h2⟩ := h
  have hn : Bd 20 (n : Int) := bd_nat (by omega)
  have hl : row.length ≠ 0 → DivOk (row.length : Int) := fun z => DivOk.of (n := 20) (bd_nat (by omega)) (by omega) (by omega)
  unfold F__law_next
  first | rw [wp_runP] | rw [wp_runF]
  simp -implicitDefEqProofs -dsimp
  refine ⟨fun z => ⟨MulOk.of hn (n := 20) (by decide) (by decide), DivOk.of (n := 20) (by decide) (by decide) (by decide), by omega, ?_⟩, fun z => ⟨hl (by simpa using z), ?_⟩⟩
  · exact ⟨⟨_, rfl, fmod_range hm⟩, _, rfl, row, n + 1, by simp, by omega, h2⟩
  · have lp : 0 < (row.length : Int) := by
      have : row.length ≠ 0 := by simpa using z
      omega
    have hs : MulOk ((n : Int).fdiv row.length) 7 := MulOk.of (m := 20) (n := 20) (Bd.le hn (by
      rw [Int.fdiv_eq_ediv_of_nonneg _ (by omega)]
      rw [show ((n : Int) / row.length) = ((n / row.length : Nat) : Int) from rfl]
      simp
      exact Nat.div_le_self _ _)) (by decide) (by decide)
    obtain ⟨h3, h4⟩ := fmod_range (i := n) lp
    obtain ⟨v, h5, _⟩ := at_int h3 h4
    refine ⟨hs, ?_⟩
    have z2 : ¬row = [] := z
    simp -implicitDefEqProofs -dsimp [h5, z2]
    exact ⟨by omega, ⟨_, rfl, fmod_range hm⟩, _, rfl, row, n + 1, by simp, by omega, h2⟩
/-! gcd -/
abbrev gcdB : M Fl := sSeq (sIf (tOf (eBin dEq (eVar 1) (eC (.int 0)))) sBreak sNext) (sPar 0 1 (aCons (eVal 1) (aCons (eBin dMod (eBlt dToInt (aCons (eVar 0) aNil)) (eVar 1)) aNil)))
theorem gcd_turn {Q : Fl → DL.Env → Prop} {i j : Int} {x : D} {xs : List D} {y : Option D} (h : j ≠ 0) : Wp (forL (gN 2) gcdB (x :: xs) [some (.int i), some (.int j), y]) Q = Wp (forL (gN 2) gcdB xs [some (.int j), some (.int (i.fmod j)), some x]) Q := by
  simp -implicitDefEqProofs -dsimp [h]
theorem gcd_stop {Q : Fl → DL.Env → Prop} {i : Int} {xs : List D} {y : Option D} (hQ : ∀ y, Q .nx [some (.int i), some (.int 0), y]) : Wp (forL (gN 2) gcdB xs [some (.int i), some (.int 0), y]) Q := by
  cases xs with
  | nil => exact hQ y
  | cons x xs =>
    simp -implicitDefEqProofs -dsimp
    exact hQ _
theorem gcd_loop {Q : Fl → DL.Env → Prop} : ∀ (k a b : Nat) (xs : List D) (y : Option D), b < 2 ^ k → 2 * k ≤ xs.length → (∀ y, Q .nx [some (.int (Nat.gcd a b)), some (.int 0), y]) →
    Wp (forL (gN 2) gcdB xs [some (.int a), some (.int b), y]) Q := by
  intro k
  induction k with
  | zero =>
    intro a b xs y hb hl hQ
    have : b = 0 := by omega
    subst this
    rw [Nat.gcd_zero_right] at hQ
    exact gcd_stop hQ
  | succ k ih =>
    intro a b xs y hb hl hQ
    by_cases z : b = 0
    · subst z
      rw [Nat.gcd_zero_right] at hQ
      exact gcd_stop hQ
    · match xs, hl with
      | x :: x' :: xs, hl =>
        have e1 : Int.fmod (a : Int) (b : Int) = ((a % b : Nat) : Int) := by
          rw [Int.fmod_eq_emod_of_nonneg _ (by omega)]
          rfl
        rw [gcd_turn (by omega), e1]
        have g1 : Nat.gcd a b = Nat.gcd b (a % b) := by
          rw [Nat.gcd_comm a b, Nat.gcd_rec b a, Nat.gcd_comm]
        by_cases z2 : a % b = 0
        · rw [g1, z2, Nat.gcd_zero_right] at hQ
          rw [z2]
          exact gcd_stop hQ
        · have e2 : Int.fmod (b : Int) ((a % b : Nat) : Int) = ((b % (a % b) : Nat) : Int) := by
            rw [Int.fmod_eq_emod_of_nonneg _ (by omega)]
            rfl
          have g2 : Nat.gcd b (a % b) = Nat.gcd (a % b) (b % (a % b)) := by
            rw [Nat.gcd_comm b, Nat.gcd_rec (a % b) b, Nat.gcd_comm]
          have lt1 : a % b < b := Nat.mod_lt _ (by omega)
          have lt2 : b % (a % b) < a % b := Nat.mod_lt _ (by omega)
          have lt3 : b % (a % b) + a % b ≤ b := by
            have h := Nat.div_add_mod b (a % b)
            have h2 : 1 ≤ b / (a % b) := Nat.div_pos (by omega) (by omega)
            have h3 : (a % b) * 1 ≤ (a % b) * (b / (a % b)) := Nat.mul_le_mul_left _ h2
            omega
          rw [gcd_turn (by omega), e2]
          exact ih (a % b) (b % (a % b)) xs _ (by rw [Nat.pow_succ] at hb; omega) (by simp only [List.length_cons] at hl; omega) (fun y => by rw [← g2, ← g1]; exact hQ y)
theorem gcd_ok {a b : Int} {n : Nat} (hb : Bd n b) (hn : n ≤ 2000) : Wp (F__law_gcd [.int a, .int b]) fun d _ => d = .int (Nat.gcd a.natAbs b.natAbs) := by
  unfold F__law_gcd
  first | rw [wp_runP] | rw [wp_runF]
  simp -implicitDefEqProofs -dsimp
  refine gcd_loop n a.natAbs b.natAbs _ _ hb ?_ (fun y => ?_)
  · show 2 * n ≤ ((List.range (4000 - 0 : Int).toNat).map _).length
    rw [List.length_map, List.length_range]
    show 2 * n ≤ 4000
    omega
  · simp -implicitDefEqProofs -dsimp
/-! the script, the tape -/
def RowI (ns : List Int) (y : Int) (i : Nat) (e : DL.Env) : Prop := ∃ (row : List Int) (z : Int) (o4 : Option D), e = [some (.klst (ns.map D.int)), some (.own (row.map D.int)), some (.int y), some (.int z), o4] ∧ row.length ≤ i
def RowO (ns : List Int) (i : Nat) (e : DL.Env) : Prop := ∃ (row : List Int) (o2 o3 o4 : Option D), e = [some (.klst (ns.map D.int)), some (.own (row.map D.int)), o2, o3, o4] ∧ row.length ≤ 30 * i
theorem row_ok {ns : List Int} (h : ns.length ≤ 63) : Wp (F__law_row [.klst (ns.map D.int)]) fun d _ => ∃ row : List Int, d = lI row ∧ row.length ≤ 2000 := by
  obtain ⟨ys, hy, hl, _⟩ := cutD_map (f := D.int) (xs := ns) (lo := none) (hi := some 63)
  unfold F__law_row
  first | rw [wp_runP] | rw [wp_runF]
  simp -implicitDefEqProofs -dsimp [hy]
  refine wp_forL (RowO ns) _ 0 _ ⟨[], _, _, _, rfl, by simp⟩ ?_ ?_
  · rintro i d e hd ⟨row, o2, o3, o4, rfl, hr⟩
    have hi : i < ys.length := by
      have := (List.getElem?_eq_some_iff.mp hd).1
      simpa using this
    obtain ⟨y, _, rfl⟩ := List.mem_map.mp (List.mem_of_getElem? hd)
    simp -implicitDefEqProofs -dsimp
    refine wp_forL (fun j => RowI ns y (30 * i + j)) _ 0 _ ⟨row, _, _, rfl, by omega⟩ ?_ ?_
    · rintro j d e hd ⟨row, z, o4, rfl, hr⟩
      have hj : j < 30 := by
        have := (List.getElem?_eq_some_iff.mp hd).1
        simpa [rg] using this
      simp -implicitDefEqProofs -dsimp
      exact ⟨by omega, DivOk.of (n := 20) (by decide) (by decide) (by decide), fun _ => ⟨row ++ [z.fmod 60], _, _, _, by rw [List.map_append]; rfl, by simp; omega⟩, fun _ => ⟨row ++ [z.fmod 60], _, _, by rw [List.map_append]; rfl, by simp; omega⟩⟩
    · rintro e ⟨row, z, o4, rfl, hr⟩
      have : (rg 0 30).length = 30 := by simp [rg]
      exact ⟨row, _, _, _, rfl, by omega⟩
  · rintro e ⟨row, o2, o3, o4, rfl, hr⟩
    have : (ys.map D.int).length ≤ 63 := by
      rw [List.length_map]
      omega
    simp -implicitDefEqProofs -dsimp
    exact ⟨row, rfl, by omega⟩
end K02
end

section
set_option maxRecDepth 100000
set_option maxHeartbeats 1000000
namespace K02
open PySem L2 DL
/-- t is (a + b t) / w in the one form -/
def Nm (n : Nat) (t : List Int) (a b w : Int) : Prop := ∃ p q r : Int, t = [p, q, r] ∧ 1 ≤ r ∧ Nat.gcd (Nat.gcd p.natAbs q.natAbs) r.natAbs = 1 ∧ p * w = a * r ∧ q * w = b * r ∧ Bd n p ∧ Bd n q ∧ Bd n r
theorem fd {g : Nat} {x : Int} (h : (g : Int) ∣ x) : x = g * x.fdiv g := by
  rw [Int.fdiv_eq_ediv_of_nonneg _ (by omega), Int.mul_ediv_cancel' h]
theorem fd_abs {g : Nat} {x : Int} (h : (g : Int) ∣ x) : x.natAbs = g * (x.fdiv g).natAbs := by
  conv => lhs; rw [fd h]
  rw [Int.natAbs_mul, Int.natAbs_natCast]
theorem fd_bd {g n : Nat} {x : Int} (h : (g : Int) ∣ x) (hg : 0 < g) (hb : Bd n x) : Bd n (x.fdiv g) := by
  refine Bd.le hb ?_
  rw [fd_abs h]
  exact Nat.le_mul_of_pos_left _ hg
theorem fd_pos {g : Nat} {x : Int} (h : (g : Int) ∣ x) (hx : 1 ≤ x) : 1 ≤ x.fdiv g := by
  have e := fd h
  rcases Int.lt_or_le (x.fdiv g) 1 with z | z
  · have : (g : Int) * x.fdiv g ≤ (g : Int) * 0 := Int.mul_le_mul_of_nonneg_left (by omega) (by omega)
    omega
  · exact z
theorem dv {g : Nat} {x : Int} (h : g ∣ x.natAbs) : (g : Int) ∣ x := Int.dvd_natAbs.mp (Int.natCast_dvd_natCast.mpr h)
theorem cross {g x x' w w' : Int} (h1 : x = g * x') (h2 : w = g * w') : x' * w = x * w' := by
  subst h1 h2
  grind
theorem nm_of {n : Nat} {a b w : Int} (hw : 1 ≤ w) (ha : Bd n a) (hb : Bd n b) (hc : Bd n w) :
    0 < Nat.gcd (Nat.gcd a.natAbs b.natAbs) w.natAbs ∧ Bd n ((Nat.gcd (Nat.gcd a.natAbs b.natAbs) w.natAbs : Nat) : Int) ∧ Nm n [a.fdiv (Nat.gcd (Nat.gcd a.natAbs b.natAbs) w.natAbs : Nat), b.fdiv (Nat.gcd (Nat.gcd a.natAbs b.natAbs) w.natAbs : Nat), w.fdiv (Nat.gcd (Nat.gcd a.natAbs b.natAbs) w.natAbs : Nat)] a b w := by
  generalize hg : Nat.gcd (Nat.gcd a.natAbs b.natAbs) w.natAbs = g
  have da : (g : Int) ∣ a := dv (by rw [← hg]; exact Nat.dvd_trans (Nat.gcd_dvd_left _ _) (Nat.gcd_dvd_left _ _))
  have db : (g : Int) ∣ b := dv (by rw [← hg]; exact Nat.dvd_trans (Nat.gcd_dvd_left _ _) (Nat.gcd_dvd_right _ _))
  have dw : (g : Int) ∣ w := dv (by rw [← hg]; exact Nat.gcd_dvd_right _ _)
  have pos : 0 < g := by
    rw [← hg]
    exact Nat.gcd_pos_of_pos_right _ (by omega)
  refine ⟨pos, Bd.le hc ?_, _, _, _, rfl, fd_pos dw hw, ?_, cross (fd da) (fd dw), cross (fd db) (fd dw), fd_bd da pos ha, fd_bd db pos hb, fd_bd dw pos hc⟩
  · rw [Int.natAbs_natCast, ← hg]
    exact Nat.gcd_le_right _ (by omega)
  · have e := hg
    rw [fd_abs da, fd_abs db, fd_abs dw, Nat.gcd_mul_left, Nat.gcd_mul_left] at e
    exact Nat.eq_of_mul_eq_mul_left pos (by rw [e, Nat.mul_one])
theorem neg_bd {n : Nat} {x : Int} (h : Bd n x) : Bd n (-x) := by
  unfold Bd
  rw [Int.natAbs_neg]
  exact h
theorem Nm.neg {n : Nat} {t : List Int} {a b w : Int} (h : Nm n t (-a) (-b) (-w)) : Nm n t a b w := by
  obtain ⟨p, q, r, e, h1, h2, h3, h4, h5⟩ := h
  exact ⟨p, q, r, e, h1, h2, by grind, by grind, h5⟩
theorem gcd2 (i j : Int) : dGcd2 [.int i, .int j] = some (.int (Nat.gcd i.natAbs j.natAbs : Nat)) := rfl
theorem number_ok {n : Nat} {a b w : Int} (hw : w ≠ 0) (ha : Bd n a) (hb : Bd n b) (hc : Bd n w) (hn : n < 8000) : Wp (F_number [.int a, .int b, .int w]) fun d _ => ∃ t, d = tI t ∧ Nm n t a b w := by
  unfold F_number
  first | rw [wp_runP] | rw [wp_runF]
  simp -implicitDefEqProofs -dsimp [gcd2, hw]
  constructor
  · intro z
    obtain ⟨h1, h2, h3⟩ := nm_of (n := n) (a := -a) (b := -b) (w := -w) (by omega) (neg_bd ha) (neg_bd hb) (neg_bd hc)
    simp only [Int.natAbs_neg] at h1 h2 h3
    have d := DivOk.of h2 (by omega) (by omega)
    exact ⟨d, _, rfl, h3.neg⟩
  · intro z
    obtain ⟨h1, h2, h3⟩ := nm_of (n := n) (a := a) (b := b) (w := w) (by omega) ha hb hc
    have d := DivOk.of h2 (by omega) (by omega)
    exact ⟨d, _, rfl, h3⟩
theorem number_ex {a b : Int} : Wq (fun x _ => x = ⟨"ByZero", []⟩) (F_number [.int a, .int b, .int 0]) fun _ _ => False := by
  unfold F_number
  first | rw [wp_runP] | rw [wp_runF]
  simp -implicitDefEqProofs -dsimp
theorem canc {k x y : Int} (hk : k ≠ 0) (h : k * x = k * y) : x = y := Int.eq_of_mul_eq_mul_left hk h
end K02
end

section
set_option maxRecDepth 100000
set_option maxHeartbeats 1000000
namespace K02
open PySem L2 DL
/-- u + v t, products of moving parts left out -/
abbrev V2 := Rat × Rat
def vm (x y : V2) : V2 := (x.1 * y.1, x.1 * y.2 + x.2 * y.1)
def va (x y : V2) : V2 := (x.1 + y.1, x.2 + y.2)
def vs (x y : V2) : V2 := (x.1 - y.1, x.2 - y.2)
def vn (x : V2) : V2 := (-x.1, -x.2)
/-- t is the number of value x, in the one form -/
def One (n : Nat) (t : List Int) (x : V2) : Prop := ∃ p q r : Int, t = [p, q, r] ∧ 1 ≤ r ∧ Nat.gcd (Nat.gcd p.natAbs q.natAbs) r.natAbs = 1 ∧ (p : Rat) = x.1 * r ∧ (q : Rat) = x.2 * r ∧ Bd n p ∧ Bd n q ∧ Bd n r
/-- t is a triple of value x -/
def Ur (n : Nat) (t : List Int) (x : V2) : Prop := ∃ p q r : Int, t = [p, q, r] ∧ 1 ≤ r ∧ (p : Rat) = x.1 * r ∧ (q : Rat) = x.2 * r ∧ Bd n p ∧ Bd n q ∧ Bd n r
theorem One.ur {n : Nat} {t : List Int} {x : V2} (h : One n t x) : Ur n t x := by
  obtain ⟨p, q, r, e, h1, h2, h3⟩ := h
  exact ⟨p, q, r, e, h1, h3⟩
theorem One.mono {m n : Nat} {t : List Int} {x : V2} (h : One m t x) (k : m ≤ n) : One n t x := by
  obtain ⟨p, q, r, e, h1, h2, h3, h4, h5, h6, h7⟩ := h
  exact ⟨p, q, r, e, h1, h2, h3, h4, h5.mono k, h6.mono k, h7.mono k⟩
theorem Ur.mono {m n : Nat} {t : List Int} {x : V2} (h : Ur m t x) (k : m ≤ n) : Ur n t x := by
  obtain ⟨p, q, r, e, h1, h3, h4, h5, h6, h7⟩ := h
  exact ⟨p, q, r, e, h1, h3, h4, h5.mono k, h6.mono k, h7.mono k⟩
theorem cast_ne {w : Int} (h : w ≠ 0) : (w : Rat) ≠ 0 := fun z => h (Rat.intCast_inj.mp (z.trans (by rfl)))
theorem Nm.one {n : Nat} {t : List Int} {a b w : Int} {x : V2} (h : Nm n t a b w) (hw : w ≠ 0) (ha : (a : Rat) = x.1 * w) (hb : (b : Rat) = x.2 * w) : One n t x := by
  obtain ⟨p, q, r, e, h1, h2, h3, h4, h5⟩ := h
  have h3 := congrArg (fun z : Int => (z : Rat)) h3
  have h4 := congrArg (fun z : Int => (z : Rat)) h4
  simp only [Rat.intCast_mul] at h3 h4
  have hw := cast_ne hw
  exact ⟨p, q, r, e, h1, h2, by grind, by grind, h5⟩
theorem Ur.cross {m n : Nat} {t s : List Int} {x : V2} (h : Ur m t x) (k : Ur n s x) : ∃ p q r a b w : Int, t = [p, q, r] ∧ s = [a, b, w] ∧ p * w = a * r ∧ q * w = b * r := by
  obtain ⟨p, q, r, e, h1, h3, h4, h5⟩ := h
  obtain ⟨a, b, w, e', k1, k3, k4, k5⟩ := k
  refine ⟨p, q, r, a, b, w, e, e', Rat.intCast_inj.mp ?_, Rat.intCast_inj.mp ?_⟩
  · rw [Rat.intCast_mul, Rat.intCast_mul, h3, k3]
    grind
  · rw [Rat.intCast_mul, Rat.intCast_mul, h4, k4]
    grind
theorem nat_of {p w a r : Int} (h : p * w = a * r) : p.natAbs * w.natAbs = a.natAbs * r.natAbs := by
  rw [← Int.natAbs_mul, ← Int.natAbs_mul, h]
theorem dvd_of {p q r p' q' r' : Nat} (h1 : p * r' = p' * r) (h2 : q * r' = q' * r) (g : Nat.gcd (Nat.gcd p q) r = 1) : r ∣ r' := by
  have e : Nat.gcd (Nat.gcd (r' * p) (r' * q)) (r' * r) = r' := by
    rw [Nat.gcd_mul_left, Nat.gcd_mul_left, g, Nat.mul_one]
  rw [← e]
  refine Nat.dvd_gcd (Nat.dvd_gcd ?_ ?_) (Nat.dvd_mul_left _ _)
  · rw [Nat.mul_comm, h1]
    exact Nat.dvd_mul_left _ _
  · rw [Nat.mul_comm, h2]
    exact Nat.dvd_mul_left _ _
/-- the one form is one -/
theorem One.uniq {m n : Nat} {t s : List Int} {x : V2} (h : One m t x) (k : One n s x) : t = s := by
  obtain ⟨p, q, r, a, b, w, rfl, rfl, c1, c2⟩ := h.ur.cross k.ur
  obtain ⟨p', q', r', e, h1, h2, _⟩ := h
  cases e
  obtain ⟨a', b', w', e, k1, k2, _⟩ := k
  cases e
  have d1 := dvd_of (nat_of c1) (nat_of c2) h2
  have d2 := dvd_of (nat_of c1.symm) (nat_of c2.symm) k2
  have e : r = w := by
    have := Nat.dvd_antisymm d1 d2
    omega
  subst e
  have e1 : p = a := Int.eq_of_mul_eq_mul_right (by omega) c1
  have e2 : q = b := Int.eq_of_mul_eq_mul_right (by omega) c2
  rw [e1, e2]
/-! the program's numbers -/
section
variable {m n : Nat} {s t : List Int} {x y : V2}
theorem rr {r r' : Int} (h : 1 ≤ r) (k : 1 ≤ r') : 1 ≤ r * r' := by
  have := Int.mul_le_mul h k (by decide) (by omega)
  omega
theorem plus_ok (hx : One m s x) (hy : One n t y) (hl : m + n < 7000) : Wp (F_plus [tI s, tI t]) fun D _ => ∃ u, D = tI u ∧ One (m + n + 1) u (va x y) := by
  obtain ⟨p, q, r, rfl, h1, h2, h3, h4, h5, h6, h7⟩ := hx
  obtain ⟨p', q', r', rfl, k1, k2, k3, k4, k5, k6, k7⟩ := hy
  have r0 := rr h1 k1
  unfold F_plus
  first | rw [wp_runP] | rw [wp_runF]
  simp -implicitDefEqProofs -dsimp
  refine ⟨?_, ?_, ?_, ?_, ?_, ?z⟩
  case z =>
    refine (number_ok (n := m + n + 1) (by omega) (by (apply Bd.mono; (case h => (repeat' first | assumption | apply Bd.mul | apply Bd.sub | apply Bd.add)); (case k => omega))) (by (apply Bd.mono; (case h => (repeat' first | assumption | apply Bd.mul | apply Bd.sub | apply Bd.add)); (case k => omega))) (by (apply Bd.mono; (case h => (repeat' first | assumption | apply Bd.mul | apply Bd.sub | apply Bd.add)); (case k => omega))) (by omega)).imp ?_
    rintro _ _ ⟨t, rfl, N⟩
    simp -implicitDefEqProofs -dsimp
    refine ⟨t, rfl, N.one (by omega) ?_ ?_⟩
    · simp only [Rat.intCast_add, Rat.intCast_mul, va, h3, k3]
      grind
    · simp only [Rat.intCast_add, Rat.intCast_mul, va, h4, k4]
      grind
  all_goals (apply DL.MulOk.of; (case h => (repeat' first | assumption | apply Bd.mul | apply Bd.sub | apply Bd.add)); (case k => (repeat' first | assumption | apply Bd.mul | apply Bd.sub | apply Bd.add)); (case s => omega))
theorem minus_ok (hx : One m s x) (hy : One n t y) (hl : m + n < 7000) : Wp (F_minus [tI s, tI t]) fun D _ => ∃ u, D = tI u ∧ One (m + n + 1) u (vs x y) := by
  obtain ⟨p, q, r, rfl, h1, h2, h3, h4, h5, h6, h7⟩ := hx
  obtain ⟨p', q', r', rfl, k1, k2, k3, k4, k5, k6, k7⟩ := hy
  have r0 := rr h1 k1
  unfold F_minus
  first | rw [wp_runP] | rw [wp_runF]
  simp -implicitDefEqProofs -dsimp
  refine ⟨?_, ?_, ?_, ?_, ?_, ?z⟩
  case z =>
    refine (number_ok (n := m + n + 1) (by omega) (by (apply Bd.mono; (case h => (repeat' first | assumption | apply Bd.mul | apply Bd.sub | apply Bd.add)); (case k => omega))) (by (apply Bd.mono; (case h => (repeat' first | assumption | apply Bd.mul | apply Bd.sub | apply Bd.add)); (case k => omega))) (by (apply Bd.mono; (case h => (repeat' first | assumption | apply Bd.mul | apply Bd.sub | apply Bd.add)); (case k => omega))) (by omega)).imp ?_
    rintro _ _ ⟨t, rfl, N⟩
    simp -implicitDefEqProofs -dsimp
    refine ⟨t, rfl, N.one (by omega) ?_ ?_⟩
    · simp only [Rat.intCast_sub, Rat.intCast_mul, vs, h3, k3]
      grind
    · simp only [Rat.intCast_sub, Rat.intCast_mul, vs, h4, k4]
      grind
  all_goals (apply DL.MulOk.of; (case h => (repeat' first | assumption | apply Bd.mul | apply Bd.sub | apply Bd.add)); (case k => (repeat' first | assumption | apply Bd.mul | apply Bd.sub | apply Bd.add)); (case s => omega))
/-- one of the two stands still -/
def St (x y : V2) : Prop := x.2 = 0 ∨ y.2 = 0
theorem q0 {q r : Int} {v : Rat} (h : (q : Rat) = v * r) (hr : 1 ≤ r) : q = 0 ↔ v = 0 := by
  have hr := cast_ne (show r ≠ 0 by omega)
  constructor
  · intro z
    rw [z] at h
    have h : (0 : Rat) = v * r := h
    grind
  · intro z
    rw [z, Rat.zero_mul] at h
    exact Rat.intCast_inj.mp (h.trans (by rfl))
theorem times_ok (hx : One m s x) (hy : One n t y) (st : St x y) (hl : m + n < 7000) : Wp (F_times [tI s, tI t]) fun D _ => ∃ u, D = tI u ∧ One (m + n + 1) u (vm x y) := by
  obtain ⟨p, q, r, rfl, h1, h2, h3, h4, h5, h6, h7⟩ := hx
  obtain ⟨p', q', r', rfl, k1, k2, k3, k4, k5, k6, k7⟩ := hy
  have r0 := rr h1 k1
  have go : ∀ {E : Exn → DL.Env → Prop} {Q : D → DL.Env → Prop} {M : Int}, M = p * q' + q * p' → (∀ t e, One (m + n + 1) t (vm x y) → Q (tI t) e) → Wq E (F_number [.int (p * p'), .int M, .int (r * r')]) Q := fun {E Q M} hM h => by
    subst hM
    refine (number_ok (n := m + n + 1) (by omega) (by (apply Bd.mono; (case h => (repeat' first | assumption | apply Bd.mul | apply Bd.sub | apply Bd.add)); (case k => omega))) (by (apply Bd.mono; (case h => (repeat' first | assumption | apply Bd.mul | apply Bd.sub | apply Bd.add)); (case k => omega))) (by (apply Bd.mono; (case h => (repeat' first | assumption | apply Bd.mul | apply Bd.sub | apply Bd.add)); (case k => omega))) (by omega)).imp ?_
    rintro _ _ ⟨t, rfl, N⟩
    refine h _ _ (N.one (by omega) ?_ ?_)
    · simp only [Rat.intCast_mul, vm, h3, k3]
      grind
    · simp only [Rat.intCast_add, Rat.intCast_mul, vm, h3, k3, h4, k4]
      grind
  have fin : DL.MulOk p p' ∧ DL.MulOk p q' ∧ DL.MulOk q p' ∧ DL.MulOk r r' := by
    refine ⟨?_, ?_, ?_, ?_⟩
    all_goals (apply DL.MulOk.of; (case h => (repeat' first | assumption | apply Bd.mul | apply Bd.sub | apply Bd.add)); (case k => (repeat' first | assumption | apply Bd.mul | apply Bd.sub | apply Bd.add)); (case s => omega))
  unfold F_times
  first | rw [wp_runP] | rw [wp_runF]
  rcases st with z | z
  · have e1 := (q0 h4 h1).mpr z
    subst e1
    simp -implicitDefEqProofs -dsimp [fin]
    refine go (by grind) fun t e N => ?_
    simp -implicitDefEqProofs -dsimp
    exact ⟨t, rfl, N⟩
  · have e1 := (q0 k4 k1).mpr z
    subst e1
    simp -implicitDefEqProofs -dsimp [fin]
    refine ⟨fun _ => ?_, fun _ => ?_⟩
    all_goals
      refine go (by grind) fun t e N => ?_
      simp -implicitDefEqProofs -dsimp
      exact ⟨t, rfl, N⟩
theorem times_ex (hx : One m s x) (hy : One n t y) (h : x.2 ≠ 0) (k : y.2 ≠ 0) : Wq (fun x _ => x = ⟨"Moving", []⟩) (F_times [tI s, tI t]) fun _ _ => False := by
  obtain ⟨p, q, r, rfl, h1, h2, h3, h4, h5, h6, h7⟩ := hx
  obtain ⟨p', q', r', rfl, k1, k2, k3, k4, k5, k6, k7⟩ := hy
  have e1 : q ≠ 0 := fun z => h ((q0 h4 h1).mp z)
  have e2 : q' ≠ 0 := fun z => k ((q0 k4 k1).mp z)
  unfold F_times
  first | rw [wp_runP] | rw [wp_runF]
  simp -implicitDefEqProofs -dsimp [e1, e2]
/-- i is 1 / y -/
theorem over_ok {i : Rat} (hx : One m s x) (hy : One n t y) (k0 : y.2 = 0) (hi : y.1 * i = 1) (hl : m + n < 7000) : Wp (F_over [tI s, tI t]) fun D _ => ∃ u, D = tI u ∧ One (m + n + 1) u (vm x (i, 0)) := by
  obtain ⟨p, q, r, rfl, h1, h2, h3, h4, h5, h6, h7⟩ := hx
  obtain ⟨p', q', r', rfl, k1, k2, k3, k4, k5, k6, k7⟩ := hy
  have e1 := (q0 k4 k1).mpr k0
  subst e1
  have y0 : y.1 ≠ 0 := fun z => by
    rw [z, Rat.zero_mul] at hi
    exact absurd hi (by decide)
  have e2 : p' ≠ 0 := fun z => y0 ((q0 k3 k1).mp z)
  have r0 : r * p' ≠ 0 := Int.mul_ne_zero (by omega) e2
  have r'0 := cast_ne (show r' ≠ 0 by omega)
  have r1 := cast_ne (show r ≠ 0 by omega)
  unfold F_over
  first | rw [wp_runP] | rw [wp_runF]
  simp -implicitDefEqProofs -dsimp [e2]
  refine ⟨?_, ?_, ?_, ?z⟩
  case z =>
    refine (number_ok (n := m + n + 1) r0 (by (apply Bd.mono; (case h => (repeat' first | assumption | apply Bd.mul | apply Bd.sub | apply Bd.add)); (case k => omega))) (by (apply Bd.mono; (case h => (repeat' first | assumption | apply Bd.mul | apply Bd.sub | apply Bd.add)); (case k => omega))) (by (apply Bd.mono; (case h => (repeat' first | assumption | apply Bd.mul | apply Bd.sub | apply Bd.add)); (case k => omega))) (by omega)).imp ?_
    rintro _ _ ⟨t, rfl, N⟩
    simp -implicitDefEqProofs -dsimp
    refine ⟨t, rfl, N.one r0 ?_ ?_⟩
    · simp only [Rat.intCast_mul, vm, h3, k3]
      grind
    · simp only [Rat.intCast_mul, vm, h4, k3]
      grind
  all_goals (apply DL.MulOk.of; (case h => (repeat' first | assumption | apply Bd.mul | apply Bd.sub | apply Bd.add)); (case k => (repeat' first | assumption | apply Bd.mul | apply Bd.sub | apply Bd.add)); (case s => omega))
theorem moves_ok (hx : One m s x) : Wp (F_moves [tI s]) fun D _ => ∃ b : Bool, D = .bl b ∧ (b = false ↔ x.2 = 0) := by
  obtain ⟨p, q, r, rfl, h1, h2, h3, h4, h5, h6, h7⟩ := hx
  unfold F_moves
  first | rw [wp_runP] | rw [wp_runF]
  simp -implicitDefEqProofs -dsimp
  have e := q0 h4 h1
  by_cases z : q = 0
  · exact .inl ⟨z, e.mp z⟩
  · exact .inr ⟨z, fun y => z (e.mpr y)⟩
end
end K02
end

section
set_option maxRecDepth 100000
set_option maxHeartbeats 1000000
namespace K02
open PySem L2 DL
@[simp] theorem slice_tup {xs : List D} {lo hi : Option Int} : dSlice (.tup xs) lo hi = some (.tup (cutD xs lo hi)) := rfl
@[simp] theorem add_tup {xs ys : List D} : dAdd (.tup xs) (.tup ys) = if xs.length + ys.length ≤ 1000000 then some (.tup (xs ++ ys)) else none := rfl
@[simp] theorem add_lst {xs ys : List D} : dAdd (.lst xs) (.lst ys) = if xs.length + ys.length ≤ 1000000 then some (.lst (xs ++ ys)) else none := rfl
theorem cut4 {a b c d : D} {rest : List D} (hr : rest = [] ∨ ∃ e f, rest = [e, f]) : cutD (a :: b :: c :: d :: rest) none (some 4) = [a, b, c, d] := by
  rcases hr with rfl | ⟨e, f, rfl⟩ <;> rfl
section
variable {n k ne : Nat} {a b c d e f x y : List Int} {A B C G E F X Y : V2} {rest : List D}
/-- no product of two moving ones -/
def S4 (A B C G X Y : V2) : Prop := St A X ∧ St C Y ∧ St B X ∧ St G Y
theorem lead_step_ok (ha : One n a A) (hb : One n b B) (hc : One n c C) (hd : One n d G) (hx : One k x X) (hy : One k y Y) (s : S4 A B C G X Y) (hr : rest = [] ∨ ∃ e f, rest = [e, f]) (hl : n + k < 3400) :
    Wp (F_lead_step [.tup (tI a :: tI b :: tI c :: tI d :: rest), .tup [tI x, tI y]]) fun D _ => ∃ u w, D = .tup [tI u, tI w] ∧ One (2 * (n + k) + 3) u (va (vm A X) (vm C Y)) ∧ One (2 * (n + k) + 3) w (va (vm B X) (vm G Y)) := by
  have hc4 := cut4 (a := tI a) (b := tI b) (c := tI c) (d := tI d) hr
  obtain ⟨s1, s2, s3, s4⟩ := s
  unfold F_lead_step
  first | rw [wp_runP] | rw [wp_runF]
  simp -implicitDefEqProofs -dsimp [hc4]
  refine (times_ok ha hx s1 (by omega)).imp ?_
  rintro _ _ ⟨u1, rfl, o1⟩
  simp -implicitDefEqProofs -dsimp
  refine (times_ok hc hy s2 (by omega)).imp ?_
  rintro _ _ ⟨u2, rfl, o2⟩
  simp -implicitDefEqProofs -dsimp
  refine (plus_ok o1 o2 (by omega)).imp ?_
  rintro _ _ ⟨u3, rfl, o3⟩
  simp -implicitDefEqProofs -dsimp
  refine (times_ok hb hx s3 (by omega)).imp ?_
  rintro _ _ ⟨u4, rfl, o4⟩
  simp -implicitDefEqProofs -dsimp
  refine (times_ok hd hy s4 (by omega)).imp ?_
  rintro _ _ ⟨u5, rfl, o5⟩
  simp -implicitDefEqProofs -dsimp
  refine (plus_ok o4 o5 (by omega)).imp ?_
  rintro _ _ ⟨u6, rfl, o6⟩
  simp -implicitDefEqProofs -dsimp
  exact ⟨u3, u6, ⟨rfl, rfl⟩, o3.mono (by omega), o6.mono (by omega)⟩
theorem not_st {x y : V2} (h : ¬ St x y) : x.2 ≠ 0 ∧ y.2 ≠ 0 := ⟨fun z => h (.inl z), fun z => h (.inr z)⟩
abbrev Mov (x : Exn) (_ : DL.Env) : Prop := x = ⟨"Moving", []⟩
theorem lead_step_ex (ha : One n a A) (hb : One n b B) (hc : One n c C) (hd : One n d G) (hx : One k x X) (hy : One k y Y) (s : ¬ S4 A B C G X Y) (hr : rest = [] ∨ ∃ e f, rest = [e, f]) (hl : n + k < 3400) :
    Wq Mov (F_lead_step [.tup (tI a :: tI b :: tI c :: tI d :: rest), .tup [tI x, tI y]]) fun _ _ => False := by
  have hc4 := cut4 (a := tI a) (b := tI b) (c := tI c) (d := tI d) hr
  unfold F_lead_step
  first | rw [wp_runP] | rw [wp_runF]
  simp -implicitDefEqProofs -dsimp [hc4]
  by_cases s1 : St A X
  · refine (times_ok ha hx s1 (by omega)).imp ?_
    rintro _ _ ⟨u1, rfl, o1⟩
    simp -implicitDefEqProofs -dsimp
    by_cases s2 : St C Y
    · refine (times_ok hc hy s2 (by omega)).imp ?_
      rintro _ _ ⟨u2, rfl, o2⟩
      simp -implicitDefEqProofs -dsimp
      refine (plus_ok o1 o2 (by omega)).imp ?_
      rintro _ _ ⟨u3, rfl, o3⟩
      simp -implicitDefEqProofs -dsimp
      by_cases s3 : St B X
      · refine (times_ok hb hx s3 (by omega)).imp ?_
        rintro _ _ ⟨u4, rfl, o4⟩
        simp -implicitDefEqProofs -dsimp
        by_cases s4 : St G Y
        · exact absurd ⟨s1, s2, s3, s4⟩ s
        · refine (times_ex hd hy (not_st s4).1 (not_st s4).2).imp (fun _ _ z => z.elim) ?_
          rintro _ _ rfl
          simp -implicitDefEqProofs -dsimp
      · refine (times_ex hb hx (not_st s3).1 (not_st s3).2).imp (fun _ _ z => z.elim) ?_
        rintro _ _ rfl
        simp -implicitDefEqProofs -dsimp
    · refine (times_ex hc hy (not_st s2).1 (not_st s2).2).imp (fun _ _ z => z.elim) ?_
      rintro _ _ rfl
      simp -implicitDefEqProofs -dsimp
  · refine (times_ex ha hx (not_st s1).1 (not_st s1).2).imp (fun _ _ z => z.elim) ?_
    rintro _ _ rfl
    simp -implicitDefEqProofs -dsimp
/-- a matrix of six numbers -/
def Mx (n ne : Nat) (M : List (List Int)) (A B C G E F : V2) : Prop := ∃ a b c d e f, M = [a, b, c, d, e, f] ∧ One n a A ∧ One n b B ∧ One n c C ∧ One n d G ∧ One ne e E ∧ One ne f F
abbrev mI (M : List (List Int)) : D := .tup (M.map tI)
variable {M : List (List Int)}
theorem lead_ok (h : Mx n ne M A B C G E F) (hx : One k x X) (hy : One k y Y) (s : S4 A B C G X Y) (hl : n + k + ne < 2000) :
    Wp (F_lead [mI M, .tup [tI x, tI y]]) fun D _ => ∃ u w, D = .tup [tI u, tI w] ∧ One (2 * (n + k) + ne + 4) u (va (va (vm A X) (vm C Y)) E) ∧ One (2 * (n + k) + ne + 4) w (va (va (vm B X) (vm G Y)) F) := by
  obtain ⟨a, b, c, d, e, f, rfl, ha, hb, hc, hd, he, hf⟩ := h
  unfold F_lead
  first | rw [wp_runP] | rw [wp_runF]
  simp -implicitDefEqProofs -dsimp
  refine (lead_step_ok ha hb hc hd hx hy s (.inr ⟨tI e, tI f, rfl⟩) (by omega)).imp ?_
  rintro _ _ ⟨u1, u2, rfl, o1, o2⟩
  simp -implicitDefEqProofs -dsimp
  refine (plus_ok o1 he (by omega)).imp ?_
  rintro _ _ ⟨u3, rfl, o3⟩
  simp -implicitDefEqProofs -dsimp
  refine (plus_ok o2 hf (by omega)).imp ?_
  rintro _ _ ⟨u4, rfl, o4⟩
  simp -implicitDefEqProofs -dsimp
  exact ⟨u3, u4, ⟨rfl, rfl⟩, o3.mono (by omega), o4.mono (by omega)⟩
theorem lead_ex (h : Mx n ne M A B C G E F) (hx : One k x X) (hy : One k y Y) (s : ¬ S4 A B C G X Y) (hl : n + k + ne < 2000) : Wq Mov (F_lead [mI M, .tup [tI x, tI y]]) fun _ _ => False := by
  obtain ⟨a, b, c, d, e, f, rfl, ha, hb, hc, hd, he, hf⟩ := h
  unfold F_lead
  first | rw [wp_runP] | rw [wp_runF]
  simp -implicitDefEqProofs -dsimp
  refine (lead_step_ex ha hb hc hd hx hy s (.inr ⟨tI e, tI f, rfl⟩) (by omega)).imp (fun _ _ z => z.elim) ?_
  rintro _ _ rfl
  simp -implicitDefEqProofs -dsimp
theorem lead_step_m (h : Mx n ne M A B C G E F) (hx : One k x X) (hy : One k y Y) (s : S4 A B C G X Y) (hl : n + k < 2000) :
    Wp (F_lead_step [mI M, .tup [tI x, tI y]]) fun D _ => ∃ u w, D = .tup [tI u, tI w] ∧ One (2 * (n + k) + 3) u (va (vm A X) (vm C Y)) ∧ One (2 * (n + k) + 3) w (va (vm B X) (vm G Y)) := by
  obtain ⟨a, b, c, d, e, f, rfl, ha, hb, hc, hd, he, hf⟩ := h
  exact lead_step_ok ha hb hc hd hx hy s (.inr ⟨tI e, tI f, rfl⟩) (by omega)
theorem lead_step_mx (h : Mx n ne M A B C G E F) (hx : One k x X) (hy : One k y Y) (s : ¬ S4 A B C G X Y) (hl : n + k < 2000) : Wq Mov (F_lead_step [mI M, .tup [tI x, tI y]]) fun _ _ => False := by
  obtain ⟨a, b, c, d, e, f, rfl, ha, hb, hc, hd, he, hf⟩ := h
  exact lead_step_ex ha hb hc hd hx hy s (.inr ⟨tI e, tI f, rfl⟩) (by omega)
variable {A' B' C' G' E' F' : V2} {M' : List (List Int)}
/-- M first, M' then -/
theorem after_ok (h : Mx n n M A B C G E F) (h' : Mx n n M' A' B' C' G' E' F') (s1 : S4 A' B' C' G' A B) (s2 : S4 A' B' C' G' C G) (s3 : S4 A' B' C' G' E F) (hl : n < 300) :
    Wp (F_after [mI M, mI M']) fun D _ => ∃ N, D = mI N ∧ Mx (4 * n + 3) (5 * n + 4) N (va (vm A' A) (vm C' B)) (va (vm B' A) (vm G' B)) (va (vm A' C) (vm C' G)) (va (vm B' C) (vm G' G)) (va (va (vm A' E) (vm C' F)) E') (va (va (vm B' E) (vm G' F)) F') := by
  obtain ⟨a, b, c, d, e, f, rfl, ha, hb, hc, hd, he, hf⟩ := h
  have q1 : cutD [tI a, tI b, tI c, tI d, tI e, tI f] none (some 2) = [tI a, tI b] := rfl
  have q2 : cutD [tI a, tI b, tI c, tI d, tI e, tI f] (some 2) (some 4) = [tI c, tI d] := rfl
  have q3 : cutD [tI a, tI b, tI c, tI d, tI e, tI f] (some 4) none = [tI e, tI f] := rfl
  unfold F_after
  first | rw [wp_runP] | rw [wp_runF]
  simp -implicitDefEqProofs -dsimp [q1, q2, q3]
  refine (lead_step_m h' ha hb s1 (by omega)).imp ?_
  rintro _ _ ⟨u1, u2, rfl, o1, o2⟩
  simp -implicitDefEqProofs -dsimp [q1, q2, q3]
  refine (lead_step_m h' hc hd s2 (by omega)).imp ?_
  rintro _ _ ⟨u3, u4, rfl, o3, o4⟩
  simp -implicitDefEqProofs -dsimp [q1, q2, q3]
  refine (lead_ok h' he hf s3 (by omega)).imp ?_
  rintro _ _ ⟨u5, u6, rfl, o5, o6⟩
  simp -implicitDefEqProofs -dsimp
  exact ⟨[u1, u2, u3, u4, u5, u6], rfl, u1, u2, u3, u4, u5, u6, rfl, o1.mono (by omega), o2.mono (by omega), o3.mono (by omega), o4.mono (by omega), o5.mono (by omega), o6.mono (by omega)⟩
theorem after_ex (h : Mx n n M A B C G E F) (h' : Mx n n M' A' B' C' G' E' F') (s : ¬ (S4 A' B' C' G' A B ∧ S4 A' B' C' G' C G ∧ S4 A' B' C' G' E F)) (hl : n < 300) : Wq Mov (F_after [mI M, mI M']) fun _ _ => False := by
  obtain ⟨a, b, c, d, e, f, rfl, ha, hb, hc, hd, he, hf⟩ := h
  have q1 : cutD [tI a, tI b, tI c, tI d, tI e, tI f] none (some 2) = [tI a, tI b] := rfl
  have q2 : cutD [tI a, tI b, tI c, tI d, tI e, tI f] (some 2) (some 4) = [tI c, tI d] := rfl
  have q3 : cutD [tI a, tI b, tI c, tI d, tI e, tI f] (some 4) none = [tI e, tI f] := rfl
  unfold F_after
  first | rw [wp_runP] | rw [wp_runF]
  simp -implicitDefEqProofs -dsimp [q1, q2, q3]
  by_cases s1 : S4 A' B' C' G' A B
  · refine (lead_step_m h' ha hb s1 (by omega)).imp ?_
    rintro _ _ ⟨u1, u2, rfl, o1, o2⟩
    simp -implicitDefEqProofs -dsimp [q1, q2, q3]
    by_cases s2 : S4 A' B' C' G' C G
    · refine (lead_step_m h' hc hd s2 (by omega)).imp ?_
      rintro _ _ ⟨u3, u4, rfl, o3, o4⟩
      simp -implicitDefEqProofs -dsimp [q1, q2, q3]
      refine (lead_ex h' he hf (fun s3 => s ⟨s1, s2, s3⟩) (by omega)).imp (fun _ _ z => z.elim) ?_
      rintro _ _ rfl
      simp -implicitDefEqProofs -dsimp
    · refine (lead_step_mx h' hc hd s2 (by omega)).imp (fun _ _ z => z.elim) ?_
      rintro _ _ rfl
      simp -implicitDefEqProofs -dsimp
  · refine (lead_step_mx h' ha hb s1 (by omega)).imp (fun _ _ z => z.elim) ?_
    rintro _ _ rfl
    simp -implicitDefEqProofs -dsimp
theorem det_ok (h : Mx n ne M A B C G E F) (s1 : St A G) (s2 : St B C) (hl : n < 900) : Wp (F_determinant [mI M]) fun D _ => ∃ u, D = tI u ∧ One (4 * n + 3) u (vs (vm A G) (vm B C)) := by
  obtain ⟨a, b, c, d, e, f, rfl, ha, hb, hc, hd, he, hf⟩ := h
  have hc4 := cut4 (a := tI a) (b := tI b) (c := tI c) (d := tI d) (.inr ⟨tI e, tI f, rfl⟩)
  unfold F_determinant
  first | rw [wp_runP] | rw [wp_runF]
  simp -implicitDefEqProofs -dsimp [hc4]
  refine (times_ok ha hd s1 (by omega)).imp ?_
  rintro _ _ ⟨u1, rfl, o1⟩
  simp -implicitDefEqProofs -dsimp
  refine (times_ok hb hc s2 (by omega)).imp ?_
  rintro _ _ ⟨u2, rfl, o2⟩
  simp -implicitDefEqProofs -dsimp
  refine (minus_ok o1 o2 (by omega)).imp ?_
  rintro _ _ ⟨u3, rfl, o3⟩
  simp -implicitDefEqProofs -dsimp
  exact ⟨u3, rfl, o3.mono (by omega)⟩
theorem det_ex (h : Mx n ne M A B C G E F) (s : ¬ (St A G ∧ St B C)) (hl : n < 900) : Wq Mov (F_determinant [mI M]) fun _ _ => False := by
  obtain ⟨a, b, c, d, e, f, rfl, ha, hb, hc, hd, he, hf⟩ := h
  have hc4 := cut4 (a := tI a) (b := tI b) (c := tI c) (d := tI d) (.inr ⟨tI e, tI f, rfl⟩)
  unfold F_determinant
  first | rw [wp_runP] | rw [wp_runF]
  simp -implicitDefEqProofs -dsimp [hc4]
  by_cases s1 : St A G
  · refine (times_ok ha hd s1 (by omega)).imp ?_
    rintro _ _ ⟨u1, rfl, o1⟩
    simp -implicitDefEqProofs -dsimp
    have s2 : ¬ St B C := fun z => s ⟨s1, z⟩
    refine (times_ex hb hc (not_st s2).1 (not_st s2).2).imp (fun _ _ z => z.elim) ?_
    rintro _ _ rfl
    simp -implicitDefEqProofs -dsimp
  · refine (times_ex ha hd (not_st s1).1 (not_st s1).2).imp (fun _ _ z => z.elim) ?_
    rintro _ _ rfl
    simp -implicitDefEqProofs -dsimp
end
end K02
end

section
set_option maxRecDepth 100000
set_option maxHeartbeats 1000000
namespace K02
open PySem L2 DL
theorem Bd1 {n : Nat} (h : 0 < n) : Bd n 1 := by
  unfold Bd
  exact Nat.one_lt_two_pow (by omega)
theorem Bd0 {n : Nat} : Bd n 0 := by
  unfold Bd
  exact Nat.pos_of_ne_zero (by simp)
abbrev o2 : V2 := (0, 0)
theorem one_zero : One 1 [0, 0, 1] o2 := ⟨0, 0, 1, rfl, by decide, by decide, by simp, by simp, Bd0, Bd0, Bd1 (by decide)⟩
theorem one_one : One 1 [1, 0, 1] (1, 0) := ⟨1, 0, 1, rfl, by decide, by decide, by simp, by simp, Bd1 (by decide), Bd0, Bd1 (by decide)⟩
theorem cZer : c_ZERO = tI [0, 0, 1] := rfl
section
variable {n k ne : Nat} {a b c d e f x y : List Int} {A B C G E F X Y : V2} {M : List (List Int)}
theorem back_ex (h : Mx n ne M A B C G E F) (s : ¬ (A.2 = 0 ∧ B.2 = 0 ∧ C.2 = 0 ∧ G.2 = 0)) : Wq Mov (F_back [mI M]) fun _ _ => False := by
  obtain ⟨a, b, c, d, e, f, rfl, ha, hb, hc, hd, he, hf⟩ := h
  unfold F_back
  first | rw [wp_runP] | rw [wp_runF]
  simp -implicitDefEqProofs -dsimp
  refine (moves_ok ha).imp ?_
  rintro _ _ ⟨m1, rfl, e1⟩
  simp -implicitDefEqProofs -dsimp
  intro z1
  refine (moves_ok hb).imp ?_
  rintro _ _ ⟨m2, rfl, e2⟩
  simp -implicitDefEqProofs -dsimp
  intro z2
  refine (moves_ok hc).imp ?_
  rintro _ _ ⟨m3, rfl, e3⟩
  simp -implicitDefEqProofs -dsimp
  intro z3
  refine (moves_ok hd).imp ?_
  rintro _ _ ⟨m4, rfl, e4⟩
  simp -implicitDefEqProofs -dsimp
  intro z4
  exact absurd ⟨e1.mp z1, e2.mp z2, e3.mp z3, e4.mp z4⟩ s
theorem still_mv {b : Bool} {x : V2} (e : b = false ↔ x.2 = 0) (h : x.2 = 0) : b = false := e.mpr h
theorem back_flat (h : Mx n ne M A B C G E F) (s : A.2 = 0 ∧ B.2 = 0 ∧ C.2 = 0 ∧ G.2 = 0) (z : A.1 * G.1 = B.1 * C.1) (hl : n < 900) : Wq (fun x _ => x = ⟨"Flat", []⟩) (F_back [mI M]) fun _ _ => False := by
  have hM := h
  obtain ⟨a, b, c, d, e, f, rfl, ha, hb, hc, hd, he, hf⟩ := h
  obtain ⟨s1, s2, s3, s4⟩ := s
  unfold F_back
  first | rw [wp_runP] | rw [wp_runF]
  simp -implicitDefEqProofs -dsimp
  refine (moves_ok ha).imp ?_
  rintro _ _ ⟨m, rfl, e1⟩
  cases still_mv e1 s1
  simp -implicitDefEqProofs -dsimp
  refine (moves_ok hb).imp ?_
  rintro _ _ ⟨m, rfl, e1⟩
  cases still_mv e1 s2
  simp -implicitDefEqProofs -dsimp
  refine (moves_ok hc).imp ?_
  rintro _ _ ⟨m, rfl, e1⟩
  cases still_mv e1 s3
  simp -implicitDefEqProofs -dsimp
  refine (moves_ok hd).imp ?_
  rintro _ _ ⟨m, rfl, e1⟩
  cases still_mv e1 s4
  simp -implicitDefEqProofs -dsimp
  refine (det_ok hM (.inl s1) (.inl s2) hl).imp ?_
  rintro _ _ ⟨u, rfl, o⟩
  have ev : vs (vm A G) (vm B C) = o2 := by
    refine Prod.ext ?_ ?_
    · show A.1 * G.1 - B.1 * C.1 = 0
      grind
    · show (A.1 * G.2 + A.2 * G.1) - (B.1 * C.2 + B.2 * C.1) = 0
      grind
  rw [ev] at o
  have eu := o.uniq one_zero
  subst eu
  have ec : dEq (.tup [.int 0, .int 0, .int 1]) (.tup [.int 0, .int 0, .int 1]) = some (.bl true) := by
    show dEq (tI [0, 0, 1]) (tI [0, 0, 1]) = _
    rw [eq_tI]
    simp
  simp -implicitDefEqProofs -dsimp [cZer, ec]
theorem back_ok {i : Rat} (h : Mx n ne M A B C G E F) (s : A.2 = 0 ∧ B.2 = 0 ∧ C.2 = 0 ∧ G.2 = 0) (hi : (A.1 * G.1 - B.1 * C.1) * i = 1) (hl : n < 500) (hl2 : 5 * n + ne < 3300) :
    Wp (F_back [mI M]) fun D _ => ∃ N, D = mI N ∧ Mx (5 * n + 6) (2 * (5 * n + 8 + ne) + 3) N (vm G (i, 0)) (vm (vs o2 B) (i, 0)) (vm (vs o2 C) (i, 0)) (vm A (i, 0)) (va (vm (vm G (i, 0)) (vs o2 E)) (vm (vm (vs o2 C) (i, 0)) (vs o2 F))) (va (vm (vm (vs o2 B) (i, 0)) (vs o2 E)) (vm (vm A (i, 0)) (vs o2 F))) := by
  have hM := h
  obtain ⟨a, b, c, d, e, f, rfl, ha, hb, hc, hd, he, hf⟩ := h
  obtain ⟨s1, s2, s3, s4⟩ := s
  unfold F_back
  first | rw [wp_runP] | rw [wp_runF]
  simp -implicitDefEqProofs -dsimp
  refine (moves_ok ha).imp ?_
  rintro _ _ ⟨m, rfl, e1⟩
  cases still_mv e1 s1
  simp -implicitDefEqProofs -dsimp
  refine (moves_ok hb).imp ?_
  rintro _ _ ⟨m, rfl, e1⟩
  cases still_mv e1 s2
  simp -implicitDefEqProofs -dsimp
  refine (moves_ok hc).imp ?_
  rintro _ _ ⟨m, rfl, e1⟩
  cases still_mv e1 s3
  simp -implicitDefEqProofs -dsimp
  refine (moves_ok hd).imp ?_
  rintro _ _ ⟨m, rfl, e1⟩
  cases still_mv e1 s4
  simp -implicitDefEqProofs -dsimp
  refine (det_ok hM (.inl s1) (.inl s2) (by omega)).imp ?_
  rintro _ _ ⟨u, rfl, o⟩
  have d0 : (vs (vm A G) (vm B C)).2 = 0 := by
    show (A.1 * G.2 + A.2 * G.1) - (B.1 * C.2 + B.2 * C.1) = 0
    grind
  have di : (vs (vm A G) (vm B C)).1 * i = 1 := hi
  have ne0 : u ≠ [0, 0, 1] := fun z => by
    subst z
    obtain ⟨p, q, r, e, h1, h2, h3, _⟩ := o
    cases e
    have h3 : (0 : Rat) = (vs (vm A G) (vm B C)).1 * 1 := h3
    rw [Rat.mul_one] at h3
    rw [← h3, Rat.zero_mul] at di
    exact absurd di (by decide)
  have ec : dEq (tI u) (.tup [.int 0, .int 0, .int 1]) = some (.bl false) := by
    show dEq (tI u) (tI [0, 0, 1]) = _
    rw [eq_tI]
    simp [ne0]
  simp -implicitDefEqProofs -dsimp [cZer, ec]
  refine (over_ok hd o d0 di (by omega)).imp ?_
  rintro _ _ ⟨u1, rfl, o1⟩
  simp -implicitDefEqProofs -dsimp [cZer]
  refine (minus_ok one_zero hb (by omega)).imp ?_
  rintro _ _ ⟨u2, rfl, o2'⟩
  simp -implicitDefEqProofs -dsimp [cZer]
  refine (over_ok o2' o d0 di (by omega)).imp ?_
  rintro _ _ ⟨u3, rfl, o3⟩
  simp -implicitDefEqProofs -dsimp [cZer]
  refine (minus_ok one_zero hc (by omega)).imp ?_
  rintro _ _ ⟨u4, rfl, o4⟩
  simp -implicitDefEqProofs -dsimp [cZer]
  refine (over_ok o4 o d0 di (by omega)).imp ?_
  rintro _ _ ⟨u5, rfl, o5⟩
  simp -implicitDefEqProofs -dsimp [cZer]
  refine (over_ok ha o d0 di (by omega)).imp ?_
  rintro _ _ ⟨u6, rfl, o6⟩
  simp -implicitDefEqProofs -dsimp [cZer]
  refine (minus_ok one_zero he (by omega)).imp ?_
  rintro _ _ ⟨u7, rfl, o7⟩
  simp -implicitDefEqProofs -dsimp [cZer]
  refine (minus_ok one_zero hf (by omega)).imp ?_
  rintro _ _ ⟨u8, rfl, o8⟩
  simp -implicitDefEqProofs -dsimp
  have z1 : (vm G (i, 0)).2 = 0 := by
    show G.1 * 0 + G.2 * i = 0
    grind
  have z2 : (vm (vs o2 B) (i, 0)).2 = 0 := by
    show (0 - B.1) * 0 + (0 - B.2) * i = 0
    grind
  have z3 : (vm (vs o2 C) (i, 0)).2 = 0 := by
    show (0 - C.1) * 0 + (0 - C.2) * i = 0
    grind
  have z4 : (vm A (i, 0)).2 = 0 := by
    show A.1 * 0 + A.2 * i = 0
    grind
  have p1 := o1.mono (show _ ≤ 5 * n + 6 by omega)
  have p3 := o3.mono (show _ ≤ 5 * n + 6 by omega)
  have p5 := o5.mono (show _ ≤ 5 * n + 6 by omega)
  have p6 := o6.mono (show _ ≤ 5 * n + 6 by omega)
  refine (lead_step_ok (rest := []) p1 p3 p5 p6 (o7.mono (show _ ≤ ne + 2 by omega)) (o8.mono (show _ ≤ ne + 2 by omega)) ⟨.inl z1, .inl z3, .inl z2, .inl z4⟩ (.inl rfl) (by omega)).imp ?_
  rintro _ _ ⟨u9, u10, rfl, o9, o10⟩
  simp -implicitDefEqProofs -dsimp
  exact ⟨[u1, u3, u5, u6, u9, u10], rfl, u1, u3, u5, u6, u9, u10, rfl, p1, p3, p5, p6, o9.mono (by omega), o10.mono (by omega)⟩
end
end K02
end

section
set_option maxRecDepth 100000
set_option maxHeartbeats 1000000
namespace K02
open PySem L2 DL
@[simp] theorem w_lead_after : (("lead" : Str) = "after") = False := by simp only [eq_iff_iff, iff_false]; decide
@[simp] theorem w_lead_step_after : (("lead_step" : Str) = "after") = False := by simp only [eq_iff_iff, iff_false]; decide
@[simp] theorem w_lead_step_lead : (("lead_step" : Str) = "lead") = False := by simp only [eq_iff_iff, iff_false]; decide
@[simp] theorem w_determinant_after : (("determinant" : Str) = "after") = False := by simp only [eq_iff_iff, iff_false]; decide
@[simp] theorem w_determinant_lead : (("determinant" : Str) = "lead") = False := by simp only [eq_iff_iff, iff_false]; decide
@[simp] theorem w_determinant_lead_step : (("determinant" : Str) = "lead_step") = False := by simp only [eq_iff_iff, iff_false]; decide
@[simp] theorem w_back_after : (("back" : Str) = "after") = False := by simp only [eq_iff_iff, iff_false]; decide
@[simp] theorem w_back_lead : (("back" : Str) = "lead") = False := by simp only [eq_iff_iff, iff_false]; decide
@[simp] theorem w_back_lead_step : (("back" : Str) = "lead_step") = False := by simp only [eq_iff_iff, iff_false]; decide
@[simp] theorem w_back_determinant : (("back" : Str) = "determinant") = False := by simp only [eq_iff_iff, iff_false]; decide
@[simp] theorem x1 : hasX xtab "Moving" = true := by decide
@[simp] theorem x2 : hasX xtab "Flat" = true := by decide
@[simp] theorem x3 : isSub xtab "Moving" (.own "Moving") = true := by decide
@[simp] theorem x4 : isSub xtab "Moving" (.own "Flat") = false := by decide
@[simp] theorem x5 : isSub xtab "Flat" (.own "Moving") = false := by decide
@[simp] theorem x6 : isSub xtab "Flat" (.own "Flat") = true := by decide
@[simp] theorem x7 : resE (F__law_stray ⟨"Moving", []⟩) = some (.bl false) := by rfl
@[simp] theorem x8 : resE (F__law_stray ⟨"Flat", []⟩) = some (.bl false) := by rfl
theorem int_wp {i : Int} : Wp (F__law_int [.int i]) fun d _ => d = .bl true := by
  unfold F__law_int
  first | rw [wp_runP] | rw [wp_runF]
  simp -implicitDefEqProofs -dsimp
section
variable {m n k ne : Nat} {s t x y : List Int} {A B C G E F X Y : V2} {M : List (List Int)}
theorem formed_ok (h : One n t X) (hn : n ≤ 2000) : Wp (F__law_formed [tI t]) fun D _ => D = .bl true := by
  obtain ⟨p, q, r, rfl, h1, h2, h3, h4, h5, h6, h7⟩ := h
  unfold F__law_formed
  first | rw [wp_runP] | rw [wp_runF]
  simp -implicitDefEqProofs -dsimp
  refine (int_wp).imp ?_
  rintro _ _ rfl
  simp -implicitDefEqProofs -dsimp
  refine (int_wp).imp ?_
  rintro _ _ rfl
  simp -implicitDefEqProofs -dsimp
  refine (int_wp).imp ?_
  rintro _ _ rfl
  simp -implicitDefEqProofs -dsimp
  refine ⟨fun _ => ?_, h1⟩
  refine (gcd_ok h6 hn).imp ?_
  rintro _ _ rfl
  simp -implicitDefEqProofs -dsimp
  refine (gcd_ok h7 hn).imp ?_
  rintro _ _ rfl
  simp -implicitDefEqProofs -dsimp [h2]
theorem is_ok (h : One n t X) (g : Ur m s X) (hn : n ≤ 2000) (hm : m ≤ 10000) : Wp (F__law_is [tI t, tI s]) fun D _ => D = .bl true := by
  have hf := formed_ok h hn
  obtain ⟨p, q, r, a, b, w, rfl, rfl, c1, c2⟩ := h.ur.cross g
  obtain ⟨p', q', r', e, h1, h2, h3, h4, h5, h6, h7⟩ := h
  cases e
  obtain ⟨a', b', w', e, g1, g3, g4, g5, g6, g7⟩ := g
  cases e
  unfold F__law_is
  first | rw [wp_runP] | rw [wp_runF]
  simp -implicitDefEqProofs -dsimp
  refine (hf).imp ?_
  rintro _ _ rfl
  simp -implicitDefEqProofs -dsimp
  simp -implicitDefEqProofs -dsimp [c1, c2]
  refine ⟨?_, ?_, ?_, ?_⟩
  all_goals (apply DL.MulOk.of; (case h => (repeat' first | assumption | apply Bd.mul | apply Bd.sub | apply Bd.add)); (case k => (repeat' first | assumption | apply Bd.mul | apply Bd.sub | apply Bd.add)); (case s => omega))
/-- told numbers and due triples, of one value each -/
inductive Pw (n m : Nat) : List (List Int) → List (List Int) → Prop
  | nil : Pw n m [] []
  | cons {t s : List Int} {ts ss : List (List Int)} {X : V2} (h : One n t X) (g : Ur m s X) (r : Pw n m ts ss) : Pw n m (t :: ts) (s :: ss)
theorem Pw.at {n m : Nat} : ∀ {ts ss : List (List Int)} {i : Nat} {s : List Int}, Pw n m ts ss → ss[i]? = some s → ∃ t X, ts[i]? = some t ∧ One n t X ∧ Ur m s X
  | _, _, _, _, .nil, e => by simp at e
  | _, _, 0, _, .cons h g r, e => by simp at e; subst e; exact ⟨_, _, rfl, h, g⟩
  | _, _, i + 1, _, .cons h g r, e => by
    obtain ⟨t, X, e1, e2⟩ := Pw.at r (i := i) (by simpa using e)
    exact ⟨t, X, by simpa using e1, e2⟩
theorem Pw.len {n m : Nat} : ∀ {ts ss : List (List Int)}, Pw n m ts ss → ts.length = ss.length
  | _, _, .nil => rfl
  | _, _, .cons h g r => congrArg Nat.succ (Pw.len r)
def AI (a b : D) (_ : Nat) (e : DL.Env) : Prop := ∃ o2 : Option D, e = [some a, some b, o2]
theorem rg_at {n i : Nat} {d : D} (h : (rg 0 (n : Int))[i]? = some d) : d = .int (i : Int) ∧ i < n := by
  unfold rg at h
  rw [List.getElem?_map] at h
  have e : ((n : Int) - 0).toNat = n := by omega
  cases q : (List.range ((n : Int) - 0).toNat)[i]? with
  | none => rw [q] at h; cases h
  | some j =>
    rw [q] at h
    obtain ⟨h1, h2⟩ := List.getElem?_eq_some_iff.mp q
    rw [List.getElem_range] at h2
    rw [List.length_range, e] at h1
    subst h2
    have h := Option.some.inj h
    rw [← h]
    exact ⟨by simp, h1⟩
theorem all_ok {ts ss : List (List Int)} {d : D} (h : Pw n m ts ss) (hd : d = .tup (ss.map tI) ∨ d = .lst (ss.map tI)) (hn : n ≤ 2000) (hm : m ≤ 10000) (hl : ss.length < 1000) : Wp (F__law_all [.tup (ts.map tI), d]) fun D _ => D = .bl true := by
  have el := h.len
  unfold F__law_all
  first | rw [wp_runP] | rw [wp_runF]
  rcases hd with rfl | rfl
  all_goals
    simp -implicitDefEqProofs -dsimp [el]
    refine ⟨by omega, ?_⟩
    refine wp_forL (AI _ _) _ 0 _ ⟨_, rfl⟩ ?_ ?_
    · rintro i e e1 hd ⟨o2, rfl⟩
      obtain ⟨rfl, hi⟩ := rg_at hd
      obtain ⟨t, X, q1, o1, u1⟩ := h.at (List.getElem?_eq_getElem hi)
      simp -implicitDefEqProofs -dsimp [DL.atI_nat, q1, List.getElem?_eq_getElem hi]
      refine (is_ok o1 u1 hn hm).imp ?_
      rintro _ _ rfl
      simp -implicitDefEqProofs -dsimp
      exact ⟨_, rfl⟩
    · rintro e1 ⟨o2, rfl⟩
      simp -implicitDefEqProofs -dsimp
theorem all_eq {ts ss : List (List Int)} {T S : List D} (h : Pw n m ts ss) (ht : ts.map tI = T) (hs : ss.map tI = S) (hn : n ≤ 2000) (hm : m ≤ 10000) (hl : ss.length < 1000) : Wp (F__law_all [.tup T, .lst S]) fun D _ => D = .bl true := by
  subst ht hs
  exact all_ok h (.inr rfl) hn hm hl
theorem all_eqT {ts ss : List (List Int)} {T S : List D} (h : Pw n m ts ss) (ht : ts.map tI = T) (hs : ss.map tI = S) (hn : n ≤ 2000) (hm : m ≤ 10000) (hl : ss.length < 1000) : Wp (F__law_all [.tup T, .tup S]) fun D _ => D = .bl true := by
  subst ht hs
  exact all_ok h (.inl rfl) hn hm hl
end
end K02
end

section
set_option maxRecDepth 100000
set_option maxHeartbeats 1000000
namespace K02
open PySem L2 DL
section
variable {m n k ne : Nat} {s t x y : List Int} {A B C G E F X Y : V2} {M : List (List Int)}
theorem sum_ok (hx : Ur m s X) (hy : Ur n t Y) (hl : m + n < 20000) : Wp (F__law_sum [tI s, tI t]) fun D _ => ∃ u, D = tI u ∧ Ur (m + n + 1) u (va X Y) := by
  obtain ⟨p, q, r, rfl, h1, h3, h4, h5, h6, h7⟩ := hx
  obtain ⟨p', q', r', rfl, k1, k3, k4, k5, k6, k7⟩ := hy
  have r0 := rr h1 k1
  unfold F__law_sum
  first | rw [wp_runP] | rw [wp_runF]
  simp -implicitDefEqProofs -dsimp
  refine ⟨?_, ?_, ?_, ?_, ?_, [p * r' + p' * r, q * r' + q' * r, r * r'], rfl, _, _, _, rfl, r0, ?c1, ?c2, by (apply Bd.mono; (case h => (repeat' first | assumption | apply Bd.mul | apply Bd.sub | apply Bd.add)); (case k => omega)), by (apply Bd.mono; (case h => (repeat' first | assumption | apply Bd.mul | apply Bd.sub | apply Bd.add)); (case k => omega)), by (apply Bd.mono; (case h => (repeat' first | assumption | apply Bd.mul | apply Bd.sub | apply Bd.add)); (case k => omega))⟩
  case c1 =>
    simp only [Rat.intCast_add, Rat.intCast_mul, va, h3, k3]
    grind
  case c2 =>
    simp only [Rat.intCast_add, Rat.intCast_mul, va, h4, k4]
    grind
  all_goals (apply DL.MulOk.of; (case h => (repeat' first | assumption | apply Bd.mul | apply Bd.sub | apply Bd.add)); (case k => (repeat' first | assumption | apply Bd.mul | apply Bd.sub | apply Bd.add)); (case s => omega))
theorem product_ok (hx : Ur m s X) (hy : Ur n t Y) (hl : m + n < 20000) : Wp (F__law_product [tI s, tI t]) fun D _ => ∃ u, D = tI u ∧ Ur (m + n + 1) u (vm X Y) := by
  obtain ⟨p, q, r, rfl, h1, h3, h4, h5, h6, h7⟩ := hx
  obtain ⟨p', q', r', rfl, k1, k3, k4, k5, k6, k7⟩ := hy
  have r0 := rr h1 k1
  unfold F__law_product
  first | rw [wp_runP] | rw [wp_runF]
  simp -implicitDefEqProofs -dsimp
  refine ⟨?_, ?_, ?_, ?_, [p * p', p * q' + q * p', r * r'], rfl, _, _, _, rfl, r0, ?c1, ?c2, by (apply Bd.mono; (case h => (repeat' first | assumption | apply Bd.mul | apply Bd.sub | apply Bd.add)); (case k => omega)), by (apply Bd.mono; (case h => (repeat' first | assumption | apply Bd.mul | apply Bd.sub | apply Bd.add)); (case k => omega)), by (apply Bd.mono; (case h => (repeat' first | assumption | apply Bd.mul | apply Bd.sub | apply Bd.add)); (case k => omega))⟩
  case c1 =>
    simp only [Rat.intCast_mul, vm, h3, k3]
    grind
  case c2 =>
    simp only [Rat.intCast_add, Rat.intCast_mul, vm, h3, k3, h4, k4]
    grind
  all_goals (apply DL.MulOk.of; (case h => (repeat' first | assumption | apply Bd.mul | apply Bd.sub | apply Bd.add)); (case k => (repeat' first | assumption | apply Bd.mul | apply Bd.sub | apply Bd.add)); (case s => omega))
def Mu (n ne : Nat) (M : List (List Int)) (A B C G E F : V2) : Prop := ∃ a b c d e f, M = [a, b, c, d, e, f] ∧ Ur n a A ∧ Ur n b B ∧ Ur n c C ∧ Ur n d G ∧ Ur ne e E ∧ Ur ne f F
theorem Mx.mu (h : Mx n ne M A B C G E F) : Mu n ne M A B C G E F := by
  obtain ⟨a, b, c, d, e, f, rfl, ha, hb, hc, hd, he, hf⟩ := h
  exact ⟨a, b, c, d, e, f, rfl, ha.ur, hb.ur, hc.ur, hd.ur, he.ur, hf.ur⟩
theorem apply0_ok (h : Mu n ne M A B C G E F) (hx : Ur k x X) (hy : Ur k y Y) (hl : n + k < 5000) :
    Wp (F__law_apply [mI M, tI x, tI y, .int 0]) fun D _ => ∃ u w, D = .lst [tI u, tI w] ∧ Ur (2 * (n + k) + 3) u (va (vm A X) (vm C Y)) ∧ Ur (2 * (n + k) + 3) w (va (vm B X) (vm G Y)) := by
  obtain ⟨a, b, c, d, e, f, rfl, ha, hb, hc, hd, he, hf⟩ := h
  unfold F__law_apply
  first | rw [wp_runP] | rw [wp_runF]
  simp -implicitDefEqProofs -dsimp
  refine (product_ok ha hx (by omega)).imp ?_
  rintro _ _ ⟨u1, rfl, o1⟩
  simp -implicitDefEqProofs -dsimp
  refine (product_ok hc hy (by omega)).imp ?_
  rintro _ _ ⟨u2, rfl, o2⟩
  simp -implicitDefEqProofs -dsimp
  refine (sum_ok o1 o2 (by omega)).imp ?_
  rintro _ _ ⟨u3, rfl, o3⟩
  simp -implicitDefEqProofs -dsimp
  refine (product_ok hb hx (by omega)).imp ?_
  rintro _ _ ⟨u4, rfl, o4⟩
  simp -implicitDefEqProofs -dsimp
  refine (product_ok hd hy (by omega)).imp ?_
  rintro _ _ ⟨u5, rfl, o5⟩
  simp -implicitDefEqProofs -dsimp
  refine (sum_ok o4 o5 (by omega)).imp ?_
  rintro _ _ ⟨u6, rfl, o6⟩
  simp -implicitDefEqProofs -dsimp
  exact ⟨u3, u6, ⟨rfl, rfl⟩, o3.mono (by omega), o6.mono (by omega)⟩
theorem apply1_ok (h : Mu n ne M A B C G E F) (hx : Ur k x X) (hy : Ur k y Y) (hl : n + k + ne < 5000) :
    Wp (F__law_apply [mI M, tI x, tI y, .int 1]) fun D _ => ∃ u w, D = .lst [tI u, tI w] ∧ Ur (2 * (n + k) + ne + 4) u (va (va (vm A X) (vm C Y)) E) ∧ Ur (2 * (n + k) + ne + 4) w (va (va (vm B X) (vm G Y)) F) := by
  obtain ⟨a, b, c, d, e, f, rfl, ha, hb, hc, hd, he, hf⟩ := h
  unfold F__law_apply
  first | rw [wp_runP] | rw [wp_runF]
  simp -implicitDefEqProofs -dsimp
  refine (product_ok ha hx (by omega)).imp ?_
  rintro _ _ ⟨u1, rfl, o1⟩
  simp -implicitDefEqProofs -dsimp
  refine (product_ok hc hy (by omega)).imp ?_
  rintro _ _ ⟨u2, rfl, o2⟩
  simp -implicitDefEqProofs -dsimp
  refine (sum_ok o1 o2 (by omega)).imp ?_
  rintro _ _ ⟨u3, rfl, o3⟩
  simp -implicitDefEqProofs -dsimp
  refine (product_ok hb hx (by omega)).imp ?_
  rintro _ _ ⟨u4, rfl, o4⟩
  simp -implicitDefEqProofs -dsimp
  refine (product_ok hd hy (by omega)).imp ?_
  rintro _ _ ⟨u5, rfl, o5⟩
  simp -implicitDefEqProofs -dsimp
  refine (sum_ok o4 o5 (by omega)).imp ?_
  rintro _ _ ⟨u6, rfl, o6⟩
  simp -implicitDefEqProofs -dsimp
  refine (sum_ok o3 he (by omega)).imp ?_
  rintro _ _ ⟨u7, rfl, o7⟩
  simp -implicitDefEqProofs -dsimp
  refine (sum_ok o6 hf (by omega)).imp ?_
  rintro _ _ ⟨u8, rfl, o8⟩
  simp -implicitDefEqProofs -dsimp
  exact ⟨u7, u8, ⟨rfl, rfl⟩, o7.mono (by omega), o8.mono (by omega)⟩
variable {A' B' C' G' E' F' : V2} {M' : List (List Int)} {n' ne' : Nat}
theorem lafter_ok (h : Mu n ne M A B C G E F) (h' : Mu n' ne' M' A' B' C' G' E' F') (hl : n + n' + ne + ne' < 2500) :
    Wp (F__law_after [mI M, mI M']) fun D _ => ∃ N, D = .lst (N.map tI) ∧ Mu (2 * (n + n') + 3) (2 * (n' + ne) + ne' + 4) N (va (vm A' A) (vm C' B)) (va (vm B' A) (vm G' B)) (va (vm A' C) (vm C' G)) (va (vm B' C) (vm G' G)) (va (va (vm A' E) (vm C' F)) E') (va (va (vm B' E) (vm G' F)) F') := by
  obtain ⟨a, b, c, d, e, f, rfl, ha, hb, hc, hd, he, hf⟩ := h
  unfold F__law_after
  first | rw [wp_runP] | rw [wp_runF]
  simp -implicitDefEqProofs -dsimp
  refine (apply0_ok h' ha hb (by omega)).imp ?_
  rintro _ _ ⟨u1, u2, rfl, o1, o2⟩
  simp -implicitDefEqProofs -dsimp
  refine (apply0_ok h' hc hd (by omega)).imp ?_
  rintro _ _ ⟨u3, u4, rfl, o3, o4⟩
  simp -implicitDefEqProofs -dsimp
  refine (apply1_ok h' he hf (by omega)).imp ?_
  rintro _ _ ⟨u5, u6, rfl, o5, o6⟩
  simp -implicitDefEqProofs -dsimp
  exact ⟨[u1, u2, u3, u4, u5, u6], rfl, u1, u2, u3, u4, u5, u6, rfl, o1.mono (by omega), o2.mono (by omega), o3.mono (by omega), o4.mono (by omega), o5.mono (by omega), o6.mono (by omega)⟩
theorem ldet_ok (h : Mu n ne M A B C G E F) (hl : n < 2000) : Wp (F__law_det [mI M]) fun D _ => ∃ u, D = tI u ∧ Ur (4 * n + 3) u (vs (vm A G) (vm B C)) := by
  obtain ⟨a, b, c, d, e, f, rfl, ha, hb, hc, hd, he, hf⟩ := h
  unfold F__law_det
  first | rw [wp_runP] | rw [wp_runF]
  simp -implicitDefEqProofs -dsimp
  refine (product_ok hb hc (by omega)).imp ?_
  rintro _ _ ⟨u1, rfl, o1⟩
  simp -implicitDefEqProofs -dsimp
  refine (product_ok ha hd (by omega)).imp ?_
  rintro _ _ ⟨u2, rfl, o2⟩
  obtain ⟨p, q, r, rfl, g1, g3, g4, g5, g6, g7⟩ := o1
  simp -implicitDefEqProofs -dsimp
  have o3 : Ur (n + n + 1) [-p, -q, r] (vn (vm B C)) := by
    refine ⟨-p, -q, r, rfl, g1, ?_, ?_, neg_bd g5, neg_bd g6, g7⟩
    · rw [Rat.intCast_neg, g3]
      simp only [vn]
      grind
    · rw [Rat.intCast_neg, g4]
      simp only [vn]
      grind
  refine (sum_ok o2 o3 (by omega)).imp ?_
  rintro _ _ ⟨u3, rfl, o4⟩
  simp -implicitDefEqProofs -dsimp
  have ev : va (vm A G) (vn (vm B C)) = vs (vm A G) (vm B C) := Prod.ext (Rat.sub_eq_add_neg _ _).symm (Rat.sub_eq_add_neg _ _).symm
  rw [ev] at o4
  exact ⟨u3, rfl, o4.mono (by omega)⟩
/-! what is told -/
def Tok (w : Str) (a b : D) (P : D → Prop) : Prop := Wp (F__law_ask [.str w, a, b]) fun D _ => ∃ r, D = .lst [.int 0, r, .bl true] ∧ P r
def Tex (w : Str) (a b : D) (e : Str) : Prop := Wp (F__law_ask [.str w, a, b]) fun D _ => D = .lst [.int 1, .str e, .bl true]
variable {xs ys : List D}
theorem ask_after {P : List (List Int) → Prop} (h : Wp (F_after [.tup xs, .tup ys]) fun D _ => ∃ N, D = mI N ∧ P N) : Tok "after" (.tup xs) (.tup ys) fun r => ∃ N, r = mI N ∧ P N := by
  unfold Tok F__law_ask
  first | rw [wp_runP] | rw [wp_runF]
  simp -implicitDefEqProofs -dsimp
  refine h.imp ?_
  rintro _ _ ⟨N, rfl, p⟩
  simp -implicitDefEqProofs -dsimp
  exact ⟨N, rfl, p⟩
theorem ask_lead {P : List Int → List Int → Prop} (h : Wp (F_lead [.tup xs, .tup ys]) fun D _ => ∃ u w, D = .tup [tI u, tI w] ∧ P u w) : Tok "lead" (.tup xs) (.tup ys) fun r => ∃ u w, r = .tup [tI u, tI w] ∧ P u w := by
  unfold Tok F__law_ask
  first | rw [wp_runP] | rw [wp_runF]
  simp -implicitDefEqProofs -dsimp
  refine h.imp ?_
  rintro _ _ ⟨u, w, rfl, p⟩
  simp -implicitDefEqProofs -dsimp
  exact ⟨u, w, ⟨rfl, rfl⟩, p⟩
theorem ask_step {P : List Int → List Int → Prop} (h : Wp (F_lead_step [.tup xs, .tup ys]) fun D _ => ∃ u w, D = .tup [tI u, tI w] ∧ P u w) : Tok "lead_step" (.tup xs) (.tup ys) fun r => ∃ u w, r = .tup [tI u, tI w] ∧ P u w := by
  unfold Tok F__law_ask
  first | rw [wp_runP] | rw [wp_runF]
  simp -implicitDefEqProofs -dsimp
  refine h.imp ?_
  rintro _ _ ⟨u, w, rfl, p⟩
  simp -implicitDefEqProofs -dsimp
  exact ⟨u, w, ⟨rfl, rfl⟩, p⟩
theorem ask_det {P : List Int → Prop} (h : Wp (F_determinant [.tup xs]) fun D _ => ∃ u, D = tI u ∧ P u) : Tok "determinant" (.tup xs) (.tup ys) fun r => ∃ u, r = tI u ∧ P u := by
  unfold Tok F__law_ask
  first | rw [wp_runP] | rw [wp_runF]
  simp -implicitDefEqProofs -dsimp
  refine h.imp ?_
  rintro _ _ ⟨u, rfl, p⟩
  simp -implicitDefEqProofs -dsimp
  exact ⟨u, rfl, p⟩
theorem ask_back {P : List (List Int) → Prop} (h : Wp (F_back [.tup xs]) fun D _ => ∃ N, D = mI N ∧ P N) : Tok "back" (.tup xs) (.tup ys) fun r => ∃ N, r = mI N ∧ P N := by
  unfold Tok F__law_ask
  first | rw [wp_runP] | rw [wp_runF]
  simp -implicitDefEqProofs -dsimp
  refine h.imp ?_
  rintro _ _ ⟨N, rfl, p⟩
  simp -implicitDefEqProofs -dsimp
  exact ⟨N, rfl, p⟩
theorem ask_afterM (h : Wq Mov (F_after [.tup xs, .tup ys]) fun _ _ => False) : Tex "after" (.tup xs) (.tup ys) "Moving" := by
  unfold Tex F__law_ask
  first | rw [wp_runP] | rw [wp_runF]
  simp -implicitDefEqProofs -dsimp
  refine h.imp (fun _ _ z => z.elim) ?_
  rintro _ _ rfl
  simp -implicitDefEqProofs -dsimp
theorem ask_leadM (h : Wq Mov (F_lead [.tup xs, .tup ys]) fun _ _ => False) : Tex "lead" (.tup xs) (.tup ys) "Moving" := by
  unfold Tex F__law_ask
  first | rw [wp_runP] | rw [wp_runF]
  simp -implicitDefEqProofs -dsimp
  refine h.imp (fun _ _ z => z.elim) ?_
  rintro _ _ rfl
  simp -implicitDefEqProofs -dsimp
theorem ask_stepM (h : Wq Mov (F_lead_step [.tup xs, .tup ys]) fun _ _ => False) : Tex "lead_step" (.tup xs) (.tup ys) "Moving" := by
  unfold Tex F__law_ask
  first | rw [wp_runP] | rw [wp_runF]
  simp -implicitDefEqProofs -dsimp
  refine h.imp (fun _ _ z => z.elim) ?_
  rintro _ _ rfl
  simp -implicitDefEqProofs -dsimp
theorem ask_detM (h : Wq Mov (F_determinant [.tup xs]) fun _ _ => False) : Tex "determinant" (.tup xs) (.tup ys) "Moving" := by
  unfold Tex F__law_ask
  first | rw [wp_runP] | rw [wp_runF]
  simp -implicitDefEqProofs -dsimp
  refine h.imp (fun _ _ z => z.elim) ?_
  rintro _ _ rfl
  simp -implicitDefEqProofs -dsimp
theorem ask_backM (h : Wq Mov (F_back [.tup xs]) fun _ _ => False) : Tex "back" (.tup xs) (.tup ys) "Moving" := by
  unfold Tex F__law_ask
  first | rw [wp_runP] | rw [wp_runF]
  simp -implicitDefEqProofs -dsimp
  refine h.imp (fun _ _ z => z.elim) ?_
  rintro _ _ rfl
  simp -implicitDefEqProofs -dsimp
theorem ask_backF (h : Wq (fun x _ => x = ⟨"Flat", []⟩) (F_back [.tup xs]) fun _ _ => False) : Tex "back" (.tup xs) (.tup ys) "Flat" := by
  unfold Tex F__law_ask
  first | rw [wp_runP] | rw [wp_runF]
  simp -implicitDefEqProofs -dsimp
  refine h.imp (fun _ _ z => z.elim) ?_
  rintro _ _ rfl
  simp -implicitDefEqProofs -dsimp
theorem moved_ok {w : Str} (h : Tex w (.tup xs) (.tup ys) "Moving") : Wp (F__law_moved [.str w, .tup xs, .tup ys]) fun D _ => D = .bl true := by
  unfold F__law_moved
  first | rw [wp_runP] | rw [wp_runF]
  simp -implicitDefEqProofs -dsimp
  refine (h).imp ?_
  rintro _ _ rfl
  simp -implicitDefEqProofs -dsimp
theorem fine_ok {w : Str} {ss : List (List Int)} {N K : Nat} (h : Tok w (.tup xs) (.tup ys) fun r => ∃ ts, r = mI ts ∧ Pw N K ts ss) (hn : N ≤ 2000) (hm : K ≤ 10000) (hl : ss.length < 1000) : Wp (F__law_fine [.str w, .tup xs, .tup ys, .lst (ss.map tI)]) fun D _ => D = .bl true := by
  unfold F__law_fine
  first | rw [wp_runP] | rw [wp_runF]
  simp -implicitDefEqProofs -dsimp
  refine Wp.imp h ?_
  rintro _ _ ⟨r, rfl, ts, rfl, p⟩
  simp -implicitDefEqProofs -dsimp
  refine (all_ok p (.inr rfl) hn hm hl).imp ?_
  rintro _ _ rfl
  simp -implicitDefEqProofs -dsimp
end
end K02
end

section
set_option maxRecDepth 100000
set_option maxHeartbeats 1000000
namespace K02
open PySem L2 DL
section
variable {m n k ne : Nat} {s t x y : List Int} {A B C G E F X Y : V2} {M : List (List Int)}
def Sl (A B C G : V2) : Prop := A.2 = 0 ∧ B.2 = 0 ∧ C.2 = 0 ∧ G.2 = 0
theorem Sl.s4 (h : Sl A B C G) : S4 A B C G X Y := ⟨.inl h.1, .inl h.2.2.1, .inl h.2.1, .inl h.2.2.2⟩
theorem leads_ok (h : Mx 80 80 M A B C G E F) (hx : One 80 x X) (hy : One 80 y Y) (s : S4 A B C G X Y) : Wp (F__law_leads [mI M, .tup [tI x, tI y]]) fun D _ => D = .bl true := by
  unfold F__law_leads
  first | rw [wp_runP] | rw [wp_runF]
  simp -implicitDefEqProofs -dsimp
  refine (apply1_ok h.mu hx.ur hy.ur (by decide)).imp ?_
  rintro _ _ ⟨u, w, rfl, g1, g2⟩
  simp -implicitDefEqProofs -dsimp
  have t1 : Tok "lead" (mI M) (.tup [tI x, tI y]) fun r => ∃ ts, r = mI ts ∧ Pw 404 404 ts [u, w] := by
    refine Wp.imp (ask_lead (lead_ok h hx hy s (by decide))) ?_
    rintro _ _ ⟨r, rfl, u', w', rfl, o1, o2⟩
    exact ⟨_, rfl, [u', w'], rfl, .cons o1 g1 (.cons o2 g2 .nil)⟩
  refine (fine_ok t1 (by decide) (by decide) (by simp)).imp ?_
  rintro _ _ rfl
  simp -implicitDefEqProofs -dsimp
  refine (apply0_ok h.mu hx.ur hy.ur (by decide)).imp ?_
  rintro _ _ ⟨u, w, rfl, g1, g2⟩
  simp -implicitDefEqProofs -dsimp
  have t1 : Tok "lead_step" (mI M) (.tup [tI x, tI y]) fun r => ∃ ts, r = mI ts ∧ Pw 323 323 ts [u, w] := by
    refine Wp.imp (ask_step (lead_step_m h hx hy s (by decide))) ?_
    rintro _ _ ⟨r, rfl, u', w', rfl, o1, o2⟩
    exact ⟨_, rfl, [u', w'], rfl, .cons o1 g1 (.cons o2 g2 .nil)⟩
  refine (fine_ok t1 (by decide) (by decide) (by simp)).imp ?_
  rintro _ _ rfl
  simp -implicitDefEqProofs -dsimp
theorem det_is_ok (h : Mx 80 80 M A B C G E F) (s1 : St A G) (s2 : St B C) : Wp (F__law_det_is [mI M]) fun D _ => D = .bl true := by
  unfold F__law_det_is
  first | rw [wp_runP] | rw [wp_runF]
  simp -implicitDefEqProofs -dsimp
  refine Wp.imp (ask_det (ys := []) (det_ok h s1 s2 (by decide))) ?_
  rintro _ _ ⟨r, rfl, u, rfl, o⟩
  simp -implicitDefEqProofs -dsimp
  refine (ldet_ok h.mu (by decide)).imp ?_
  rintro _ _ ⟨u', rfl, g⟩
  simp -implicitDefEqProofs -dsimp
  refine (is_ok o g (by decide) (by decide)).imp ?_
  rintro _ _ rfl
  simp -implicitDefEqProofs -dsimp
variable {A' B' C' G' E' F' : V2} {M' : List (List Int)}
theorem after_fine (h : Mx 80 80 M A B C G E F) (h' : Mx 80 80 M' A' B' C' G' E' F') (s1 : S4 A' B' C' G' A B) (s2 : S4 A' B' C' G' C G) (s3 : S4 A' B' C' G' E F) {N : List (List Int)}
    (g : Mu 323 404 N (va (vm A' A) (vm C' B)) (va (vm B' A) (vm G' B)) (va (vm A' C) (vm C' G)) (va (vm B' C) (vm G' G)) (va (va (vm A' E) (vm C' F)) E') (va (va (vm B' E) (vm G' F)) F')) :
    Wp (F__law_fine [.str "after", mI M, mI M', .lst (N.map tI)]) fun D _ => D = .bl true := by
  obtain ⟨a, b, c, d, e, f, rfl, ga, gb, gc, gd, ge, gf⟩ := g
  have t1 : Tok "after" (mI M) (mI M') fun r => ∃ ts, r = mI ts ∧ Pw 404 404 ts [a, b, c, d, e, f] := by
    refine Wp.imp (ask_after (after_ok h h' s1 s2 s3 (by decide))) ?_
    rintro _ _ ⟨r, rfl, K, rfl, a', b', c', d', e', f', rfl, oa, ob, oc, od, oe, of⟩
    exact ⟨_, rfl, _, rfl, .cons (oa.mono (by decide)) (ga.mono (by decide)) (.cons (ob.mono (by decide)) (gb.mono (by decide)) (.cons (oc.mono (by decide)) (gc.mono (by decide)) (.cons (od.mono (by decide)) (gd.mono (by decide)) (.cons oe ge (.cons of gf .nil)))))⟩
  exact fine_ok t1 (by decide) (by decide) (by simp)
theorem composed_ok (h : Mx 80 80 M A B C G E F) (h' : Mx 80 80 M' A' B' C' G' E' F') (hx : One 80 x X) (hy : One 80 y Y) (l : Sl A B C G) (l' : Sl A' B' C' G') :
    Wp (F__law_composed [mI M, mI M', .tup [tI x, tI y]]) fun D _ => D = .bl true := by
  unfold F__law_composed
  first | rw [wp_runP] | rw [wp_runF]
  simp -implicitDefEqProofs -dsimp
  refine (leads_ok h hx hy l.s4).imp ?_
  rintro _ _ rfl
  simp -implicitDefEqProofs -dsimp
  refine (det_is_ok h (.inl l.1) (.inl l.2.1)).imp ?_
  rintro _ _ rfl
  simp -implicitDefEqProofs -dsimp
  refine (lafter_ok h.mu h'.mu (by decide)).imp ?_
  rintro _ _ ⟨N, rfl, g⟩
  simp -implicitDefEqProofs -dsimp
  refine (after_fine h h' l'.s4 l'.s4 l'.s4 g).imp ?_
  rintro _ _ rfl
  simp -implicitDefEqProofs -dsimp
  refine (apply1_ok h.mu hx.ur hy.ur (by decide)).imp ?_
  rintro _ _ ⟨q1, q2, rfl, g1, g2⟩
  simp -implicitDefEqProofs -dsimp
  refine (after_ok h h' l'.s4 l'.s4 l'.s4 (by decide)).imp ?_
  rintro _ _ ⟨K, rfl, mk⟩
  simp -implicitDefEqProofs -dsimp
  obtain ⟨l1, l2, l3, l4⟩ := l
  obtain ⟨k1, k2, k3, k4⟩ := l'
  have z1 : (va (vm A' A) (vm C' B)).2 = 0 := by
    simp only [va, vm, l1, l2, l3, l4, k1, k2, k3, k4]
    grind
  have z2 : (va (vm B' A) (vm G' B)).2 = 0 := by
    simp only [va, vm, l1, l2, l3, l4, k1, k2, k3, k4]
    grind
  have z3 : (va (vm A' C) (vm C' G)).2 = 0 := by
    simp only [va, vm, l1, l2, l3, l4, k1, k2, k3, k4]
    grind
  have z4 : (va (vm B' C) (vm G' G)).2 = 0 := by
    simp only [va, vm, l1, l2, l3, l4, k1, k2, k3, k4]
    grind
  refine (lead_ok mk hx hy ⟨.inl z1, .inl z3, .inl z2, .inl z4⟩ (by decide)).imp ?_
  rintro _ _ ⟨u1, u2, rfl, o1, o2⟩
  simp -implicitDefEqProofs -dsimp
  refine (apply1_ok h'.mu g1 g2 (by decide)).imp ?_
  rintro _ _ ⟨w1, w2, rfl, e1, e2⟩
  simp -implicitDefEqProofs -dsimp
  have v1 : va (va (vm (va (vm A' A) (vm C' B)) X) (vm (va (vm A' C) (vm C' G)) Y)) (va (va (vm A' E) (vm C' F)) E') = va (va (vm A' (va (va (vm A X) (vm C Y)) E)) (vm C' (va (va (vm B X) (vm G Y)) F))) E' := by
    refine Prod.ext ?_ ?_
    · simp only [va, vm]
      grind
    · simp only [va, vm]
      grind
  have v2 : va (va (vm (va (vm B' A) (vm G' B)) X) (vm (va (vm B' C) (vm G' G)) Y)) (va (va (vm B' E) (vm G' F)) F') = va (va (vm B' (va (va (vm A X) (vm C Y)) E)) (vm G' (va (va (vm B X) (vm G Y)) F))) F' := by
    refine Prod.ext ?_ ?_
    · simp only [va, vm]
      grind
    · simp only [va, vm]
      grind
  rw [v1] at o1
  rw [v2] at o2
  have O1 := o1.mono (show _ ≤ 1300 by omega)
  have O2 := o2.mono (show _ ≤ 1300 by omega)
  have E1 := e1.mono (show _ ≤ 2000 by omega)
  have E2 := e2.mono (show _ ≤ 2000 by omega)
  have pw : Pw 1300 2000 [u1, u2] [w1, w2] := .cons O1 E1 (.cons O2 E2 .nil)
  clear O1 O2 E1 E2 o1 o2 e1 e2 v1 v2
  generalize ht : [tI u1, tI u2] = T
  generalize hs : [tI w1, tI w2] = S
  refine (all_eq pw ht hs (by omega) (by omega) (by simp)).imp ?_
  rintro _ _ rfl
  simp -implicitDefEqProofs -dsimp
end
end K02
end

section
set_option maxRecDepth 100000
set_option maxHeartbeats 2000000
namespace K02
open PySem L2 DL
section
variable {m n k ne : Nat} {s t x y : List Int} {A B C G E F X Y : V2} {M : List (List Int)}
theorem One.still (h : One n t X) (z : X.2 = 0) : ∃ p r, t = [p, 0, r] ∧ One n [p, 0, r] X := by
  obtain ⟨p, q, r, rfl, h⟩ := h
  have := (q0 h.2.2.2.1 h.1).mpr z
  subst this
  exact ⟨p, r, rfl, p, 0, r, rfl, h⟩
theorem One.ex (h : One n t X) : ∃ p q r, t = [p, q, r] ∧ One n [p, q, r] X := by
  obtain ⟨p, q, r, rfl, h⟩ := h
  exact ⟨p, q, r, rfl, p, q, r, rfl, h⟩
theorem Ur.unit {z : Int} (h : Ur n t X) (e1 : X.1 = z) (e2 : X.2 = 0) : ∃ r, t = [z * r, 0, r] ∧ Bd n r := by
  obtain ⟨p, q, r, rfl, h1, h2, h3, h4, h5, h6⟩ := h
  have e := (q0 h3 h1).mpr e2
  subst e
  refine ⟨r, ?_, h6⟩
  have : p = z * r := by
    apply Rat.intCast_inj.mp
    rw [Rat.intCast_mul, h2, e1]
  rw [this]
theorem rg6 : rg 0 6 = [.int 0, .int 1, .int 2, .int 3, .int 4, .int 5] := rfl
/-- what comes back is the identity, behind M -/
theorem back_vals {i : Rat} (l : Sl A B C G) (hi : (A.1 * G.1 - B.1 * C.1) * i = 1) :
    (va (vm (vm G (i, 0)) A) (vm (vm (vs o2 C) (i, 0)) B) = (1, 0) ∧ va (vm (vm (vs o2 B) (i, 0)) A) (vm (vm A (i, 0)) B) = (0, 0)) ∧
    (va (vm (vm G (i, 0)) C) (vm (vm (vs o2 C) (i, 0)) G) = (0, 0) ∧ va (vm (vm (vs o2 B) (i, 0)) C) (vm (vm A (i, 0)) G) = (1, 0)) ∧
    va (va (vm (vm G (i, 0)) E) (vm (vm (vs o2 C) (i, 0)) F)) (va (vm (vm G (i, 0)) (vs o2 E)) (vm (vm (vs o2 C) (i, 0)) (vs o2 F))) = (0, 0) ∧
    va (va (vm (vm (vs o2 B) (i, 0)) E) (vm (vm A (i, 0)) F)) (va (vm (vm (vs o2 B) (i, 0)) (vs o2 E)) (vm (vm A (i, 0)) (vs o2 F))) = (0, 0) := by
  obtain ⟨l1, l2, l3, l4⟩ := l
  refine ⟨⟨?_, ?_⟩, ⟨?_, ?_⟩, ?_, ?_⟩
  all_goals
    refine Prod.ext ?_ ?_
    · simp only [va, vm, vs, l1, l2, l3, l4]
      grind
    · simp only [va, vm, vs, l1, l2, l3, l4]
      grind
/-- led there and back -/
theorem lead_vals {i : Rat} (l : Sl A B C G) (hi : (A.1 * G.1 - B.1 * C.1) * i = 1) :
    va (va (vm (vm G (i, 0)) (va (va (vm A X) (vm C Y)) E)) (vm (vm (vs o2 C) (i, 0)) (va (va (vm B X) (vm G Y)) F))) (va (vm (vm G (i, 0)) (vs o2 E)) (vm (vm (vs o2 C) (i, 0)) (vs o2 F))) = X ∧
    va (va (vm (vm (vs o2 B) (i, 0)) (va (va (vm A X) (vm C Y)) E)) (vm (vm A (i, 0)) (va (va (vm B X) (vm G Y)) F))) (va (vm (vm (vs o2 B) (i, 0)) (vs o2 E)) (vm (vm A (i, 0)) (vs o2 F))) = Y := by
  obtain ⟨l1, l2, l3, l4⟩ := l
  refine ⟨?_, ?_⟩
  all_goals
    refine Prod.ext ?_ ?_
    · simp only [va, vm, vs, l1, l2, l3, l4]
      grind
    · simp only [va, vm, vs, l1, l2, l3, l4]
      grind
/-- back of back -/
theorem twice_vals {i : Rat} (l : Sl A B C G) (hi : (A.1 * G.1 - B.1 * C.1) * i = 1) :
    ((vm G (i, 0)).1 * (vm A (i, 0)).1 - (vm (vs o2 B) (i, 0)).1 * (vm (vs o2 C) (i, 0)).1) * (A.1 * G.1 - B.1 * C.1) = 1 ∧
    Sl (vm G (i, 0)) (vm (vs o2 B) (i, 0)) (vm (vs o2 C) (i, 0)) (vm A (i, 0)) ∧
    vm (vm A (i, 0)) (A.1 * G.1 - B.1 * C.1, 0) = A ∧ vm (vs o2 (vm (vs o2 B) (i, 0))) (A.1 * G.1 - B.1 * C.1, 0) = B ∧ vm (vs o2 (vm (vs o2 C) (i, 0))) (A.1 * G.1 - B.1 * C.1, 0) = C ∧ vm (vm G (i, 0)) (A.1 * G.1 - B.1 * C.1, 0) = G := by
  obtain ⟨l1, l2, l3, l4⟩ := l
  refine ⟨?_, ⟨?_, ?_, ?_, ?_⟩, ?_, ?_, ?_, ?_⟩
  · simp only [va, vm, vs, l1, l2, l3, l4]
    grind
  · simp only [va, vm, vs, l1, l2, l3, l4]
    grind
  · simp only [va, vm, vs, l1, l2, l3, l4]
    grind
  · simp only [va, vm, vs, l1, l2, l3, l4]
    grind
  · simp only [va, vm, vs, l1, l2, l3, l4]
    grind
  all_goals
    refine Prod.ext ?_ ?_
    · simp only [va, vm, vs, l1, l2, l3, l4]
      grind
    · simp only [va, vm, vs, l1, l2, l3, l4]
      grind
theorem twice_ef {i : Rat} (l : Sl A B C G) (hi : (A.1 * G.1 - B.1 * C.1) * i = 1) :
    va (vm A (vs o2 (va (vm (vm G (i, 0)) (vs o2 E)) (vm (vm (vs o2 C) (i, 0)) (vs o2 F))))) (vm C (vs o2 (va (vm (vm (vs o2 B) (i, 0)) (vs o2 E)) (vm (vm A (i, 0)) (vs o2 F))))) = E ∧
    va (vm B (vs o2 (va (vm (vm G (i, 0)) (vs o2 E)) (vm (vm (vs o2 C) (i, 0)) (vs o2 F))))) (vm G (vs o2 (va (vm (vm (vs o2 B) (i, 0)) (vs o2 E)) (vm (vm A (i, 0)) (vs o2 F))))) = F := by
  obtain ⟨l1, l2, l3, l4⟩ := l
  refine ⟨?_, ?_⟩
  all_goals
    refine Prod.ext ?_ ?_
    · simp only [va, vm, vs, l1, l2, l3, l4]
      grind
    · simp only [va, vm, vs, l1, l2, l3, l4]
      grind
end
end K02
end

section
set_option maxRecDepth 100000
set_option maxHeartbeats 4000000
namespace K02
open PySem L2 DL
section
variable {m n k ne : Nat} {s t x y : List Int} {A B C G E F X Y : V2} {M : List (List Int)}
theorem One.cast (h : One n t X) (e : X = Y) : One n t Y := e ▸ h
theorem Ur.cast (h : Ur n t X) (e : X = Y) : Ur n t Y := e ▸ h
theorem mul1 {r : Int} (h : Bd 5000 r) : DL.MulOk r 1 := MulOk.of h (Bd1 (n := 1) (by decide)) (by decide)
theorem mul0 {r : Int} (h : Bd 5000 r) : DL.MulOk r 0 := MulOk.of h (Bd0 (n := 1)) (by decide)
theorem lback_ok (h : Mx 80 80 M A B C G E F) (l : Sl A B C G) (hx : One 80 x X) (hy : One 80 y Y) : Wp (F__law_back [mI M, .tup [tI x, tI y]]) fun D _ => D = .bl true := by
  unfold F__law_back b__law_back
  first | rw [wp_runP] | rw [wp_runF]
  simp -implicitDefEqProofs -dsimp [-wp_seq]
  (first | rw [wp_seq] | (show Wq noE _ _; rw [wp_seq]))
  simp -implicitDefEqProofs -dsimp [-wp_seq]
  by_cases z : A.1 * G.1 - B.1 * C.1 = 0
  · have z' : A.1 * G.1 = B.1 * C.1 := by grind
    refine Wp.imp (ask_backF (ys := []) (back_flat h l z' (by decide))) ?_
    rintro _ _ rfl
    simp -implicitDefEqProofs -dsimp [-wp_seq]
    (first | rw [wp_seq] | (show Wq noE _ _; rw [wp_seq]))
    simp -implicitDefEqProofs -dsimp [-wp_seq]
    refine (ldet_ok h.mu (by decide)).imp ?_
    rintro _ _ ⟨u, rfl, g⟩
    obtain ⟨p, q, r, rfl, g1, g2, _⟩ := g
    have p0 : p = 0 := (q0 g2 g1).mpr z
    subst p0
    simp -implicitDefEqProofs -dsimp
  · have hi : (A.1 * G.1 - B.1 * C.1) * (A.1 * G.1 - B.1 * C.1)⁻¹ = 1 := Rat.mul_inv_cancel _ z
    generalize (A.1 * G.1 - B.1 * C.1)⁻¹ = i at hi
    have bv := back_vals (E := E) (F := F) l hi
    have lv := lead_vals (X := X) (Y := Y) (E := E) (F := F) l hi
    have tv := twice_vals l hi
    have te := twice_ef (E := E) (F := F) l hi
    refine Wp.imp (ask_back (ys := []) (back_ok h l hi (by decide) (by decide))) ?_
    rintro _ _ ⟨r, rfl, N, rfl, mN⟩
    simp -implicitDefEqProofs -dsimp [-wp_seq]
    (first | rw [wp_seq] | (show Wq noE _ _; rw [wp_seq]))
    simp -implicitDefEqProofs -dsimp [-wp_seq]
    refine (ldet_ok h.mu (by decide)).imp ?_
    rintro _ _ ⟨u, rfl, g⟩
    obtain ⟨p, q, r, rfl, g1, g2, _⟩ := g
    have p0 : p ≠ 0 := fun e => z ((q0 g2 g1).mp e)
    simp -implicitDefEqProofs -dsimp [p0, -wp_seq]
    (first | rw [wp_seq] | (show Wq noE _ _; rw [wp_seq]))
    simp -implicitDefEqProofs -dsimp [-wp_seq]
    have mM := mN
    obtain ⟨n0, n1, n2, n3, n4, n5, rfl, a0, a1, a2, a3, a4, a5⟩ := mN
    obtain ⟨p0', r0, rfl, a0⟩ := a0.still tv.2.1.1
    obtain ⟨p1, r1, rfl, a1⟩ := a1.still tv.2.1.2.1
    obtain ⟨p2, r2, rfl, a2⟩ := a2.still tv.2.1.2.2.1
    obtain ⟨p3, r3, rfl, a3⟩ := a3.still tv.2.1.2.2.2
    (first | rw [wp_seq] | (show Wq noE _ _; rw [wp_seq]))
    simp -implicitDefEqProofs -dsimp [-wp_seq]
    (first | rw [wp_seq] | (show Wq noE _ _; rw [wp_seq]))
    simp -implicitDefEqProofs -dsimp [rg6, -wp_seq]
    refine (formed_ok a0 (by decide)).imp ?_
    rintro _ _ rfl
    simp -implicitDefEqProofs -dsimp [-wp_seq]
    refine (formed_ok a1 (by decide)).imp ?_
    rintro _ _ rfl
    simp -implicitDefEqProofs -dsimp [-wp_seq]
    refine (formed_ok a2 (by decide)).imp ?_
    rintro _ _ rfl
    simp -implicitDefEqProofs -dsimp [-wp_seq]
    refine (formed_ok a3 (by decide)).imp ?_
    rintro _ _ rfl
    simp -implicitDefEqProofs -dsimp [-wp_seq]
    refine (formed_ok a4 (by decide)).imp ?_
    rintro _ _ rfl
    simp -implicitDefEqProofs -dsimp [-wp_seq]
    refine (formed_ok a5 (by decide)).imp ?_
    rintro _ _ rfl
    simp -implicitDefEqProofs -dsimp [-wp_seq]
    (first | rw [wp_seq] | (show Wq noE _ _; rw [wp_seq]))
    simp -implicitDefEqProofs -dsimp [-wp_seq]
    refine (lafter_ok h.mu mM.mu (by decide)).imp ?_
    rintro _ _ ⟨K, rfl, g⟩
    obtain ⟨k0, k1, k2, k3, k4, k5, rfl, c0, c1, c2, c3, c4, c5⟩ := g
    obtain ⟨⟨b0, b1⟩, ⟨b2, b3⟩, b4, b5⟩ := bv
    obtain ⟨s0, rfl, d0⟩ := (c0.cast b0).unit (z := 1) rfl rfl
    obtain ⟨s1, rfl, d1⟩ := (c1.cast b1).unit (z := 0) rfl rfl
    obtain ⟨s2, rfl, d2⟩ := (c2.cast b2).unit (z := 0) rfl rfl
    obtain ⟨s3, rfl, d3⟩ := (c3.cast b3).unit (z := 1) rfl rfl
    obtain ⟨s4, rfl, d4⟩ := (c4.cast b4).unit (z := 0) rfl rfl
    obtain ⟨s5, rfl, d5⟩ := (c5.cast b5).unit (z := 0) rfl rfl
    have m0 := mul1 (d0.mono (by decide))
    have m1 := mul0 (d1.mono (by decide))
    have m2 := mul0 (d2.mono (by decide))
    have m3 := mul1 (d3.mono (by decide))
    have m4 := mul0 (d4.mono (by decide))
    have m5 := mul0 (d5.mono (by decide))
    simp -implicitDefEqProofs -dsimp [-wp_seq]
    (first | rw [wp_seq] | (show Wq noE _ _; rw [wp_seq]))
    simp -implicitDefEqProofs -dsimp [rg6, m0, m1, m2, m3, m4, m5]
    refine (lead_ok h hx hy l.s4 (by decide)).imp ?_
    rintro _ _ ⟨u, w, rfl, o1, o2⟩
    simp -implicitDefEqProofs -dsimp
    refine (lead_ok mM o1 o2 tv.2.1.s4 (by decide)).imp ?_
    rintro _ _ ⟨u', w', rfl, q1, q2⟩
    have ex := (q1.cast lv.1).uniq hx
    have ey := (q2.cast lv.2).uniq hy
    subst ex ey
    simp -implicitDefEqProofs -dsimp
    have pw : Pw 80 80 [u', w'] [u', w'] := .cons hx hx.ur (.cons hy hy.ur .nil)
    generalize hT : [tI u', tI w'] = T
    refine (all_eqT pw hT hT (by decide) (by decide) (by simp)).imp ?_
    rintro _ _ rfl
    simp -implicitDefEqProofs -dsimp
    refine (back_ok mM tv.2.1 tv.1 (by decide) (by decide)).imp ?_
    rintro _ _ ⟨K, rfl, mK⟩
    obtain ⟨a, b, c, d, e, f, rfl, ha, hb, hc, hd, he, hf⟩ := h
    obtain ⟨a', b', c', d', e', f', rfl, ka, kb, kc, kd, ke, kf⟩ := mK
    obtain ⟨t1, t2, t3, t4⟩ := tv.2.2
    have ke := ke
    rw [t1, t3] at ke
    have kf := kf
    rw [t2, t4] at kf
    have qa := (ka.cast t1).uniq ha
    have qb := (kb.cast t2).uniq hb
    have qc := (kc.cast t3).uniq hc
    have qd := (kd.cast t4).uniq hd
    have qe := (ke.cast te.1).uniq he
    have qf := (kf.cast te.2).uniq hf
    subst qa qb qc qd qe qf
    clear ka kb kc kd ke kf
    simp -implicitDefEqProofs -dsimp
    have pw : Pw 80 80 [a', b', c', d', e', f'] [a', b', c', d', e', f'] := .cons ha ha.ur (.cons hb hb.ur (.cons hc hc.ur (.cons hd hd.ur (.cons he he.ur (.cons hf hf.ur .nil)))))
    generalize hS : [tI a', tI b', tI c', tI d', tI e', tI f'] = S
    refine (all_eqT pw hS hS (by decide) (by decide) (by simp)).imp ?_
    rintro _ _ rfl
    simp -implicitDefEqProofs -dsimp
end
end K02
end

section
set_option maxRecDepth 100000
set_option maxHeartbeats 2000000
namespace K02
open PySem L2 DL
theorem Tp.mono {c c' : Nat} {xs : List D} (h : Tp c xs) (k : c ≤ c') : Tp c' xs := by
  obtain ⟨r, n, e, a, b⟩ := h
  exact ⟨r, n, e, by omega, b⟩
def FrmP (n : Nat) (a b w : Int) (d : D) : Prop := ∃ (t : List Int) (X : V2), d = tI t ∧ One n t X ∧ (X.2 = 0 ↔ b = 0) ∧ (a : Rat) = X.1 * w
def EntP (d : D) : Prop := ∃ (t : List Int) (X : V2), d = tI t ∧ One 76 t X ∧ X.2 = 0
def MovP (d : D) : Prop := ∃ (t : List Int) (X : V2), d = tI t ∧ One 80 t X ∧ X.2 ≠ 0
theorem form_ok {n : Nat} {a b w : Int} (hw : 1 ≤ w) (ha : Bd n a) (hb : Bd n b) (hc : Bd n w) (hn : n ≤ 1000) : Wp (F__law_form [.int a, .int b, .int w]) fun D _ => FrmP n a b w D := by
  unfold F__law_form
  first | rw [wp_runP] | rw [wp_runF]
  simp -implicitDefEqProofs -dsimp
  refine (gcd_ok hb (by omega)).imp ?_
  rintro _ _ rfl
  simp -implicitDefEqProofs -dsimp
  refine (gcd_ok hc (by omega)).imp ?_
  rintro _ _ rfl
  obtain ⟨h1, h2, h3⟩ := nm_of (n := n) hw ha hb hc
  simp -implicitDefEqProofs -dsimp
  have w0 := cast_ne (show w ≠ 0 by omega)
  have e1 : (a : Rat) = ((a : Rat) / w) * w := by grind
  have e2 : (b : Rat) = ((b : Rat) / w) * w := by grind
  refine ⟨DivOk.of h2 (by omega) (by omega), _, ((a : Rat) / w, (b : Rat) / w), rfl, h3.one (by omega) e1 e2, ?_, e1⟩
  constructor
  · intro z
    have z : (b : Rat) / w = 0 := z
    rw [z, Rat.zero_mul] at e2
    exact Rat.intCast_inj.mp (e2.trans (by rfl))
  · intro z
    show (b : Rat) / w = 0
    rw [z] at e2
    have e2 : (0 : Rat) = ((b : Rat) / w) * w := by rw [z]; exact e2
    rw [z]
    grind
def EK (c : Nat) (g m : Int) (o3 : Option D) (f : Fl) (e : DL.Env) : Prop := ∃ d, f = .rt d ∧ EntP d ∧ isSh d = true ∧ ∃ tp', e = [some (.bor tp'), some (.int g), some (.int m), o3] ∧ Tp (c + 16) tp'
def EJ (c : Nat) (g : Int) (e : DL.Env) : Prop := ∃ (tp : List D) (m : Int) (o3 : Option D), Tp (c + 14) tp ∧ Bd 76 m ∧ e = [some (.bor tp), some (.int g), some (.int m), o3]
def EI (c : Nat) (g : Int) (i : Nat) (e : DL.Env) : Prop := ∃ (tp : List D) (m : Int) (o3 : Option D), Tp (c + 1 + i) tp ∧ e = [some (.bor tp), some (.int g), some (.int m), o3] ∧ m.natAbs < 2 ^ (4 + 6 * i)
theorem entry_ok {c : Nat} {tp : List D} {g : Int} (h : Tp c tp) (hc : c < 90000) : Wp (F__law_entry [.bor tp, .int g]) (TpQ (c + 16) EntP) := by
  have fin : ∀ {tp : List D} {m : Int} {o3 : Option D}, Tp (c + 14) tp → Bd 76 m → Wp (sRet (eCall 3 F__law_form (aCons (eVal 2) (aCons (eC (.int 0)) (aCons (eBin dAdd (eC (.int 1)) (eCall 2 F__law_next (aCons (eVar 0) (aCons (eC (.int 3)) aNil)))) aNil)))) [some (.bor tp), some (.int g), some (.int m), o3])
      fun f e => EK c g m o3 f e := by
    intro tp m o3 T bm
    simp -implicitDefEqProofs -dsimp
    refine (next_ok T (by omega) (by decide)).imp ?_
    rintro _ outs ⟨⟨q, rfl, q1, q2⟩, tp2, ho2, T2⟩
    simp -implicitDefEqProofs -dsimp [putO_one ho2]
    refine (form_ok (n := 76) (by omega) bm Bd0 (Nat.lt_of_lt_of_le (show (1 + q).natAbs < 16 by omega) (by decide)) (by decide)).imp ?_
    rintro _ _ ⟨t, X, rfl, o, e, _⟩
    simp -implicitDefEqProofs -dsimp
    exact ⟨_, rfl, ⟨t, X, rfl, o, e.mpr rfl⟩, rfl, tp2, rfl, T2.mono (by omega)⟩
  unfold F__law_entry b__law_entry
  first | rw [wp_runP] | rw [wp_runF]
  simp -implicitDefEqProofs -dsimp [-wp_seq]
  (first | rw [wp_seq] | (show Wq noE _ _; rw [wp_seq]))
  simp -implicitDefEqProofs -dsimp [-wp_seq]
  refine (next_ok h (by omega) (by decide)).imp ?_
  rintro _ outs ⟨⟨m0, rfl, h1, h2⟩, tp1, ho, T1⟩
  simp -implicitDefEqProofs -dsimp [putO_one ho, -wp_seq]
  (first | rw [wp_seq] | (show Wq noE _ _; rw [wp_seq]))
  refine Wp.imp (P := fun f e => f = .nx ∧ EJ c g e) ?_ ?_
  · simp -implicitDefEqProofs -dsimp
    have hm : (m0 - 6).natAbs < 2 ^ (4 + 6 * 0) := by omega
    refine ⟨fun _ => ?_, fun _ => ⟨tp1, m0 - 6, none, T1.mono (by omega), Nat.lt_of_lt_of_le hm (by decide), rfl⟩⟩
    refine wp_forL (EI c g) _ 0 _ ⟨tp1, _, none, T1, rfl, hm⟩ ?_ ?_
    · rintro i d e hd ⟨tp, m, o3, T, rfl, bm⟩
      have hi : i < 12 := by
        have := (List.getElem?_eq_some_iff.mp hd).1
        simpa [rg] using this
      obtain ⟨v, _, rfl⟩ := List.mem_map.mp (List.mem_of_getElem? hd)
      rw [Nat.zero_add] at T bm
      have b1 : Bd 100 m := Nat.lt_of_lt_of_le bm (Nat.pow_le_pow_right (by decide) (by omega))
      simp -implicitDefEqProofs -dsimp
      refine ⟨MulOk.of b1 (n := 20) (by decide) (by decide), ?_⟩
      refine (next_ok T (by omega) (by decide)).imp ?_
      rintro _ outs ⟨⟨q, rfl, q1, q2⟩, tp2, ho2, T2⟩
      simp -implicitDefEqProofs -dsimp [putO_one ho2]
      refine ⟨tp2, _, _, T2, rfl, ?_⟩
      have e : (2 : Nat) ^ (4 + 6 * (i + 1)) = 2 ^ (4 + 6 * i) * 64 := by
        rw [show 4 + 6 * (i + 1) = (4 + 6 * i) + 6 by omega, Nat.pow_add]
      rw [e]
      omega
    · rintro e ⟨tp, m, o3, T, rfl, bm⟩
      have e12 : (rg 0 12).length = 12 := by simp [rg]
      rw [e12] at T bm
      simp -implicitDefEqProofs -dsimp
      exact ⟨tp, m, o3, T.mono (by omega), bm, rfl⟩
  rintro _ _ ⟨rfl, tp, m, o3, T, bm, rfl⟩
  simp -implicitDefEqProofs -dsimp [-wp_ret]
  refine Wp.imp (fin T bm) ?_
  rintro _ _ ⟨d, rfl, p, _, tp', rfl, T'⟩
  simp -implicitDefEqProofs -dsimp
  exact ⟨p, tp', rfl, T'⟩
theorem mover_ok {c : Nat} {tp : List D} (h : Tp c tp) (hc : c < 90000) : Wp (F__law_mover [.bor tp]) (TpQ (c + 16) MovP) := by
  unfold F__law_mover b__law_mover
  first | rw [wp_runP] | rw [wp_runF]
  simp -implicitDefEqProofs -dsimp [-wp_seq]
  (first | rw [wp_seq] | (show Wq noE _ _; rw [wp_seq]))
  simp -implicitDefEqProofs -dsimp [-wp_seq]
  refine (next_ok h (by omega) (by decide)).imp ?_
  rintro _ outs ⟨⟨a, rfl, h1, h2⟩, tp1, ho, T1⟩
  simp -implicitDefEqProofs -dsimp [putO_one ho, -wp_seq]
  (first | rw [wp_seq] | (show Wq noE _ _; rw [wp_seq]))
  simp -implicitDefEqProofs -dsimp [-wp_seq]
  refine (next_ok T1 (by omega) (by decide)).imp ?_
  rintro _ outs ⟨⟨b, rfl, h3, h4⟩, tp2, ho, T2⟩
  simp -implicitDefEqProofs -dsimp [putO_one ho, -wp_seq]
  have fin : ∀ {E : Exn → DL.Env → Prop} {Q : Fl → DL.Env → Prop} {tp : List D} {m : Int}, Tp (c + 14) tp → Bd 80 m → m ≠ 0 → (∀ d tp', MovP d → Tp (c + 16) tp' → isSh d = true → Q (.rt d) [some (.bor tp'), some (.int (a - 4)), some (.int m)]) →
      Wq E (sRet (eCall 3 F__law_form (aCons (eVal 1) (aCons (eVal 2) (aCons (eBin dAdd (eC (.int 1)) (eCall 2 F__law_next (aCons (eVar 0) (aCons (eC (.int 3)) aNil)))) aNil)))) [some (.bor tp), some (.int (a - 4)), some (.int m)]) Q := by
    intro E Q tp m T bm hm hQ
    simp -implicitDefEqProofs -dsimp
    refine (next_ok T (by omega) (by decide)).imp ?_
    rintro _ outs ⟨⟨q, rfl, q1, q2⟩, tp2, ho2, T2⟩
    simp -implicitDefEqProofs -dsimp [putO_one ho2]
    refine (form_ok (n := 80) (by omega) (Nat.lt_of_lt_of_le (show (a - 4).natAbs < 16 by omega) (by decide)) bm (Nat.lt_of_lt_of_le (show (1 + q).natAbs < 16 by omega) (by decide)) (by decide)).imp ?_
    rintro _ _ ⟨t, X, rfl, o, e, _⟩
    simp -implicitDefEqProofs -dsimp
    exact hQ _ _ ⟨t, X, rfl, o, fun z => hm (e.mp z)⟩ (T2.mono (by omega)) rfl
  (first | rw [wp_seq] | (show Wq noE _ _; rw [wp_seq]))
  simp -implicitDefEqProofs -dsimp [-wp_seq, -wp_ret]
  refine (next_ok T2 (by omega) (by decide)).imp ?_
  rintro _ outs ⟨⟨d, rfl, h5, h6⟩, tp3, ho, T3⟩
  simp -implicitDefEqProofs -dsimp [putO_one ho, -wp_seq, -wp_ret]
  have bb : Bd 80 (1 + b) := Nat.lt_of_lt_of_le (show (1 + b).natAbs < 16 by omega) (by decide)
  have b2 : Bd 80 (-(1 + b)) := neg_bd bb
  refine ⟨fun _ => fin (m := -(1 + b)) (T3.mono (by omega)) b2 (by omega) ?_, fun _ => fin (m := 1 + b) (T3.mono (by omega)) bb (by omega) ?_⟩
  · rintro d tp' p T' s
    simp -implicitDefEqProofs -dsimp
    exact ⟨p, tp', rfl, T'⟩
  · rintro d tp' p T' s
    simp -implicitDefEqProofs -dsimp
    exact ⟨p, tp', rfl, T'⟩
end K02
end

section
set_option maxRecDepth 100000
set_option maxHeartbeats 4000000
namespace K02
open PySem L2 DL
def CorP (d : D) : Prop := ∃ (x y : List Int) (X Y : V2), d = .tup [tI x, tI y] ∧ One 80 x X ∧ One 80 y Y
def CI (c : Nat) (g : Int) (i : Nat) (e : DL.Env) : Prop := ∃ (tp : List D) (ts : List (List Int)) (o3 : Option D), Tp (c + 20 * i) tp ∧ ts.length = i ∧ (∀ t ∈ ts, ∃ X, One 80 t X) ∧ e = [some (.bor tp), some (.int g), some (.own (ts.map tI)), o3]
theorem sh_tIs {ts : List (List Int)} : (ts.map tI).all isSh = true := by
  induction ts with
  | nil => rfl
  | cons t ts ih => rw [List.map_cons, List.all_cons, ih]; rfl
theorem corner_ok {c : Nat} {tp : List D} {g : Int} (h : Tp c tp) (hc : c < 80000) : Wp (F__law_corner [.bor tp, .int g]) (TpQ (c + 40) CorP) := by
  unfold F__law_corner b__law_corner
  first | rw [wp_runP] | rw [wp_runF]
  simp -implicitDefEqProofs -dsimp [-wp_seq]
  (first | rw [wp_seq] | (show Wq noE _ _; rw [wp_seq]))
  simp -implicitDefEqProofs -dsimp [-wp_seq]
  (first | rw [wp_seq] | (show Wq noE _ _; rw [wp_seq]))
  simp -implicitDefEqProofs -dsimp [-wp_seq]
  refine wp_forL (CI c g) _ 0 _ ⟨tp, [], none, h, rfl, by simp, rfl⟩ ?_ ?_
  · rintro i d e hd ⟨tp, ts, o3, T, hl, ht, rfl⟩
    have hi : i < 2 := by
      have := (List.getElem?_eq_some_iff.mp hd).1
      simpa [rg] using this
    obtain ⟨v, _, rfl⟩ := List.mem_map.mp (List.mem_of_getElem? hd)
    rw [Nat.zero_add] at T hl
    have step : ∀ {tp' : List D} {u : List Int} {U : V2} {o3 : Option D}, Tp (c + 20 * i + 20) tp' → One 80 u U → CI c g (0 + i + 1) [some (.bor tp'), some (.int g), some (.own ((ts ++ [u]).map tI)), o3] := by
      intro tp' u U o3 T' o
      refine ⟨tp', ts ++ [u], o3, T'.mono (by omega), by simp [hl], ?_, rfl⟩
      intro t m
      rcases List.mem_append.mp m with m | m
      · exact ht t m
      · rw [List.mem_singleton.mp m]
        exact ⟨U, o⟩
    have sh := sh_tIs (ts := ts)
    rw [List.all_eq_true] at sh
    simp -implicitDefEqProofs -dsimp
    refine (next_ok T (by omega) (by decide)).imp ?_
    rintro _ outs ⟨⟨q, rfl, q1, q2⟩, tp2, ho, T2⟩
    simp -implicitDefEqProofs -dsimp [putO_one ho]
    refine ⟨fun _ => ?_, fun _ => ?_⟩
    · refine (mover_ok T2 (by omega)).imp ?_
      rintro _ outs ⟨⟨u, U, rfl, o, _⟩, tp3, ho, T3⟩
      simp -implicitDefEqProofs -dsimp [putO_one ho]
      refine ⟨by omega, ?_⟩
      have := step (o3 := some (.int v)) (T3.mono (by omega)) o
      rw [List.map_append] at this
      simpa using this
    · refine (entry_ok T2 (by omega)).imp ?_
      rintro _ outs ⟨⟨u, U, rfl, o, _⟩, tp3, ho, T3⟩
      simp -implicitDefEqProofs -dsimp [putO_one ho]
      refine ⟨by omega, ?_⟩
      have := step (o3 := some (.int v)) (T3.mono (by omega)) (o.mono (by decide))
      rw [List.map_append] at this
      simpa using this
  · rintro e ⟨tp, ts, o3, T, hl, ht, rfl⟩
    have e2 : (rg 0 2).length = 2 := by simp [rg]
    rw [e2] at T hl
    match ts, hl, ht with
    | [x, y], _, ht =>
      obtain ⟨X, ox⟩ := ht x (by simp)
      obtain ⟨Y, oy⟩ := ht y (by simp)
      simp -implicitDefEqProofs -dsimp
      exact ⟨⟨x, y, X, Y, rfl, ox, oy⟩, tp, rfl, T.mono (by omega)⟩
theorem with_ok {a b c d e f x : List Int} {k : Nat} (hk : k < 6) : Wp (F__law_with [mI [a, b, c, d, e, f], .int k, tI x]) fun D _ => D = mI ([a, b, c, d, e, f].set k x) := by
  unfold F__law_with
  first | rw [wp_runP] | rw [wp_runF]
  have cuts : cutD [tI a, tI b, tI c, tI d, tI e, tI f] none (some (k : Int)) = [tI a, tI b, tI c, tI d, tI e, tI f].take k ∧ cutD [tI a, tI b, tI c, tI d, tI e, tI f] (some ((k : Int) + 1)) none = [tI a, tI b, tI c, tI d, tI e, tI f].drop (k + 1) := by
    match k, hk with
    | 0, _ => exact ⟨rfl, rfl⟩
    | 1, _ => exact ⟨rfl, rfl⟩
    | 2, _ => exact ⟨rfl, rfl⟩
    | 3, _ => exact ⟨rfl, rfl⟩
    | 4, _ => exact ⟨rfl, rfl⟩
    | 5, _ => exact ⟨rfl, rfl⟩
  simp -implicitDefEqProofs -dsimp [cuts.1, cuts.2]
  match k, hk with
  | 0, _ => simp
  | 1, _ => simp
  | 2, _ => simp
  | 3, _ => simp
  | 4, _ => simp
  | 5, _ => simp
end K02
end

section
set_option maxRecDepth 100000
set_option maxHeartbeats 8000000
namespace K02
open PySem L2 DL
def TrueP (d : D) : Prop := d = .bl true
theorem dv2 : DL.DivOk 2 := DivOk.of (n := 4) (by decide) (by decide) (by decide)
theorem ml2 {i : Int} (h : Bd 10 i) : DL.MulOk 2 i := MulOk.of (m := 4) (by decide) h (by decide)
section
variable {A B C G E F X Y A' B' C' G' E' F' : V2} {a b c d e f a' b' c' d' e' f' x y : List Int}
theorem dets_ok {q : Nat} {tp : List D} (h : Tp q tp) (hq : q < 80000) (ha : One 80 a A) (hb : One 80 b B) (hc : One 80 c C) (hd : One 80 d G) (he : One 80 e E) (hf : One 80 f F) (l : Sl A B C G) (hx : One 80 x X) (hX : X.2 ≠ 0) (hy : One 80 y Y) (hY : Y.2 ≠ 0) :
    Wp (F__law_dets [.bor tp, mI [a, b, c, d, e, f], tI x, tI y]) (TpQ (q + 2) TrueP) := by
  obtain ⟨l1, l2, l3, l4⟩ := l
  have hz : One 80 [0, 0, 1] o2 := one_zero.mono (by decide)
  unfold F__law_dets
  first | rw [wp_runP] | rw [wp_runF]
  simp -implicitDefEqProofs -dsimp
  refine (next_ok h (by omega) (by decide)).imp ?_
  rintro _ outs ⟨⟨k, rfl, k0, k1⟩, tp1, ho, T1⟩
  simp -implicitDefEqProofs -dsimp [putO_one ho]
  refine (next_ok T1 (by omega) (by decide)).imp ?_
  rintro _ outs ⟨⟨i, rfl, i0, i1⟩, tp2, ho, T2⟩
  simp -implicitDefEqProofs -dsimp [putO_one ho]
  obtain ⟨k, rfl⟩ := Int.eq_ofNat_of_zero_le k0
  obtain ⟨i, rfl⟩ := Int.eq_ofNat_of_zero_le i0
  have k1 : k < 2 := by omega
  have i1 : i < 4 := by omega
  refine (with_ok (k := k) (by omega)).imp ?_
  rintro _ _ rfl
  simp -implicitDefEqProofs -dsimp
  have fin : ∀ {r : D}, TpQ (q + 2) TrueP (.bl true) [some (.bor tp2), some r] → True := fun _ => trivial
  have back2 : ∀ {u0 u1 u2 u3 u4 u5 : List Int} {U0 U1 U2 U3 : V2}, One 80 u0 U0 → One 80 u1 U1 → One 80 u2 U2 → One 80 u3 U3 → One 80 u4 E → One 80 u5 F → Wp (F__law_moved [.str "back", mI ([u0, u1, u2, u3, u4, u5].set i x), .tup []]) fun D _ => D = .bl true := by
    intro u0 u1 u2 u3 u4 u5 U0 U1 U2 U3 h0 h1 h2 h3 h4 h5
    match i, i1 with
    | 0, _ => exact moved_ok (ask_backM (back_ex (A := X) ⟨_, _, _, _, _, _, rfl, hx, h1, h2, h3, h4, h5⟩ fun z => hX z.1))
    | 1, _ => exact moved_ok (ask_backM (back_ex (B := X) ⟨_, _, _, _, _, _, rfl, h0, hx, h2, h3, h4, h5⟩ fun z => hX z.2.1))
    | 2, _ => exact moved_ok (ask_backM (back_ex (C := X) ⟨_, _, _, _, _, _, rfl, h0, h1, hx, h3, h4, h5⟩ fun z => hX z.2.2.1))
    | 3, _ => exact moved_ok (ask_backM (back_ex (G := X) ⟨_, _, _, _, _, _, rfl, h0, h1, h2, hx, h4, h5⟩ fun z => hX z.2.2.2))
  have bk1 := back2 ha hb hc hd he hf
  have bk2 := back2 hz hz hz hz he hf
  have w1 := with_ok (a := a) (b := b) (c := c) (d := d) (e := e) (f := f) (x := x) (k := i) (by omega)
  have w2 := with_ok (a := [0, 0, 1]) (b := [0, 0, 1]) (c := [0, 0, 1]) (d := [0, 0, 1]) (e := e) (f := f) (x := x) (k := i) (by omega)
  generalize [a, b, c, d, e, f].set i x = M1 at bk1 w1
  generalize [[0, 0, 1], [0, 0, 1], [0, 0, 1], [0, 0, 1], e, f].set i x = M2 at bk2 w2
  clear back2 fin
  have all4 : Wp (F__law_moved [.str "determinant", mI [x, x, x, x, e, f], .tup []]) fun D _ => D = .bl true :=
    moved_ok (ask_detM (det_ex (ne := 80) ⟨_, _, _, _, _, _, rfl, hx, hx, hx, hx, he, hf⟩ (fun z => z.1.elim hX hX) (by decide)))
  match k, k1 with
  | 0, _ =>
    have d1 : Wp (F__law_moved [.str "determinant", mI [x, b, c, y, e, f], .tup []]) fun D _ => D = .bl true :=
      moved_ok (ask_detM (det_ex (ne := 80) ⟨_, _, _, _, _, _, rfl, hx, hb, hc, hy, he, hf⟩ (fun z => z.1.elim hX hY) (by decide)))
    have d2 := det_is_ok ⟨_, _, _, _, _, _, rfl, hx, hb, hy, hd, he, hf⟩ (.inr l4) (.inl l2)
    have d3 := det_is_ok ⟨_, _, _, _, _, _, rfl, hx, hb, hc, hd, he, hf⟩ (.inr l4) (.inl l2)
    simp -implicitDefEqProofs -dsimp
    refine (with_ok (k := 3) (by decide)).imp ?_
    rintro _ _ rfl
    simp -implicitDefEqProofs -dsimp
    refine (d1).imp ?_
    rintro _ _ rfl
    simp -implicitDefEqProofs -dsimp
    refine (with_ok (k := 2) (by decide)).imp ?_
    rintro _ _ rfl
    simp -implicitDefEqProofs -dsimp
    refine (d2).imp ?_
    rintro _ _ rfl
    simp -implicitDefEqProofs -dsimp
    refine (d3).imp ?_
    rintro _ _ rfl
    simp -implicitDefEqProofs -dsimp
    refine (all4).imp ?_
    rintro _ _ rfl
    simp -implicitDefEqProofs -dsimp
    refine (w1).imp ?_
    rintro _ _ rfl
    simp -implicitDefEqProofs -dsimp
    refine (bk1).imp ?_
    rintro _ _ rfl
    simp -implicitDefEqProofs -dsimp
    refine (w2).imp ?_
    rintro _ _ rfl
    simp -implicitDefEqProofs -dsimp
    refine (bk2).imp ?_
    rintro _ _ rfl
    simp -implicitDefEqProofs -dsimp
    exact ⟨rfl, tp2, rfl, T2.mono (by omega)⟩
  | 1, _ =>
    have d1 : Wp (F__law_moved [.str "determinant", mI [a, x, y, d, e, f], .tup []]) fun D _ => D = .bl true :=
      moved_ok (ask_detM (det_ex (ne := 80) ⟨_, _, _, _, _, _, rfl, ha, hx, hy, hd, he, hf⟩ (fun z => z.2.elim hX hY) (by decide)))
    have d2 := det_is_ok ⟨_, _, _, _, _, _, rfl, ha, hx, hc, hy, he, hf⟩ (.inl l1) (.inr l3)
    have d3 := det_is_ok ⟨_, _, _, _, _, _, rfl, ha, hx, hc, hd, he, hf⟩ (.inr l4) (.inr l3)
    simp -implicitDefEqProofs -dsimp
    refine (with_ok (k := 2) (by decide)).imp ?_
    rintro _ _ rfl
    simp -implicitDefEqProofs -dsimp
    refine (d1).imp ?_
    rintro _ _ rfl
    simp -implicitDefEqProofs -dsimp
    refine (with_ok (k := 3) (by decide)).imp ?_
    rintro _ _ rfl
    simp -implicitDefEqProofs -dsimp
    refine (d2).imp ?_
    rintro _ _ rfl
    simp -implicitDefEqProofs -dsimp
    refine (d3).imp ?_
    rintro _ _ rfl
    simp -implicitDefEqProofs -dsimp
    refine (all4).imp ?_
    rintro _ _ rfl
    simp -implicitDefEqProofs -dsimp
    refine (w1).imp ?_
    rintro _ _ rfl
    simp -implicitDefEqProofs -dsimp
    refine (bk1).imp ?_
    rintro _ _ rfl
    simp -implicitDefEqProofs -dsimp
    refine (w2).imp ?_
    rintro _ _ rfl
    simp -implicitDefEqProofs -dsimp
    refine (bk2).imp ?_
    rintro _ _ rfl
    simp -implicitDefEqProofs -dsimp
    exact ⟨rfl, tp2, rfl, T2.mono (by omega)⟩
end
end K02
end

section
set_option maxRecDepth 100000
set_option maxHeartbeats 8000000
namespace K02
open PySem L2 DL
section
variable {A B C G E F X Y A' B' C' G' E' F' : V2} {a b c d e f a' b' c' d' e' f' x y : List Int}
theorem movers_ok {q : Nat} {tp : List D} (h : Tp q tp) (hq : q < 80000) (ha : One 80 a A) (hb : One 80 b B) (hc : One 80 c C) (hd : One 80 d G) (he : One 80 e E) (hf : One 80 f F) (l : Sl A B C G) (l5 : E.2 = 0) (l6 : F.2 = 0)
    (ha' : One 80 a' A') (hb' : One 80 b' B') (hc' : One 80 c' C') (hd' : One 80 d' G') (he' : One 80 e' E') (hf' : One 80 f' F') (l' : Sl A' B' C' G') (hx : One 80 x X) (hX : X.2 ≠ 0) (hy : One 80 y Y) (hY : Y.2 ≠ 0) :
    Wp (F__law_movers [.bor tp, mI [a, b, c, d, e, f], mI [a', b', c', d', e', f'], tI x, tI y]) (TpQ (q + 2) TrueP) := by
  obtain ⟨l1, l2, l3, l4⟩ := l
  obtain ⟨k1', k2', k3', k4'⟩ := l'
  unfold F__law_movers
  first | rw [wp_runP] | rw [wp_runF]
  simp -implicitDefEqProofs -dsimp
  refine (next_ok h (by omega) (by decide)).imp ?_
  rintro _ outs ⟨⟨i, rfl, i0, i1⟩, tp1, ho, T1⟩
  simp -implicitDefEqProofs -dsimp [putO_one ho]
  refine (next_ok T1 (by omega) (by decide)).imp ?_
  rintro _ outs ⟨⟨k, rfl, k0, k1⟩, tp2, ho, T2⟩
  obtain ⟨k, rfl⟩ := Int.eq_ofNat_of_zero_le k0
  obtain ⟨i, rfl⟩ := Int.eq_ofNat_of_zero_le i0
  have k1 : k < 3 := by omega
  have i1 : i < 4 := by omega
  have mk : DL.MulOk 2 (k : Int) := ml2 (Nat.lt_of_lt_of_le (show (k : Int).natAbs < 16 by omega) (by decide))
  simp -implicitDefEqProofs -dsimp [putO_one ho, mk, dv2]
  have w1 := with_ok (a := a') (b := b') (c := c') (d := d') (e := e') (f := f') (x := x) (k := i) (by omega)
  have far : ∃ A1 B1 C1 G1, Mx 80 80 ([a', b', c', d', e', f'].set i x) A1 B1 C1 G1 E' F' ∧ (i < 2 → C1.2 = 0 ∧ G1.2 = 0 ∧ ¬ (A1.2 = 0 ∧ B1.2 = 0)) ∧ (2 ≤ i → A1.2 = 0 ∧ B1.2 = 0 ∧ ¬ (C1.2 = 0 ∧ G1.2 = 0)) := by
    match i, i1 with
    | 0, _ => exact ⟨X, B', C', G', ⟨_, _, _, _, _, _, rfl, hx, hb', hc', hd', he', hf'⟩, fun _ => ⟨k3', k4', fun z => hX z.1⟩, fun z => by omega⟩
    | 1, _ => exact ⟨A', X, C', G', ⟨_, _, _, _, _, _, rfl, ha', hx, hc', hd', he', hf'⟩, fun _ => ⟨k3', k4', fun z => hX z.2⟩, fun z => by omega⟩
    | 2, _ => exact ⟨A', B', X, G', ⟨_, _, _, _, _, _, rfl, ha', hb', hx, hd', he', hf'⟩, fun z => by omega, fun _ => ⟨k1', k2', fun z => hX z.1⟩⟩
    | 3, _ => exact ⟨A', B', C', X, ⟨_, _, _, _, _, _, rfl, ha', hb', hc', hx, he', hf'⟩, fun z => by omega, fun _ => ⟨k1', k2', fun z => hX z.2⟩⟩
  obtain ⟨A1, B1, C1, G1, mN, far⟩ := far
  generalize [a', b', c', d', e', f'].set i x = N1 at w1 mN
  refine (w1).imp ?_
  rintro _ _ rfl
  simp -implicitDefEqProofs -dsimp
  rcases Nat.lt_or_ge i 2 with hi | hi
  · have hfd : Int.fdiv (i : Int) 2 = 0 := by
      rw [Int.fdiv_eq_ediv_of_nonneg _ (by decide)]
      omega
    have hgt : ¬ (1 : Int) < i := by omega
    have mz : DL.MulOk 2 0 := ml2 (by decide)
    have hk : C1.2 = 0 ∧ G1.2 = 0 ∧ ¬ (A1.2 = 0 ∧ B1.2 = 0) := far.1 hi
    obtain ⟨f1, f2, f3⟩ := hk
    have nn : ∀ Z, ¬ S4 A1 B1 C1 G1 Y Z := fun Z z => f3 ⟨z.1.resolve_right hY, z.2.2.1.resolve_right hY⟩
    have pp : ∀ P Q : V2, P.2 = 0 → S4 A1 B1 C1 G1 P Q := fun P Q z => ⟨.inr z, .inl f1, .inr z, .inl f2⟩
    match k, k1 with
    | 0, _ =>
      have mk : DL.MulOk 2 0 := ml2 (by decide)
      simp -implicitDefEqProofs -dsimp [hfd, dv2, mk]
      refine (with_ok (k := 0) (by decide)).imp ?_
      rintro _ _ rfl
      simp -implicitDefEqProofs -dsimp
      have M1 : Mx 80 80 [y, b, c, d, e, f] Y B C G E F := ⟨_, _, _, _, _, _, rfl, hy, hb, hc, hd, he, hf⟩
      refine (moved_ok (ask_afterM (after_ex M1 mN (fun z => nn _ z.1) (by decide)))).imp ?_
      rintro _ _ rfl
      simp -implicitDefEqProofs -dsimp
      simp -implicitDefEqProofs -dsimp [hfd, dv2, mz]
      refine (with_ok (k := 1) (by decide)).imp ?_
      rintro _ _ rfl
      simp -implicitDefEqProofs -dsimp
      have M2 : Mx 80 80 [a, y, c, d, e, f] A Y C G E F := ⟨_, _, _, _, _, _, rfl, ha, hy, hc, hd, he, hf⟩
      refine (lafter_ok M2.mu mN.mu (by decide)).imp ?_
      rintro _ _ ⟨K, rfl, g⟩
      simp -implicitDefEqProofs -dsimp
      refine (after_fine M2 mN (pp _ _ l1) (pp _ _ l3) (pp _ _ l5) g).imp ?_
      rintro _ _ rfl
      simp -implicitDefEqProofs -dsimp
      refine ⟨fun z => absurd z hgt, fun _ => ?_⟩
      refine (moved_ok (ask_leadM (lead_ex mN hy he (nn _) (by decide)))).imp ?_
      rintro _ _ rfl
      simp -implicitDefEqProofs -dsimp
      refine (moved_ok (ask_stepM (lead_step_mx mN hy he (nn _) (by decide)))).imp ?_
      rintro _ _ rfl
      simp -implicitDefEqProofs -dsimp
      refine (leads_ok mN he hy (pp _ _ l5)).imp ?_
      rintro _ _ rfl
      simp -implicitDefEqProofs -dsimp
      exact ⟨rfl, tp2, rfl, T2.mono (by omega)⟩
    | 1, _ =>
      have mk : DL.MulOk 2 1 := ml2 (by decide)
      simp -implicitDefEqProofs -dsimp [hfd, dv2, mk]
      refine (with_ok (k := 2) (by decide)).imp ?_
      rintro _ _ rfl
      simp -implicitDefEqProofs -dsimp
      have M1 : Mx 80 80 [a, b, y, d, e, f] A B Y G E F := ⟨_, _, _, _, _, _, rfl, ha, hb, hy, hd, he, hf⟩
      refine (moved_ok (ask_afterM (after_ex M1 mN (fun z => nn _ z.2.1) (by decide)))).imp ?_
      rintro _ _ rfl
      simp -implicitDefEqProofs -dsimp
      simp -implicitDefEqProofs -dsimp [hfd, dv2, mz]
      refine (with_ok (k := 3) (by decide)).imp ?_
      rintro _ _ rfl
      simp -implicitDefEqProofs -dsimp
      have M2 : Mx 80 80 [a, b, c, y, e, f] A B C Y E F := ⟨_, _, _, _, _, _, rfl, ha, hb, hc, hy, he, hf⟩
      refine (lafter_ok M2.mu mN.mu (by decide)).imp ?_
      rintro _ _ ⟨K, rfl, g⟩
      simp -implicitDefEqProofs -dsimp
      refine (after_fine M2 mN (pp _ _ l1) (pp _ _ l3) (pp _ _ l5) g).imp ?_
      rintro _ _ rfl
      simp -implicitDefEqProofs -dsimp
      refine ⟨fun z => absurd z hgt, fun _ => ?_⟩
      refine (moved_ok (ask_leadM (lead_ex mN hy he (nn _) (by decide)))).imp ?_
      rintro _ _ rfl
      simp -implicitDefEqProofs -dsimp
      refine (moved_ok (ask_stepM (lead_step_mx mN hy he (nn _) (by decide)))).imp ?_
      rintro _ _ rfl
      simp -implicitDefEqProofs -dsimp
      refine (leads_ok mN he hy (pp _ _ l5)).imp ?_
      rintro _ _ rfl
      simp -implicitDefEqProofs -dsimp
      exact ⟨rfl, tp2, rfl, T2.mono (by omega)⟩
    | 2, _ =>
      have mk : DL.MulOk 2 2 := ml2 (by decide)
      simp -implicitDefEqProofs -dsimp [hfd, dv2, mk]
      refine (with_ok (k := 4) (by decide)).imp ?_
      rintro _ _ rfl
      simp -implicitDefEqProofs -dsimp
      have M1 : Mx 80 80 [a, b, c, d, y, f] A B C G Y F := ⟨_, _, _, _, _, _, rfl, ha, hb, hc, hd, hy, hf⟩
      refine (moved_ok (ask_afterM (after_ex M1 mN (fun z => nn _ z.2.2) (by decide)))).imp ?_
      rintro _ _ rfl
      simp -implicitDefEqProofs -dsimp
      simp -implicitDefEqProofs -dsimp [hfd, dv2, mz]
      refine (with_ok (k := 5) (by decide)).imp ?_
      rintro _ _ rfl
      simp -implicitDefEqProofs -dsimp
      have M2 : Mx 80 80 [a, b, c, d, e, y] A B C G E Y := ⟨_, _, _, _, _, _, rfl, ha, hb, hc, hd, he, hy⟩
      refine (lafter_ok M2.mu mN.mu (by decide)).imp ?_
      rintro _ _ ⟨K, rfl, g⟩
      simp -implicitDefEqProofs -dsimp
      refine (after_fine M2 mN (pp _ _ l1) (pp _ _ l3) (pp _ _ l5) g).imp ?_
      rintro _ _ rfl
      simp -implicitDefEqProofs -dsimp
      refine ⟨fun z => absurd z hgt, fun _ => ?_⟩
      refine (moved_ok (ask_leadM (lead_ex mN hy he (nn _) (by decide)))).imp ?_
      rintro _ _ rfl
      simp -implicitDefEqProofs -dsimp
      refine (moved_ok (ask_stepM (lead_step_mx mN hy he (nn _) (by decide)))).imp ?_
      rintro _ _ rfl
      simp -implicitDefEqProofs -dsimp
      refine (leads_ok mN he hy (pp _ _ l5)).imp ?_
      rintro _ _ rfl
      simp -implicitDefEqProofs -dsimp
      exact ⟨rfl, tp2, rfl, T2.mono (by omega)⟩
  · have hfd : Int.fdiv (i : Int) 2 = 1 := by
      rw [Int.fdiv_eq_ediv_of_nonneg _ (by decide)]
      omega
    have hgt : (1 : Int) < i := by omega
    have mz : DL.MulOk 2 1 := ml2 (by decide)
    have hk : A1.2 = 0 ∧ B1.2 = 0 ∧ ¬ (C1.2 = 0 ∧ G1.2 = 0) := far.2 hi
    obtain ⟨f1, f2, f3⟩ := hk
    have nn : ∀ Z, ¬ S4 A1 B1 C1 G1 Z Y := fun Z z => f3 ⟨z.2.1.resolve_right hY, z.2.2.2.resolve_right hY⟩
    have pp : ∀ P Q : V2, Q.2 = 0 → S4 A1 B1 C1 G1 P Q := fun P Q z => ⟨.inl f1, .inr z, .inl f2, .inr z⟩
    match k, k1 with
    | 0, _ =>
      have mk : DL.MulOk 2 0 := ml2 (by decide)
      simp -implicitDefEqProofs -dsimp [hfd, dv2, mk]
      refine (with_ok (k := 1) (by decide)).imp ?_
      rintro _ _ rfl
      simp -implicitDefEqProofs -dsimp
      have M1 : Mx 80 80 [a, y, c, d, e, f] A Y C G E F := ⟨_, _, _, _, _, _, rfl, ha, hy, hc, hd, he, hf⟩
      refine (moved_ok (ask_afterM (after_ex M1 mN (fun z => nn _ z.1) (by decide)))).imp ?_
      rintro _ _ rfl
      simp -implicitDefEqProofs -dsimp
      simp -implicitDefEqProofs -dsimp [hfd, dv2, mz]
      refine (with_ok (k := 0) (by decide)).imp ?_
      rintro _ _ rfl
      simp -implicitDefEqProofs -dsimp
      have M2 : Mx 80 80 [y, b, c, d, e, f] Y B C G E F := ⟨_, _, _, _, _, _, rfl, hy, hb, hc, hd, he, hf⟩
      refine (lafter_ok M2.mu mN.mu (by decide)).imp ?_
      rintro _ _ ⟨K, rfl, g⟩
      simp -implicitDefEqProofs -dsimp
      refine (after_fine M2 mN (pp _ _ l2) (pp _ _ l4) (pp _ _ l6) g).imp ?_
      rintro _ _ rfl
      simp -implicitDefEqProofs -dsimp
      refine ⟨fun _ => ?_, fun z => absurd z (by omega)⟩
      refine (moved_ok (ask_leadM (lead_ex mN he hy (nn _) (by decide)))).imp ?_
      rintro _ _ rfl
      simp -implicitDefEqProofs -dsimp
      refine (moved_ok (ask_stepM (lead_step_mx mN he hy (nn _) (by decide)))).imp ?_
      rintro _ _ rfl
      simp -implicitDefEqProofs -dsimp
      refine (leads_ok mN hy he (pp _ _ l5)).imp ?_
      rintro _ _ rfl
      simp -implicitDefEqProofs -dsimp
      exact ⟨rfl, tp2, rfl, T2.mono (by omega)⟩
    | 1, _ =>
      have mk : DL.MulOk 2 1 := ml2 (by decide)
      simp -implicitDefEqProofs -dsimp [hfd, dv2, mk]
      refine (with_ok (k := 3) (by decide)).imp ?_
      rintro _ _ rfl
      simp -implicitDefEqProofs -dsimp
      have M1 : Mx 80 80 [a, b, c, y, e, f] A B C Y E F := ⟨_, _, _, _, _, _, rfl, ha, hb, hc, hy, he, hf⟩
      refine (moved_ok (ask_afterM (after_ex M1 mN (fun z => nn _ z.2.1) (by decide)))).imp ?_
      rintro _ _ rfl
      simp -implicitDefEqProofs -dsimp
      simp -implicitDefEqProofs -dsimp [hfd, dv2, mz]
      refine (with_ok (k := 2) (by decide)).imp ?_
      rintro _ _ rfl
      simp -implicitDefEqProofs -dsimp
      have M2 : Mx 80 80 [a, b, y, d, e, f] A B Y G E F := ⟨_, _, _, _, _, _, rfl, ha, hb, hy, hd, he, hf⟩
      refine (lafter_ok M2.mu mN.mu (by decide)).imp ?_
      rintro _ _ ⟨K, rfl, g⟩
      simp -implicitDefEqProofs -dsimp
      refine (after_fine M2 mN (pp _ _ l2) (pp _ _ l4) (pp _ _ l6) g).imp ?_
      rintro _ _ rfl
      simp -implicitDefEqProofs -dsimp
      refine ⟨fun _ => ?_, fun z => absurd z (by omega)⟩
      refine (moved_ok (ask_leadM (lead_ex mN he hy (nn _) (by decide)))).imp ?_
      rintro _ _ rfl
      simp -implicitDefEqProofs -dsimp
      refine (moved_ok (ask_stepM (lead_step_mx mN he hy (nn _) (by decide)))).imp ?_
      rintro _ _ rfl
      simp -implicitDefEqProofs -dsimp
      refine (leads_ok mN hy he (pp _ _ l5)).imp ?_
      rintro _ _ rfl
      simp -implicitDefEqProofs -dsimp
      exact ⟨rfl, tp2, rfl, T2.mono (by omega)⟩
    | 2, _ =>
      have mk : DL.MulOk 2 2 := ml2 (by decide)
      simp -implicitDefEqProofs -dsimp [hfd, dv2, mk]
      refine (with_ok (k := 5) (by decide)).imp ?_
      rintro _ _ rfl
      simp -implicitDefEqProofs -dsimp
      have M1 : Mx 80 80 [a, b, c, d, e, y] A B C G E Y := ⟨_, _, _, _, _, _, rfl, ha, hb, hc, hd, he, hy⟩
      refine (moved_ok (ask_afterM (after_ex M1 mN (fun z => nn _ z.2.2) (by decide)))).imp ?_
      rintro _ _ rfl
      simp -implicitDefEqProofs -dsimp
      simp -implicitDefEqProofs -dsimp [hfd, dv2, mz]
      refine (with_ok (k := 4) (by decide)).imp ?_
      rintro _ _ rfl
      simp -implicitDefEqProofs -dsimp
      have M2 : Mx 80 80 [a, b, c, d, y, f] A B C G Y F := ⟨_, _, _, _, _, _, rfl, ha, hb, hc, hd, hy, hf⟩
      refine (lafter_ok M2.mu mN.mu (by decide)).imp ?_
      rintro _ _ ⟨K, rfl, g⟩
      simp -implicitDefEqProofs -dsimp
      refine (after_fine M2 mN (pp _ _ l2) (pp _ _ l4) (pp _ _ l6) g).imp ?_
      rintro _ _ rfl
      simp -implicitDefEqProofs -dsimp
      refine ⟨fun _ => ?_, fun z => absurd z (by omega)⟩
      refine (moved_ok (ask_leadM (lead_ex mN he hy (nn _) (by decide)))).imp ?_
      rintro _ _ rfl
      simp -implicitDefEqProofs -dsimp
      refine (moved_ok (ask_stepM (lead_step_mx mN he hy (nn _) (by decide)))).imp ?_
      rintro _ _ rfl
      simp -implicitDefEqProofs -dsimp
      refine (leads_ok mN hy he (pp _ _ l5)).imp ?_
      rintro _ _ rfl
      simp -implicitDefEqProofs -dsimp
      exact ⟨rfl, tp2, rfl, T2.mono (by omega)⟩
end
end K02
end

section
set_option maxRecDepth 100000
set_option maxHeartbeats 8000000
namespace K02
open PySem L2 DL
abbrev restI (I : D) : M Fl := (sSeq (sIf (tNotD (tTruD (eCall 2 F__law_all (aCons (eC I) (aCons (eVal 12) aNil))))) (sRet (eC (.bl false))) sNext)
  (sSeq (sIf (tOrD (tNotD (tTruD (eCall 3 F__law_composed (aCons (eVal 3) (aCons (eC I) (aCons (eVal 6) aNil)))))) (tNotD (tTruD (eCall 3 F__law_composed (aCons (eC I) (aCons (eVal 5) (aCons (eVal 6) aNil))))))) (sRet (eC (.bl false))) sNext)
  (sSeq (sIf (tOrD (tNotD (tTruD (eCall 3 F__law_composed (aCons (eVal 3) (aCons (eVal 5) (aCons (eVal 6) aNil)))))) (tNotD (tTruD (eCall 2 F__law_back (aCons (eVal 3) (aCons (eVal 6) aNil)))))) (sRet (eC (.bl false))) sNext)
  (sSeq (sAsg 13 (eBin dAdd (eSlice (eVar 3) eNoPart (ePart (eC (.int 4)))) (eTup (aCons (eVal 7) (aCons (eVal 8) aNil)))))
  (sSeq (sIf (tOrD (tNotD (tTruD (eCall 3 F__law_composed (aCons (eVal 13) (aCons (eVal 5) (aCons (eVal 6) aNil)))))) (tNotD (tTruD (eCall 2 F__law_back (aCons (eVal 13) (aCons (eVal 6) aNil)))))) (sRet (eC (.bl false))) sNext)
  (sSeq (sAsg 13 (eBin dAdd (eSlice (eVar 5) eNoPart (ePart (eC (.int 4)))) (eTup (aCons (eVal 8) (aCons (eVal 7) aNil)))))
  (sSeq (sIf (tOrD (tNotD (tTruD (eCall 3 F__law_composed (aCons (eVal 3) (aCons (eVal 13) (aCons (eVal 6) aNil)))))) (tNotD (tTruD (eCall 2 F__law_back (aCons (eVal 13) (aCons (eVal 6) aNil)))))) (sRet (eC (.bl false))) sNext)
  (sSeq (sIf (tNotD (tTruD (eCall 2 F__law_back (aCons (eVal 11) (aCons (eVal 6) aNil))))) (sRet (eC (.bl false))) sNext)
  (sSeq (sIf (tNotD (tTruD (eCall 5 F__law_movers (aCons (eVar 1) (aCons (eVal 3) (aCons (eVal 5) (aCons (eVal 7) (aCons (eVal 8) aNil)))))))) (sRet (eC (.bl false))) sNext)
  (sSeq (sIf (tNotD (tTruD (eCall 4 F__law_dets (aCons (eVar 1) (aCons (eVal 3) (aCons (eVal 7) (aCons (eVal 8) aNil))))))) (sRet (eC (.bl false))) sNext)
  (sRet (eAndD (eCall 3 F__law_composed (aCons (eVal 3) (aCons (eVal 5) (aCons (eVal 6) aNil)))) (eCall 2 F__law_back (aCons (eVal 3) (aCons (eVal 6) aNil)))))))))))))))
abbrev ids : List (List Int) := [[1, 0, 1], [0, 0, 1], [0, 0, 1], [1, 0, 1], [0, 0, 1], [0, 0, 1]]
theorem mx_id : Mx 80 80 ids (1, 0) o2 o2 (1, 0) o2 o2 :=
  ⟨_, _, _, _, _, _, rfl, one_one.mono (by decide), one_zero.mono (by decide), one_zero.mono (by decide), one_one.mono (by decide), one_zero.mono (by decide), one_zero.mono (by decide)⟩
theorem pw_id : Pw 80 80 ids ids := by
  have h0 : One 80 [0, 0, 1] o2 := one_zero.mono (by decide)
  have h1 : One 80 [1, 0, 1] (1, 0) := one_one.mono (by decide)
  exact .cons h1 h1.ur (.cons h0 h0.ur (.cons h0 h0.ur (.cons h1 h1.ur (.cons h0 h0.ur (.cons h0 h0.ur .nil)))))
section
variable {A B C G E F X Y A' B' C' G' E' F' P Q Z W : V2} {a b c d e f a' b' c' d' e' f' x y p q z w : List Int}
theorem half {n : Nat} {ns : List Int} {tp : List D} {I U : List D} {o2' o4 o9 o10 o13 : Option D} (hI : ids.map tI = I) (hU : ids.map tI = U) (T : Tp n tp) (hn : n < 70000)
    (ha : One 80 a A) (hb : One 80 b B) (hc : One 80 c C) (hd : One 80 d G) (he : One 80 e E) (hf : One 80 f F) (l : Sl A B C G) (l5 : E.2 = 0) (l6 : F.2 = 0)
    (ha' : One 80 a' A') (hb' : One 80 b' B') (hc' : One 80 c' C') (hd' : One 80 d' G') (he' : One 80 e' E') (hf' : One 80 f' F') (l' : Sl A' B' C' G')
    (hp : One 80 p P) (hq : One 80 q Q) (hx : One 80 x X) (hX : X.2 ≠ 0) (hy : One 80 y Y) (hY : Y.2 ≠ 0) (hz : One 80 z Z) (zs : Z.2 = 0) (hw : One 80 w W) (ws : W.2 = 0) :
    Wp (restI (.tup I) [some (.klst (ns.map D.int)), some (.own tp), o2', some (mI [a, b, c, d, e, f]), o4, some (mI [a', b', c', d', e', f']), some (.tup [tI p, tI q]), some (tI x), some (tI y), o9, o10, some (mI [a, b, z, w, x, y]), some (.lst U), o13]) fun f _ => f = .rt (.bl true) := by
  have mM : Mx 80 80 [a, b, c, d, e, f] A B C G E F := ⟨_, _, _, _, _, _, rfl, ha, hb, hc, hd, he, hf⟩
  have mN : Mx 80 80 [a', b', c', d', e', f'] A' B' C' G' E' F' := ⟨_, _, _, _, _, _, rfl, ha', hb', hc', hd', he', hf'⟩
  have mS : Mx 80 80 [a, b, c, d, x, y] A B C G X Y := ⟨_, _, _, _, _, _, rfl, ha, hb, hc, hd, hx, hy⟩
  have mR : Mx 80 80 [a', b', c', d', y, x] A' B' C' G' Y X := ⟨_, _, _, _, _, _, rfl, ha', hb', hc', hd', hy, hx⟩
  have mF : Mx 80 80 [a, b, z, w, x, y] A B Z W X Y := ⟨_, _, _, _, _, _, rfl, ha, hb, hz, hw, hx, hy⟩
  have li : Sl (1, 0) o2 o2 (1, 0) := ⟨rfl, rfl, rfl, rfl⟩
  have aI := all_eq pw_id hI hU (by decide) (by decide) (by decide)
  have cI1 : Wp (F__law_composed [mI [a, b, c, d, e, f], .tup I, .tup [tI p, tI q]]) fun D _ => D = .bl true := by
    subst hI
    exact composed_ok mM mx_id hp hq l li
  have cI2 : Wp (F__law_composed [.tup I, mI [a', b', c', d', e', f'], .tup [tI p, tI q]]) fun D _ => D = .bl true := by
    subst hI
    exact composed_ok mx_id mN hp hq li l'
  have c1 := composed_ok mM mN hp hq l l'
  have b1 := lback_ok mM l hp hq
  have c2 := composed_ok mS mN hp hq l l'
  have b2 := lback_ok mS l hp hq
  have c3 := composed_ok mM mR hp hq l l'
  have b3 := lback_ok mR l' hp hq
  have b4 := lback_ok mF ⟨l.1, l.2.1, zs, ws⟩ hp hq
  have mv := movers_ok T (by omega) ha hb hc hd he hf l l5 l6 ha' hb' hc' hd' he' hf' l' hx hX hy hY
  have q1 : cutD [tI a, tI b, tI c, tI d, tI e, tI f] none (some 4) = [tI a, tI b, tI c, tI d] := rfl
  have q2 : cutD [tI a', tI b', tI c', tI d', tI e', tI f'] none (some 4) = [tI a', tI b', tI c', tI d'] := rfl
  clear hI hU mM mN mS mR mF li
  unfold restI
  simp -implicitDefEqProofs -dsimp
  refine (aI).imp ?_
  rintro _ _ rfl
  simp -implicitDefEqProofs -dsimp
  refine (cI1).imp ?_
  rintro _ _ rfl
  simp -implicitDefEqProofs -dsimp
  refine (cI2).imp ?_
  rintro _ _ rfl
  simp -implicitDefEqProofs -dsimp
  refine (c1).imp ?_
  rintro _ _ rfl
  simp -implicitDefEqProofs -dsimp
  refine (b1).imp ?_
  rintro _ _ rfl
  simp -implicitDefEqProofs -dsimp
  simp -implicitDefEqProofs -dsimp [q1, q2]
  refine (c2).imp ?_
  rintro _ _ rfl
  simp -implicitDefEqProofs -dsimp
  refine (b2).imp ?_
  rintro _ _ rfl
  simp -implicitDefEqProofs -dsimp
  simp -implicitDefEqProofs -dsimp [q1, q2]
  refine (c3).imp ?_
  rintro _ _ rfl
  simp -implicitDefEqProofs -dsimp
  refine (b3).imp ?_
  rintro _ _ rfl
  simp -implicitDefEqProofs -dsimp
  refine (b4).imp ?_
  rintro _ _ rfl
  simp -implicitDefEqProofs -dsimp
  refine mv.imp ?_
  rintro _ outs ⟨rfl, tp1, ho, T1⟩
  simp -implicitDefEqProofs -dsimp [putO_one ho]
  refine (dets_ok T1 (by omega) ha hb hc hd he hf l hx hX hy hY).imp ?_
  rintro _ outs ⟨rfl, tp2, ho2, T2⟩
  simp -implicitDefEqProofs -dsimp [putO_one ho2]
  refine (c1).imp ?_
  rintro _ _ rfl
  simp -implicitDefEqProofs -dsimp
  refine (b1).imp ?_
  rintro _ _ rfl
  simp -implicitDefEqProofs -dsimp
end
end K02
end

section
set_option maxRecDepth 100000
set_option maxHeartbeats 8000000
namespace K02
open PySem L2 DL
theorem bk {xs : List D} {e : DL.Env} : borOk [.klst xs] e = true := by cases e <;> rfl
theorem still_of {n : Nat} {t : List Int} {X : V2} (h : One n t X) (z : X.2 = 0) : ∃ p r, t = [p, 0, r] ∧ 1 ≤ r ∧ Bd n p ∧ Bd n r := by
  obtain ⟨p, r, e, h⟩ := h.still z
  obtain ⟨p', q', r', e', h1, h2, h3, h4, h5, h6, h7⟩ := h
  cases e'
  exact ⟨p, r, e, h1, h5, h7⟩
theorem plain (ns : List Int) (hl : ns.length ≤ 63) : ∃ outs, F_law [.klst (ns.map D.int)] = .ok (.bl true) outs := by
  suffices h : Wp (F_law [.klst (ns.map D.int)]) fun d _ => d = .bl true by
    obtain ⟨a, e, h1, h2⟩ := h.get
    exact ⟨e, by rw [h1, h2]⟩
  obtain ⟨I, eI, hI⟩ : ∃ I : List D, c_IDENTITY = .tup I ∧ ids.map tI = I := ⟨_, rfl, rfl⟩
  unfold F_law b_law
  rw [eI]
  clear eI
  first | rw [wp_runP] | rw [wp_runF]
  simp -implicitDefEqProofs -dsimp [-wp_seq]
  (first | rw [wp_seq] | (show Wq noE _ _; rw [wp_seq]))
  simp -implicitDefEqProofs -dsimp [-wp_seq]
  refine (row_ok hl).imp ?_
  rintro _ _ ⟨row, rfl, hr⟩
  simp -implicitDefEqProofs -dsimp [-wp_seq]
  have T0 : Tp 0 [lI row, .int 0] := ⟨row, 0, rfl, by decide, hr⟩
  (first | rw [wp_seq] | (show Wq noE _ _; rw [wp_seq]))
  simp -implicitDefEqProofs -dsimp [-wp_seq]
  refine (next_ok T0 (by decide) (by decide)).imp ?_
  rintro _ outs ⟨⟨g', rfl, g1, g2⟩, tp1, ho, T1⟩
  simp -implicitDefEqProofs -dsimp [putO_one ho, -wp_seq]
  generalize (if g' = 5 then (1 : Int) else 0) = g
  (first | rw [wp_seq] | (show Wq noE _ _; rw [wp_seq]))
  simp -implicitDefEqProofs -dsimp [rg6, -wp_seq]
  refine (entry_ok T1 (by decide)).imp ?_
  rintro _ outs ⟨⟨a, A, rfl, ha, la⟩, tp2, ho, T2⟩
  simp -implicitDefEqProofs -dsimp [putO_one ho, -wp_seq]
  refine (entry_ok T2 (by decide)).imp ?_
  rintro _ outs ⟨⟨b, B, rfl, hb, lb⟩, tp3, ho, T3⟩
  simp -implicitDefEqProofs -dsimp [putO_one ho, -wp_seq]
  refine (entry_ok T3 (by decide)).imp ?_
  rintro _ outs ⟨⟨c, C, rfl, hc, lc⟩, tp4, ho, T4⟩
  simp -implicitDefEqProofs -dsimp [putO_one ho, -wp_seq]
  refine (entry_ok T4 (by decide)).imp ?_
  rintro _ outs ⟨⟨d, G, rfl, hd, ld⟩, tp5, ho, T5⟩
  simp -implicitDefEqProofs -dsimp [putO_one ho, -wp_seq]
  refine (entry_ok T5 (by decide)).imp ?_
  rintro _ outs ⟨⟨e, E, rfl, he, le⟩, tp6, ho, T6⟩
  simp -implicitDefEqProofs -dsimp [putO_one ho, -wp_seq]
  refine (entry_ok T6 (by decide)).imp ?_
  rintro _ outs ⟨⟨f, F, rfl, hf, lf⟩, tp7, ho, T7⟩
  simp -implicitDefEqProofs -dsimp [putO_one ho, -wp_seq]
  (first | rw [wp_seq] | (show Wq noE _ _; rw [wp_seq]))
  simp -implicitDefEqProofs -dsimp [rg6, -wp_seq]
  refine (entry_ok T7 (by decide)).imp ?_
  rintro _ outs ⟨⟨a', A', rfl, ha', la'⟩, tp8, ho, T8⟩
  simp -implicitDefEqProofs -dsimp [putO_one ho, -wp_seq]
  refine (entry_ok T8 (by decide)).imp ?_
  rintro _ outs ⟨⟨b', B', rfl, hb', lb'⟩, tp9, ho, T9⟩
  simp -implicitDefEqProofs -dsimp [putO_one ho, -wp_seq]
  refine (entry_ok T9 (by decide)).imp ?_
  rintro _ outs ⟨⟨c', C', rfl, hc', lc'⟩, tp10, ho, T10⟩
  simp -implicitDefEqProofs -dsimp [putO_one ho, -wp_seq]
  refine (entry_ok T10 (by decide)).imp ?_
  rintro _ outs ⟨⟨d', G', rfl, hd', ld'⟩, tp11, ho, T11⟩
  simp -implicitDefEqProofs -dsimp [putO_one ho, -wp_seq]
  refine (entry_ok T11 (by decide)).imp ?_
  rintro _ outs ⟨⟨e', E', rfl, he', le'⟩, tp12, ho, T12⟩
  simp -implicitDefEqProofs -dsimp [putO_one ho, -wp_seq]
  refine (entry_ok T12 (by decide)).imp ?_
  rintro _ outs ⟨⟨f', F', rfl, hf', lf'⟩, tp13, ho, T13⟩
  simp -implicitDefEqProofs -dsimp [putO_one ho, -wp_seq]
  (first | rw [wp_seq] | (show Wq noE _ _; rw [wp_seq]))
  simp -implicitDefEqProofs -dsimp [-wp_seq]
  refine (corner_ok T13 (by decide)).imp ?_
  rintro _ outs ⟨⟨p, q, P, Q, rfl, hp, hq⟩, tp14, ho, T14⟩
  simp -implicitDefEqProofs -dsimp [putO_one ho, -wp_seq]
  (first | rw [wp_seq] | (show Wq noE _ _; rw [wp_seq]))
  simp -implicitDefEqProofs -dsimp [-wp_seq]
  refine (mover_ok T14 (by decide)).imp ?_
  rintro _ outs ⟨⟨x, X, rfl, hx, hX⟩, tp15, ho, T15⟩
  simp -implicitDefEqProofs -dsimp [putO_one ho, -wp_seq]
  (first | rw [wp_seq] | (show Wq noE _ _; rw [wp_seq]))
  simp -implicitDefEqProofs -dsimp [-wp_seq]
  refine (mover_ok T15 (by decide)).imp ?_
  rintro _ outs ⟨⟨y, Y, rfl, hy, hY⟩, tp16, ho, T16⟩
  simp -implicitDefEqProofs -dsimp [putO_one ho, -wp_seq]
  (first | rw [wp_seq] | (show Wq noE _ _; rw [wp_seq]))
  simp -implicitDefEqProofs -dsimp [-wp_seq]
  refine (next_ok T16 (by decide) (by decide)).imp ?_
  rintro _ outs ⟨⟨k, rfl, k1, k2⟩, tp17, ho, T17⟩
  simp -implicitDefEqProofs -dsimp [putO_one ho, -wp_seq]
  have bk2 : Bd 3 (k - 2) := Nat.lt_of_lt_of_le (show (k - 2).natAbs < 8 by omega) (by decide)
  generalize k - 2 = K at bk2
  clear T0 T1 T2 T3 T4 T5 T6 T7 T8 T9 T10 T11 T12 T13 T14 T15 T16
  obtain ⟨a0, a2, rfl, ra, ba, bra⟩ := still_of ha la
  obtain ⟨b0, b2, rfl, rb, bb, brb⟩ := still_of hb lb
  (first | rw [wp_seq] | (show Wq noE _ _; rw [wp_seq]))
  simp -implicitDefEqProofs -dsimp [-wp_seq]
  refine ⟨by (apply DL.MulOk.of; (case h => (repeat' first | assumption | apply Bd.mul | apply Bd.sub | apply Bd.add)); (case k => (repeat' first | assumption | apply Bd.mul | apply Bd.sub | apply Bd.add)); (case s => omega)), ?_⟩
  refine (form_ok (n := 80) ra (by (apply Bd.mono; (case h => (repeat' first | assumption | apply Bd.mul | apply Bd.sub | apply Bd.add)); (case k => omega))) Bd0 (bra.mono (by decide)) (by decide)).imp ?_
  rintro _ _ ⟨z, Z, rfl, hz, zs, _⟩
  simp -implicitDefEqProofs -dsimp [-wp_seq]
  (first | rw [wp_seq] | (show Wq noE _ _; rw [wp_seq]))
  simp -implicitDefEqProofs -dsimp [-wp_seq]
  refine ⟨by (apply DL.MulOk.of; (case h => (repeat' first | assumption | apply Bd.mul | apply Bd.sub | apply Bd.add)); (case k => (repeat' first | assumption | apply Bd.mul | apply Bd.sub | apply Bd.add)); (case s => omega)), ?_⟩
  refine (form_ok (n := 80) rb (by (apply Bd.mono; (case h => (repeat' first | assumption | apply Bd.mul | apply Bd.sub | apply Bd.add)); (case k => omega))) Bd0 (brb.mono (by decide)) (by decide)).imp ?_
  rintro _ _ ⟨w, W, rfl, hw, ws, _⟩
  simp -implicitDefEqProofs -dsimp [-wp_seq]
  (first | rw [wp_seq] | (show Wq noE _ _; rw [wp_seq]))
  simp -implicitDefEqProofs -dsimp [-wp_seq]
  have m80 : ∀ {t : List Int} {X : V2}, One 76 t X → One 80 t X := fun h => h.mono (by decide)
  have hh := half (ns := ns) (o2' := some (.int g)) (o4 := none) (o9 := some (.int K)) (o10 := some (tI z)) (o13 := none) (I := I) (U := ids.map tI) hI rfl T17 (by decide) (m80 ha) (m80 hb) (m80 hc) (m80 hd) (m80 he) (m80 hf) ⟨la, lb, lc, ld⟩ le lf (m80 ha') (m80 hb') (m80 hc') (m80 hd') (m80 he') (m80 hf') ⟨la', lb', lc', ld'⟩ hp hq hx hX hy hY hz (zs.mpr rfl) hw (ws.mpr rfl)
  refine Wp.imp hh ?_
  rintro _ _ rfl
  simp -implicitDefEqProofs -dsimp [bk]
end K02
end

theorem PySem.Challenge.cw_printstacks_k02_matrices_lead_and_come_b_holds : PySem.Challenge.rw_printstacks_k02_matrices_lead_and_come_b.Holds := by
  exact K02.hold K02.plain
