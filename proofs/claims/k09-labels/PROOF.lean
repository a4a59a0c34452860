import PyProof.Rows.All
import HandS.ForMost
import HandS.Evl
import HandS.Exc
import HandS.ExcOwn
import HandS.TryOnly
import HandS.Wide
import HandS.IsInst
import HandS.Style
import HandS.WordsExc
import HandS.Gcd
import HandS.Defaults
import HandS.HeadHook2
import HandS.Head2
import HandS.HeadEnd
import HandS.Head3
import PySem.Challenge.RW_printstacks_k09_labels_one_behind_anothe
set_option Elab.async false
set_option linter.all false
section
set_option maxRecDepth 100000
set_option maxHeartbeats 2000000
/-! A data layer over HandS: values as plain data, a body as a function on environments. -/
namespace DL
open PySem L2
open Evl (Ex)

/-- plain data: shared things, an owned list (own), a borrowed one (bor), an alias of a slot's own object (al) -/
inductive D where
  | non | bl (b : Bool) | int (i : Int) | str (s : Str) | ty (n : String) | ref (a : Addr)
  | tup (xs : List D) | lst (xs : List D) | klst (xs : List D) | own (xs : List D) | bor (xs : List D) | al (i : Nat)

abbrev Env := List (Option D)
structure Exn where
  cls : Addr
  fs : List (Str × D)
inductive Rs (α : Type) where
  | ok (a : α) (e : Env)
  | ex (x : Exn) (e : Env)
  | no
abbrev M (α : Type) := Env → Rs α
def Rs.bind {α β : Type} (r : Rs α) (f : α → M β) : Rs β := match r with
  | .ok a e => f a e
  | .ex x e => .ex x e
  | .no => .no

mutual
inductive Sh (K : PySem.W.Frag) (B : Hp) : D → V → Prop
  | non : Sh K B .non .non
  | bl (b : Bool) : Sh K B (.bl b) (.bl b)
  | int (i : Int) : Sh K B (.int i) (.int i)
  | str (s : Str) : Sh K B (.str s) (.str s)
  | ty (n : String) : Sh K B (.ty n) (.ty n)
  | ref (a : Addr) : Sh K B (.ref a) (.ref a)
  | tup {a : Addr} {vs : List V} {ds : List D} (h : SqT K B a vs) (r : Shs K B ds vs) : Sh K B (.tup ds) (.ref a)
  | lst {a : Addr} {vs : List V} {ds : List D} (h : B a = some (.lst vs)) (r : Shs K B ds vs) : Sh K B (.lst ds) (.ref a)
  | klst {a : Addr} {vs : List V} {ds : List D} (h : SqL K B a vs) (r : Shs K B ds vs) : Sh K B (.klst ds) (.ref a)
inductive Shs (K : PySem.W.Frag) (B : Hp) : List D → List V → Prop
  | nil : Shs K B [] []
  | cons {d : D} {v : V} {ds : List D} {vs : List V} (h : Sh K B d v) (r : Shs K B ds vs) : Shs K B (d :: ds) (v :: vs)
end

mutual
inductive Ow (K : PySem.W.Frag) (B H : Hp) : D → V → List Addr → Prop
  | sh {d : D} {v : V} (h : Sh K B d v) : Ow K B H d v []
  | own {a : Addr} {vs : List V} {ds : List D} {F : List Addr} (h : H a = some (.lst vs)) (n : B a = none) (r : Ows K B H ds vs F) : Ow K B H (.own ds) (.ref a) (a :: F)
  | bor {a : Addr} {vs : List V} {ds : List D} {F : List Addr} (h : H a = some (.lst vs)) (n : B a = none) (r : Ows K B H ds vs F) : Ow K B H (.bor ds) (.ref a) (a :: F)
inductive Ows (K : PySem.W.Frag) (B H : Hp) : List D → List V → List Addr → Prop
  | nil : Ows K B H [] [] []
  | cons {d : D} {v : V} {ds : List D} {vs : List V} {F G FG : List Addr} (h : Ow K B H d v F) (r : Ows K B H ds vs G) (e : FG = F ++ G) : Ows K B H (d :: ds) (v :: vs) FG
end

section
variable {K : PySem.W.Frag} {B B' H H' : Hp}
mutual
theorem Sh.mono (e : Ex B B') : ∀ {d : D} {v : V}, Sh K B d v → Sh K B' d v
  | _, _, .non => .non
  | _, _, .bl b => .bl b
  | _, _, .int i => .int i
  | _, _, .str s => .str s
  | _, _, .ty n => .ty n
  | _, _, .ref a => .ref a
  | _, _, .tup h r => .tup (Evl.ex_t e h) (Shs.mono e r)
  | _, _, .lst h r => .lst (e _ _ h) (Shs.mono e r)
  | _, _, .klst h r => .klst (Evl.ex_l e h) (Shs.mono e r)
theorem Shs.mono (e : Ex B B') : ∀ {ds : List D} {vs : List V}, Shs K B ds vs → Shs K B' ds vs
  | _, _, .nil => .nil
  | _, _, .cons h r => .cons (Sh.mono e h) (Shs.mono e r)
end
mutual
theorem Ow.mono (e : Ex B B') : ∀ {d : D} {v : V} {F : List Addr}, Ow K B H d v F → (∀ a ∈ F, B' a = none) → (∀ a ∈ F, ∀ o, H a = some o → H' a = some o) → Ow K B' H' d v F
  | _, _, _, .sh h, _, _ => .sh (h.mono e)
  | _, _, _, .own h n r, hb, hh => .own (hh _ List.mem_cons_self _ h) (hb _ List.mem_cons_self) (Ows.mono e r (fun a m => hb a (List.mem_cons_of_mem _ m)) fun a m => hh a (List.mem_cons_of_mem _ m))
  | _, _, _, .bor h n r, hb, hh => .bor (hh _ List.mem_cons_self _ h) (hb _ List.mem_cons_self) (Ows.mono e r (fun a m => hb a (List.mem_cons_of_mem _ m)) fun a m => hh a (List.mem_cons_of_mem _ m))
theorem Ows.mono (e : Ex B B') : ∀ {ds : List D} {vs : List V} {F : List Addr}, Ows K B H ds vs F → (∀ a ∈ F, B' a = none) → (∀ a ∈ F, ∀ o, H a = some o → H' a = some o) → Ows K B' H' ds vs F
  | _, _, _, .nil, _, _ => .nil
  | _, _, _, .cons h r q, hb, hh => by
    subst q
    exact .cons (Ow.mono e h (fun a m => hb a (List.mem_append_left _ m)) fun a m => hh a (List.mem_append_left _ m)) (Ows.mono e r (fun a m => hb a (List.mem_append_right _ m)) fun a m => hh a (List.mem_append_right _ m)) rfl
end
mutual
/-- what is owned is not shared, and stands -/
theorem Ow.free : ∀ {d : D} {v : V} {F : List Addr}, Ow K B H d v F → ∀ a ∈ F, B a = none ∧ H a ≠ none
  | _, _, _, .sh h, _, m => nomatch m
  | _, _, _, .own h n r, a, m => by
    rcases List.mem_cons.mp m with e | m
    · subst e
      exact ⟨n, by rw [h]; exact fun z => nomatch z⟩
    · exact Ows.free r a m
  | _, _, _, .bor h n r, a, m => by
    rcases List.mem_cons.mp m with e | m
    · subst e
      exact ⟨n, by rw [h]; exact fun z => nomatch z⟩
    · exact Ows.free r a m
theorem Ows.free : ∀ {ds : List D} {vs : List V} {F : List Addr}, Ows K B H ds vs F → ∀ a ∈ F, B a = none ∧ H a ≠ none
  | _, _, _, .nil, _, m => nomatch m
  | _, _, _, .cons h r q, a, m => by
    subst q
    rcases List.mem_append.mp m with m | m
    · exact Ow.free h a m
    · exact Ows.free r a m
end
theorem Ow.inv {d : D} {v : V} {F : List Addr} (h : Ow K B H d v F) : match d with
    | .own ds => ∃ a vs G, v = .ref a ∧ F = a :: G ∧ H a = some (.lst vs) ∧ B a = none ∧ Ows K B H ds vs G
    | .bor ds => ∃ a vs G, v = .ref a ∧ F = a :: G ∧ H a = some (.lst vs) ∧ B a = none ∧ Ows K B H ds vs G
    | d => Sh K B d v ∧ F = [] := by
  cases h with
  | own h n r => exact ⟨_, _, _, rfl, rfl, h, n, r⟩
  | bor h n r => exact ⟨_, _, _, rfl, rfl, h, n, r⟩
  | sh h => cases d <;> first | exact ⟨h, rfl⟩ | cases h
theorem Shs.length : ∀ {ds : List D} {vs : List V}, Shs K B ds vs → ds.length = vs.length
  | _, _, .nil => rfl
  | _, _, .cons _ r => congrArg Nat.succ (Shs.length r)
theorem Shs.get : ∀ {ds : List D} {vs : List V} {i : Nat} {d : D}, Shs K B ds vs → ds[i]? = some d → ∃ v, vs[i]? = some v ∧ Sh K B d v
  | _, _, _, _, .nil, e => by simp at e
  | _, _, 0, _, .cons h _, e => by simp at e; subst e; exact ⟨_, rfl, h⟩
  | _, _, i + 1, _, .cons _ r, e => by
    obtain ⟨v, h1, h2⟩ := Shs.get (i := i) r (by simpa using e)
    exact ⟨v, by simpa using h1, h2⟩
theorem Shs.append : ∀ {ds es : List D} {vs us : List V}, Shs K B ds vs → Shs K B es us → Shs K B (ds ++ es) (vs ++ us)
  | _, _, _, _, .nil, s => s
  | _, _, _, _, .cons h r, s => .cons h (Shs.append r s)
theorem Shs.take : ∀ {ds : List D} {vs : List V} (n : Nat), Shs K B ds vs → Shs K B (ds.take n) (vs.take n)
  | _, _, 0, _ => .nil
  | _, _, _ + 1, .nil => .nil
  | _, _, n + 1, .cons r t => .cons r (Shs.take n t)
theorem Shs.drop : ∀ {ds : List D} {vs : List V} (n : Nat), Shs K B ds vs → Shs K B (ds.drop n) (vs.drop n)
  | _, _, 0, r => r
  | _, _, _ + 1, .nil => .nil
  | _, _, n + 1, .cons _ t => Shs.drop n t
theorem Ows.length : ∀ {ds : List D} {vs : List V} {F : List Addr}, Ows K B H ds vs F → ds.length = vs.length
  | _, _, _, .nil => rfl
  | _, _, _, .cons _ r _ => congrArg Nat.succ (Ows.length r)
theorem Shs.ows : ∀ {ds : List D} {vs : List V}, Shs K B ds vs → Ows K B H ds vs []
  | _, _, .nil => .nil
  | _, _, .cons h r => .cons (.sh h) (Shs.ows r) rfl
theorem Ows.append : ∀ {ds es : List D} {vs us : List V} {F G : List Addr}, Ows K B H ds vs F → Ows K B H es us G → Ows K B H (ds ++ es) (vs ++ us) (F ++ G)
  | _, _, _, _, _, _, .nil, s => s
  | _, _, _, _, _, _, .cons h r q, s => .cons h (Ows.append r s) (by rw [q, List.append_assoc])
end

/-! ### the state of a body -/
/-- a def's entry: the arguments, what was shared, the heap, what was lent with each argument -/
structure Ctx where
  vs : List V
  B0 : Hp
  H0 : Hp
  fp0 : Nat → List Addr
def Ctx.lent (c : Ctx) (a : Addr) : Prop := ∃ i, a ∈ c.fp0 i
/-- what a slot's root says of what it owns -/
def Cond (c : Ctx) (i : Nat) (d : D) (v : V) (F : List Addr) : Prop := match d with
  | .bor _ => c.vs[i]? = some v ∧ ∀ a ∈ F, a ∈ c.fp0 i ∨ c.H0 a = none
  | _ => ∀ a ∈ F, c.H0 a = none
def SlotOk (K : PySem.W.Frag) (c : Ctx) (B H : Hp) (σ : L2.St) (i : Nat) (d : D) (F : List Addr) : Prop := ∃ v, σ[i]? = some (some v) ∧ Ow K B H d v F ∧ Cond c i d v F
structure StOk (K : PySem.W.Frag) (c : Ctx) (T : List (Addr × HO)) (B H : Hp) (σ : L2.St) (e : Env) : Prop where
  len : e.length = σ.length
  slots : ∃ fp : Nat → List Addr, (∀ i d, e[i]? = some (some d) → SlotOk K c B H σ i d (fp i)) ∧ (∀ i, (∀ d, e[i]? ≠ some (some d)) → fp i = []) ∧ (∀ i, (fp i).Nodup) ∧ (∀ i j a, i ≠ j → a ∈ fp i → a ∉ fp j) ∧ ∀ q ∈ T, ∀ i, q.1 ∉ fp i
  tmp : ∀ q ∈ T, c.H0 q.1 = none ∧ H q.1 = some q.2 ∧ B q.1 = none
  tnd : (T.map (·.1)).Nodup
  bh : Ex B H
  b0 : Ex c.B0 B
  keep : ∀ a o, ¬ c.lent a → c.H0 a = some o → H a = some o
  there : ∀ a, c.H0 a ≠ none → H a ≠ none
  old : ∀ a, c.H0 a ≠ none → c.B0 a = none → B a = none

theorem StOk.tmp_ne {K : PySem.W.Frag} {c : Ctx} {T : List (Addr × HO)} {B H : Hp} {σ : L2.St} {e : Env} {p : Addr} {o : HO} (s : StOk K c ((p, o) :: T) B H σ e) : ∀ q ∈ T, q.1 ≠ p := fun q m z => by
  have h := (List.nodup_cons.mp s.tnd).1
  exact h (List.mem_map.mpr ⟨q, m, z⟩)
/-- a value handed on: shared, or the very object of a slot -/
def RT (K : PySem.W.Frag) (B : Hp) (σ : L2.St) (d : D) (v : V) : Prop := match d with
  | .al i => σ[i]? = some (some v)
  | d => Sh K B d v
theorem RT.of {K : PySem.W.Frag} {B : Hp} {σ : L2.St} {d : D} {v : V} (h : Sh K B d v) : RT K B σ d v := by
  cases d <;> first | exact h | cases h
theorem RT.mono {K : PySem.W.Frag} {B B' : Hp} {σ : L2.St} {d : D} {v : V} (e : Ex B B') (h : RT K B σ d v) : RT K B' σ d v := by
  cases d <;> first | exact h | exact Sh.mono e h
/-- an exception's class, its own dict -/
def RX (K : PySem.W.Frag) (B : Hp) (x : Exn) (cls : Value) (dd : Option Addr) : Prop := cls = .ref x.cls ∧
  ((x.fs = [] ∧ dd = none) ∨ ∃ p fs, dd = some p ∧ B p = some (.xd fs) ∧ fs.map (·.1) = x.fs.map (·.1) ∧ Shs K B (x.fs.map (·.2)) (fs.map (·.2)))

/-- how a computation ends -/
def Pst (K : PySem.W.Frag) (c : Ctx) (T : List (Addr × HO)) (W : WX) (σ : L2.St) (B : Hp) {α : Type} (r : Rs α) (k : α → Env → Hp → Hp → Prop) : Prop := match r with
  | .ok a e' => ∀ B' H', Ex B B' → k a e' B' H'
  | .ex x e' => ∀ cls dd B' H', Ex B B' → StOk K c T B' H' σ e' → RX K B' x cls dd → W cls dd σ H'
  | .no => False
section
variable {K : PySem.W.Frag} {c : Ctx} {W : WX} {σ : L2.St} {T : List (Addr × HO)} {B B' : Hp} {α β : Type}
theorem Pst.imp {r : Rs α} {k k' : α → Env → Hp → Hp → Prop} (h : Pst K c T W σ B r k) (i : ∀ a e B' H', Ex B B' → k a e B' H' → k' a e B' H') : Pst K c T W σ B r k' := by
  cases r with
  | ok a e => exact fun B' H' x => i a e B' H' x (h B' H' x)
  | ex x e => exact h
  | no => exact h
theorem Pst.mono {r : Rs α} {k : α → Env → Hp → Hp → Prop} (e : Ex B B') (h : Pst K c T W σ B r k) : Pst K c T W σ B' r k := by
  cases r with
  | ok a e' => exact fun B2 H' x => h B2 H' (e.trans x)
  | ex x e' => exact fun cls dd B2 H' z => h cls dd B2 H' (e.trans z)
  | no => exact h
theorem Pst.bind {r : Rs α} {g : α → M β} {k : β → Env → Hp → Hp → Prop} (h : Pst K c T W σ B (r.bind g) k) : Pst K c T W σ B r (fun a e' B' _ => Pst K c T W σ B' (g a e') k) := by
  cases r with
  | ok a e => exact fun B' _ x => Pst.mono x h
  | ex x e => exact h
  | no => exact h
end
def lift (K : PySem.W.Frag) (c : Ctx) (W : WX) (f : M D) : TE := fun σ H Q => ∃ T B e, StOk K c T B H σ e ∧ Pst K c T W σ B (f e) fun d e' B' H' => StOk K c T B' H' σ e' → ∀ v, RT K B' σ d v → Q v H'
/-- argument lists -/
def RTs (K : PySem.W.Frag) (B : Hp) (σ : L2.St) : List D → List V → Prop
  | [], vs => vs = []
  | d :: ds, vs => ∃ v us, vs = v :: us ∧ RT K B σ d v ∧ RTs K B σ ds us
def liftA (K : PySem.W.Frag) (c : Ctx) (W : WX) (f : M (List D)) : TA := fun σ H Q => ∃ T B e, StOk K c T B H σ e ∧ Pst K c T W σ B (f e) fun ds e' B' H' => StOk K c T B' H' σ e' → ∀ vs, RTs K B' σ ds vs → Q vs H'
/-- a new list, owned by nobody yet -/
def liftF (K : PySem.W.Frag) (c : Ctx) (W : WX) (f : M (List D)) : TE := fun σ H Q => ∃ T B e, StOk K c T B H σ e ∧ Pst K c T W σ B (f e) fun ds e' B' H' => ∀ p vs, StOk K c ((p, .lst vs) :: T) B' H' σ e' → Shs K B' ds vs → Q (.ref p) H'
/-- a test -/
def liftT (K : PySem.W.Frag) (c : Ctx) (W : WX) (f : M Bool) : TT := fun σ H Q => ∃ T B e, StOk K c T B H σ e ∧ Pst K c T W σ B (f e) fun b e' B' H' => StOk K c T B' H' σ e' → Q b H'
inductive Fl where
  | nx | bk | ct | rt (d : D)
def liftS (K : PySem.W.Frag) (c : Ctx) (W : WX) (f : M Fl) : TS := fun D' σ H => ∃ B e, StOk K c [] B H σ e ∧ match f e with
  | .ok .nx e' => ∀ σ' B' H', Ex B B' → StOk K c [] B' H' σ' e' → D'.nx σ' H'
  | .ok .bk e' => ∀ σ' B' H', Ex B B' → StOk K c [] B' H' σ' e' → D'.bk σ' H'
  | .ok .ct e' => ∀ σ' B' H', Ex B B' → StOk K c [] B' H' σ' e' → D'.ct σ' H'
  | .ok (.rt d) e' => ∀ v σ' B' H', Ex B B' → StOk K c [] B' H' σ' e' → Sh K B' d v → D'.rt v H'
  | .ex x e' => ∀ cls dd σ' B' H', Ex B B' → StOk K c [] B' H' σ' e' → RX K B' x cls dd → W cls dd σ' H'
  | .no => False

/-! ### combinators -/
def mret {α : Type} (a : α) : M α := fun e => .ok a e
def mbind {α β : Type} (f : M α) (g : α → M β) : M β := fun e => (f e).bind g
def mopt {α : Type} (o : Option α) : M α := fun e => match o with
  | some a => .ok a e
  | none => .no
/-- an alias seen through -/
def rs (e : Env) (d : D) : D := match d with
  | .al i => (match e[i]? with
    | some (some (.own xs)) => .own xs
    | some (some (.bor xs)) => .bor xs
    | _ => .al i)
  | d => d
/-- a name as it stands: a shared value, an alias of what the slot owns -/
def eVar (i : Nat) : M D := fun e => match e[i]? with
  | some (some (.own _)) => .ok (.al i) e
  | some (some (.bor _)) => .ok (.al i) e
  | some (some d) => .ok d e
  | _ => .no
def eC (d : D) : M D := mret d
def eBin (op : D → D → Option D) (fa fb : M D) : M D := mbind fa fun x => mbind fb fun y => fun e => mopt (op (rs e x) (rs e y)) e
def eUn (op : D → Option D) (fa : M D) : M D := mbind fa fun x => fun e => mopt (op (rs e x)) e

/-! ### the rules -/
theorem PE_of {X : Cx} {e : Expr} {t t' : TE} (h : PE X e t) (k : ∀ σ H Q, t' σ H Q → t σ H Q) : PE X e t' := ⟨fun pins s σ H Q I q => h.run pins s σ H Q I (k σ H Q q)⟩
theorem PT_of {X : Cx} {e : Expr} {t t' : TT} (h : PT X e t) (k : ∀ σ H Q, t' σ H Q → t σ H Q) : PT X e t' := ⟨fun pins s σ H Q I q => h.run pins s σ H Q I (k σ H Q q)⟩
theorem PA_of {X : Cx} {es : List Expr} {t t' : TA} (h : PA X es t) (k : ∀ σ H Q, t' σ H Q → t σ H Q) : PA X es t' := ⟨fun pos pins s σ H Q I q => h.run pos pins s σ H Q I (k σ H Q q)⟩
theorem PS_of {X : Cx} {st : Stmt} {t t' : TS} (h : PS X st t) (k : ∀ Dn σ H, t' Dn σ H → t Dn σ H) : PS X st t' := ⟨fun pins s σ H Dn I q => h.run pins s σ H Dn I (k Dn σ H q)⟩
theorem PSs_of {X : Cx} {st : List Stmt} {t t' : TS} (h : PSs X st t) (k : ∀ Dn σ H, t' Dn σ H → t Dn σ H) : PSs X st t' := ⟨fun pins s σ H Dn I q => h.run pins s σ H Dn I (k Dn σ H q)⟩

section
variable {X : Cx} {c : Ctx} {W : WX} {σ : L2.St} {B B' H H' : Hp} {e : Env}
/-- names -/
theorem de_var {x : Expr} {i : Nat} (h : PE X x (tVar i)) : PE X x (lift X.K c W (eVar i)) := by
  refine PE_of h fun σ H Q q => ?_
  obtain ⟨T, B, e, st, m⟩ := q
  obtain ⟨fp, s1, _⟩ := st.slots
  unfold eVar at m
  cases he : e[i]? with
  | none =>
    rw [he] at m
    exact m.elim
  | some o =>
    rw [he] at m
    cases o with
    | none => exact m.elim
    | some d =>
      obtain ⟨v, hv, ow, _⟩ := s1 i d he
      refine ⟨v, hv, ?_⟩
      have ow := ow.inv
      cases d with
      | own xs => exact m B H (Evl.Ex.refl B) st v hv
      | bor xs => exact m B H (Evl.Ex.refl B) st v hv
      | _ => exact m B H (Evl.Ex.refl B) st v (RT.of ow.1)
theorem de_c {x : Expr} {d : D} {v : V} (h : PE X x (tC v)) (r : ∀ B, Sh X.K B d v) : PE X x (lift X.K c W (eC d)) := by
  refine PE_of h fun σ H Q q => ?_
  obtain ⟨T, B, e, st, m⟩ := q
  exact m B H (Evl.Ex.refl B) st v (RT.of (r B))
end
end DL
end

section
set_option maxRecDepth 100000
set_option maxHeartbeats 2000000
namespace DL
open PySem L2
open Evl (Ex)

/-! ### new things -/
structure Grow (B H B' H' : Hp) : Prop where
  b : Ex B B'
  h : Ex H H'
  bh : Ex B' H'
  old : ∀ a, H a ≠ none → B' a = B a
theorem Grow.refl {B H : Hp} (e : Ex B H) : Grow B H B H := ⟨Evl.Ex.refl B, Evl.Ex.refl H, e, fun _ _ => rfl⟩
theorem Grow.trans {B H B1 H1 B2 H2 : Hp} (x : Grow B H B1 H1) (y : Grow B1 H1 B2 H2) : Grow B H B2 H2 :=
  ⟨x.b.trans y.b, x.h.trans y.h, y.bh, fun a n => (y.old a (fun z => by
    cases e : H a with
    | none => exact n e
    | some o =>
      rw [x.h a o e] at z
      cases z)).trans (x.old a n)⟩
theorem ex_none {H H' : Hp} (e : Ex H H') {a : Addr} (n : H a ≠ none) : H' a ≠ none := fun z => by
  cases q : H a with
  | none => exact n q
  | some o =>
    rw [e a o q] at z
    cases z
theorem none_ex {B H : Hp} (e : Ex B H) {a : Addr} (n : H a = none) : B a = none := by
  cases q : B a with
  | none => rfl
  | some o =>
    rw [e a o q] at n
    cases n
theorem Grow.new {B H : Hp} (e : Ex B H) {p : Addr} (o : HO) (n : H p = none) : Grow B H (upd B p o) (upd H p o) :=
  ⟨Evl.Ex.new (none_ex e n), Evl.Ex.new n, fun a u q => by
    by_cases h : a = p
    · subst h
      rw [upd_same] at q ⊢
      exact q
    · rw [upd_ne h] at q ⊢
      exact e a u q, fun a h => upd_ne fun z => h (z ▸ n)⟩
theorem Sh.grow {K : PySem.W.Frag} {B H B' H' : Hp} (g : Grow B H B' H') {d : D} {v : V} (h : Sh K B d v) : Sh K B' d v := h.mono g.b
theorem StOk.ex {K : PySem.W.Frag} {c : Ctx} {T : List (Addr × HO)} {B H : Hp} {σ : L2.St} {e : Env} (s : StOk K c T B H σ e) : Ex B H := s.bh
theorem StOk.grow {K : PySem.W.Frag} {c : Ctx} {T : List (Addr × HO)} {B H B' H' : Hp} {σ : L2.St} {e : Env} (s : StOk K c T B H σ e) (g : Grow B H B' H') : StOk K c T B' H' σ e where
  len := s.len
  slots := by
    obtain ⟨fp, h1, h2, h3, h4, h5⟩ := s.slots
    refine ⟨fp, fun i d hd => ?_, h2, h3, h4, h5⟩
    obtain ⟨v, hv, ow, cd⟩ := h1 i d hd
    exact ⟨v, hv, ow.mono g.b (fun a m => (g.old a (ow.free a m).2).trans (ow.free a m).1) (fun a m o q => g.h a o q), cd⟩
  tmp := fun q m => by
    obtain ⟨t1, t2, t3⟩ := s.tmp q m
    exact ⟨t1, g.h _ _ t2, (g.old _ (by rw [t2]; exact fun z => (nomatch z))).trans t3⟩
  tnd := s.tnd
  bh := g.bh
  b0 := s.b0.trans g.b
  keep := fun a o nl h => g.h a o (s.keep a o nl h)
  there := fun a n => ex_none g.h (s.there a n)
  old := fun a n z => (g.old a (s.there a n)).trans (s.old a n z)

/-! ### operands -/
def isSh : D → Bool
  | .own _ => false
  | .bor _ => false
  | .al _ => false
  | _ => true
/-- an operand as it stands: shared, or what its owner holds -/
def RS (K : PySem.W.Frag) (B H : Hp) (d : D) (v : V) : Prop := match d with
  | .al _ => True
  | .own ds => ∃ a vs G, v = .ref a ∧ H a = some (.lst vs) ∧ Ows K B H ds vs G
  | .bor ds => ∃ a vs G, v = .ref a ∧ H a = some (.lst vs) ∧ Ows K B H ds vs G
  | d => Sh K B d v
section
variable {K : PySem.W.Frag} {c : Ctx} {W : WX} {σ : L2.St} {B B' H H' : Hp} {e : Env} {T : List (Addr × HO)} {d : D} {v : V}
theorem RS.of (h : Sh K B d v) : RS K B H d v := by
  cases d <;> first | exact h | cases h
theorem rs_ok (st : StOk K c T B H σ e) (h : RT K B σ d v) : RS K B H (rs e d) v := by
  cases d with
  | al i =>
    obtain ⟨fp, h1, _⟩ := st.slots
    show RS K B H (match e[i]? with
      | some (some (.own xs)) => .own xs
      | some (some (.bor xs)) => .bor xs
      | _ => .al i) v
    cases he : e[i]? with
    | none => exact True.intro
    | some o => cases o with
      | none => exact True.intro
      | some d =>
        obtain ⟨u, hu, ow, _⟩ := h1 i d he
        have e2 : σ[i]? = some (some v) := h
        rw [hu] at e2
        have e3 : u = v := Option.some.inj (Option.some.inj e2)
        subst e3
        have ow := ow.inv
        cases d with
        | own xs =>
          obtain ⟨a, vs, G, q1, _, q2, _, q3⟩ := ow
          exact ⟨a, vs, G, q1, q2, q3⟩
        | bor xs =>
          obtain ⟨a, vs, G, q1, _, q2, _, q3⟩ := ow
          exact ⟨a, vs, G, q1, q2, q3⟩
        | _ => exact True.intro
  | _ => exact RS.of h
theorem Ows.shs : ∀ {ds : List D} {vs : List V} {G : List Addr}, Ows K B H ds vs G → ds.all isSh = true → Shs K B ds vs
  | _, _, _, .nil, _ => .nil
  | d :: ds, _, _, .cons h r q, a => by
    rw [List.all_cons, Bool.and_eq_true] at a
    have h2 := h.inv
    refine .cons ?_ (Ows.shs r a.2)
    cases d with
    | own _ => exact absurd a.1 Bool.false_ne_true
    | bor _ => exact absurd a.1 Bool.false_ne_true
    | _ => exact h2.1
end

/-! ### operations on two values -/
def OpD (K : PySem.W.Frag) (r : R2) (op : D → D → Option D) : Prop := ∀ (B H : Hp) (x y : D) (v u : V) (z : D) (Q : VK), Ex B H → RS K B H x v → RS K B H y u → op x y = some z →
  (∀ w B' H', Grow B H B' H' → Sh K B' z w → Q w H') → r v u H Q
section
variable {X : Cx} {c : Ctx} {W : WX} {a b : Expr} {fa fb : M D} {pos : Pos} {op : D → D → Option D} {r : R2}
theorem bin_conv (ok : OpD X.K r op) : ∀ σ H Q, lift X.K c W (eBin op fa fb) σ H Q → tOp r (lift X.K c W fa) (lift X.K c W fb) σ H Q := fun σ H Q q => by
  obtain ⟨T, B, e, st, m⟩ := q
  refine ⟨T, B, e, st, m.bind.imp fun x e1 B1 H1 x1 m1 st1 v rv => ?_⟩
  refine ⟨T, B1, e1, st1, m1.bind.imp fun y e2 B2 H2 x2 m2 st2 u ru => ?_⟩
  have m2 : Pst X.K c T W σ B2 (mopt (op (rs e2 x) (rs e2 y)) e2) _ := m2
  cases ho : op (rs e2 x) (rs e2 y) with
  | none =>
    rw [ho] at m2
    exact m2.elim
  | some z =>
    rw [ho] at m2
    exact ok B2 H2 _ _ v u z Q st2.ex (rs_ok st2 (rv.mono x2)) (rs_ok st2 ru) ho fun w B' H' g s => m2 B' H' g.b (st2.grow g) w (RT.of s)
theorem de_bin {o : Operator} (hr : OpR X (binaryOp o) r) (ok : OpD X.K r op) (ha : PE X a (lift X.K c W fa)) (hb : PE X b (lift X.K c W fb)) : PE X (.BinOp a o b pos) (lift X.K c W (eBin op fa fb)) :=
  PE_of (pe_op hr ha hb) (bin_conv ok)
theorem de_cmp {o : CmpOp} (hr : OpR X (compareOp o) r) (ok : OpD X.K r op) (ha : PE X a (lift X.K c W fa)) (hb : PE X b (lift X.K c W fb)) (hm : behindInMarks o b = false) : PE X (.Compare a [o] [b] pos) (lift X.K c W (eBin op fa fb)) :=
  PE_of (pe_cmpR hr ha hb hm) (bin_conv ok)
/-- a value as a test -/
def bOf : D → Option Bool
  | .bl b => some b
  | _ => none
def tOf (f : M D) : M Bool := mbind f fun d => mopt (bOf d)
theorem test_conv {f : M D} : ∀ σ H Q, liftT X.K c W (tOf f) σ H Q → tTest (lift X.K c W f) σ H Q := fun σ H Q q => by
  obtain ⟨T, B, e, st, m⟩ := q
  refine ⟨T, B, e, st, m.bind.imp fun d e1 B1 H1 x1 m1 st1 v rv => ?_⟩
  have m1 : Pst X.K c T W σ B1 (mopt (bOf d) e1) _ := m1
  cases d with
  | bl b =>
    cases rv
    exact ⟨b, rfl, m1 B1 H1 (Evl.Ex.refl _) st1⟩
  | _ => exact m1.elim
theorem dt_cmp {o : CmpOp} (hr : OpR X (compareOp o) r) (ok : OpD X.K r op) (ha : PE X a (lift X.K c W fa)) (hb : PE X b (lift X.K c W fb)) (hm : behindInMarks o b = false) : PT X (.Compare a [o] [b] pos) (liftT X.K c W (tOf (eBin op fa fb))) :=
  PT_of (pt_cmpR hr ha hb hm) fun σ H Q q => bin_conv ok σ H _ (test_conv σ H Q q)
theorem dt_val {x : Expr} {f : M D} (h : PE X x (lift X.K c W f)) (he : ∀ whole, isTrue x X.env whole = (do let v ← whole; standAt x.pos; holding [v] (truthy v)) := by intro _; rfl) : PT X x (liftT X.K c W (tOf f)) :=
  PT_of (pt_val h he) fun σ H Q q => test_conv σ H Q q
end

/-! #### ints -/
def dInt2 (f : Int → Int → Option D) : D → D → Option D
  | .int i, .int j => f i j
  | _, _ => none
theorem dInt2_some {f : Int → Int → Option D} {x y z : D} (h : dInt2 f x y = some z) : ∃ i j, x = .int i ∧ y = .int j ∧ f i j = some z := by
  cases x with
  | int i => cases y with
    | int j => exact ⟨i, j, rfl, rfl, h⟩
    | _ => cases h
  | _ => cases h
section
variable {K : PySem.W.Frag}
theorem ok_int0 {g : Int → Int → V} {f : Int → Int → D} (hg : ∀ i j B, Sh K B (f i j) (g i j)) : OpD K (rI0 g) (dInt2 fun i j => some (f i j)) := by
  intro B H x y v u z Q e rx ry ho k
  obtain ⟨i, j, rfl, rfl, q⟩ := dInt2_some ho
  cases q
  cases (show Sh K B (.int i) v from rx)
  cases (show Sh K B (.int j) u from ry)
  exact ⟨i, j, rfl, rfl, k _ B H (Grow.refl e) (hg i j B)⟩
theorem ok_intC {C : Int → Int → Prop} {g : Int → Int → V} {f : Int → Int → D} {P : Int → Int → Prop} [∀ i j, Decidable (P i j)] (hc : ∀ i j, P i j → C i j) (hg : ∀ i j B, Sh K B (f i j) (g i j)) : OpD K (rI C g) (dInt2 fun i j => if P i j then some (f i j) else none) := by
  intro B H x y v u z Q e rx ry ho k
  obtain ⟨i, j, rfl, rfl, q⟩ := dInt2_some ho
  cases (show Sh K B (.int i) v from rx)
  cases (show Sh K B (.int j) u from ry)
  by_cases h : P i j
  · rw [if_pos h] at q
    cases q
    exact ⟨i, j, rfl, rfl, hc i j h, k _ B H (Grow.refl e) (hg i j B)⟩
  · rw [if_neg h] at q
    cases q
end
/-- the operations on ints -/
abbrev dSub : D → D → Option D := dInt2 fun i j => some (.int (i - j))
abbrev dMulI : D → D → Option D := dInt2 fun i j => if i.natAbs.log2 + j.natAbs.log2 < 1000000 then some (.int (i * j)) else none
abbrev dDiv : D → D → Option D := dInt2 fun i j => if j ≠ 0 ∧ j.natAbs.log2 < 9000 then some (.int (i.fdiv j)) else none
abbrev dMod : D → D → Option D := dInt2 fun i j => if j ≠ 0 then some (.int (i.fmod j)) else none
abbrev dLt : D → D → Option D := dInt2 fun i j => some (.bl (decide (i < j)))
abbrev dLe : D → D → Option D := dInt2 fun i j => some (.bl (decide (i ≤ j)))
abbrev dGt : D → D → Option D := dInt2 fun i j => some (.bl (decide (j < i)))
abbrev dGe : D → D → Option D := dInt2 fun i j => some (.bl (decide (j ≤ i)))
def CDivA (i j : Int) : Prop := j ≠ 0 ∧ j.natAbs.log2 < 9000
theorem op_fdivA {X : Cx} : OpR X (binaryOp .FloorDiv) (rI CDivA fun i j => .int (i.fdiv j)) := opI fun _ _ _ _ _ _ _ hc q => PyProof.Rows.floordiv_int hc.1 q (.inl (PyProof.noPylong_of_log2 hc.2))
section
variable {K : PySem.W.Frag}
theorem ok_sub : OpD K (rI0 fun i j => .int (i - j)) dSub := ok_int0 fun _ _ _ => .int _
theorem ok_mulI : OpD K (rI CMulW fun i j => .int (i * j)) dMulI := ok_intC (fun _ _ h => h) fun _ _ _ => .int _
theorem ok_div : OpD K (rI CDivA fun i j => .int (i.fdiv j)) dDiv := ok_intC (fun _ _ h => h) fun _ _ _ => .int _
theorem ok_mod : OpD K (rI (fun _ j => j ≠ 0) fun i j => .int (i.fmod j)) dMod := ok_intC (fun _ _ h => h) fun _ _ _ => .int _
theorem ok_lt : OpD K (rI0 fun i j => .bl (decide (i < j))) dLt := ok_int0 fun _ _ _ => .bl _
theorem ok_le : OpD K (rI0 fun i j => .bl (decide (i ≤ j))) dLe := ok_int0 fun _ _ _ => .bl _
theorem ok_gt : OpD K (rI0 fun i j => .bl (decide (j < i))) dGt := ok_int0 fun _ _ _ => .bl _
theorem ok_ge : OpD K (rI0 fun i j => .bl (decide (j ≤ i))) dGe := ok_int0 fun _ _ _ => .bl _
end
end DL
end

section
set_option maxRecDepth 100000
set_option maxHeartbeats 2000000
namespace DL
open PySem L2
open Evl (Ex)

/-! #### sequences -/
/-- a list's items, the list one that can be joined | any sequence's items -/
def mls : D → Option (List D)
  | .lst xs => some xs
  | .own xs => if (xs.all isSh) = true then some xs else none
  | .bor xs => if (xs.all isSh) = true then some xs else none
  | _ => none
def lsq : D → Option (List D)
  | .lst xs => some xs
  | .klst xs => some xs
  | .own xs => if (xs.all isSh) = true then some xs else none
  | .bor xs => if (xs.all isSh) = true then some xs else none
  | _ => none
def tsq : D → Option (List D)
  | .tup xs => some xs
  | _ => none
section
variable {K : PySem.W.Frag} {B H : Hp} {d : D} {v : V} {xs : List D}
theorem mls_ok (e : Ex B H) (h : RS K B H d v) (m : mls d = some xs) : ∃ a vs, v = .ref a ∧ H a = some (.lst vs) ∧ Shs K B xs vs := by
  cases d with
  | lst ys =>
    cases (show some ys = some xs from m)
    cases (show Sh K B (.lst xs) v from h) with
    | lst h1 r => exact ⟨_, _, rfl, e _ _ h1, r⟩
  | own ys =>
    obtain ⟨a, vs, G, q1, q2, q3⟩ := h
    by_cases hs : (ys.all isSh) = true
    · rw [mls, if_pos hs] at m
      cases m
      exact ⟨a, vs, q1, q2, q3.shs hs⟩
    · rw [mls, if_neg hs] at m
      cases m
  | bor ys =>
    obtain ⟨a, vs, G, q1, q2, q3⟩ := h
    by_cases hs : (ys.all isSh) = true
    · rw [mls, if_pos hs] at m
      cases m
      exact ⟨a, vs, q1, q2, q3.shs hs⟩
    · rw [mls, if_neg hs] at m
      cases m
  | _ => cases m
theorem lsq_ok (e : Ex B H) (h : RS K B H d v) (m : lsq d = some xs) : ∃ a vs, v = .ref a ∧ SqL K H a vs ∧ Shs K B xs vs := by
  cases d with
  | lst ys =>
    obtain ⟨a, vs, q1, q2, q3⟩ := mls_ok e h (show mls (.lst ys) = some xs from m)
    exact ⟨a, vs, q1, SqL.of q2, q3⟩
  | klst ys =>
    cases (show some ys = some xs from m)
    cases (show Sh K B (.klst xs) v from h) with
    | klst h1 r => exact ⟨_, _, rfl, Evl.ex_l e h1, r⟩
  | own ys =>
    obtain ⟨a, vs, q1, q2, q3⟩ := mls_ok e h (show mls (.own ys) = some xs from m)
    exact ⟨a, vs, q1, SqL.of q2, q3⟩
  | bor ys =>
    obtain ⟨a, vs, q1, q2, q3⟩ := mls_ok e h (show mls (.bor ys) = some xs from m)
    exact ⟨a, vs, q1, SqL.of q2, q3⟩
  | _ => cases m
theorem tsq_ok (e : Ex B H) (h : RS K B H d v) (m : tsq d = some xs) : ∃ a vs, v = .ref a ∧ SqT K H a vs ∧ Shs K B xs vs := by
  cases d with
  | tup ys =>
    cases (show some ys = some xs from m)
    cases (show Sh K B (.tup xs) v from h) with
    | tup h1 r => exact ⟨_, _, rfl, Evl.ex_t e h1, r⟩
  | _ => cases m
theorem line_ok {n : Nat} (h : n ≤ 1000000) : n ≤ sizeLine := Nat.le_trans h (by decide)
end

/-! #### + -/
def dAddSeq (x y : D) : Option D := match x, y with
  | .tup xs, .tup ys => if xs ≠ [] ∧ xs.length + ys.length ≤ 1000000 then some (.tup (xs ++ ys)) else none
  | x, y => (mls x).bind fun xs => (mls y).bind fun ys => if xs.length + ys.length ≤ 1000000 then some (.lst (xs ++ ys)) else none
def dAdd (x y : D) : Option D := match x, y with
  | .int i, .int j => some (.int (i + j))
  | .str s, .str t => if s.length + t.length ≤ 1000000 then some (.str (s ++ t)) else none
  | x, y => dAddSeq x y
def rAddAll (K : PySem.W.Frag) : R2 := fun x y H Q =>
  rI0 (fun i j => .int (i + j)) x y H Q ∨ (∃ i j, x = .str i ∧ y = .str j ∧ i.length + j.length ≤ sizeLine ∧ Q (.str (i ++ j)) H) ∨ rCat x y H Q ∨ rCatT K x y H Q
theorem op_addAll {X : Cx} : OpR X (binaryOp .Add) (rAddAll X.K) := op_add.or (op_add_str.or (op_cat.or op_catT))
theorem ok_addSeq {K : PySem.W.Frag} {B H : Hp} {x y : D} {v u : V} {z : D} {Q : VK} (e : Ex B H) (rx : RS K B H x v) (ry : RS K B H y u) (ho : dAddSeq x y = some z)
    (k : ∀ w B' H', Grow B H B' H' → Sh K B' z w → Q w H') : rCat v u H Q ∨ rCatT K v u H Q := by
  have lists : ∀ x y, RS K B H x v → RS K B H y u → ((mls x).bind fun xs => (mls y).bind fun ys => if xs.length + ys.length ≤ 1000000 then some (D.lst (xs ++ ys)) else none) = some z → rCat v u H Q := fun x y rx ry ho => by
    cases hx : mls x with
    | none =>
      rw [hx] at ho
      cases ho
    | some xs => cases hy : mls y with
      | none =>
        rw [hx, hy] at ho
        cases ho
      | some ys =>
        rw [hx, hy] at ho
        have ho : (if xs.length + ys.length ≤ 1000000 then some (D.lst (xs ++ ys)) else none) = some z := ho
        by_cases hl : xs.length + ys.length ≤ 1000000
        · rw [if_pos hl] at ho
          cases ho
          obtain ⟨a, vs, rfl, h1, r1⟩ := mls_ok e rx hx
          obtain ⟨b, us, rfl, h2, r2⟩ := mls_ok e ry hy
          refine ⟨a, b, vs, us, rfl, rfl, h1, h2, by rw [← r1.length, ← r2.length]; exact line_ok hl, fun p hp => ?_⟩
          have g := Grow.new e (.lst (vs ++ us)) hp
          exact k _ _ _ g (.lst upd_same ((r1.append r2).mono g.b))
        · rw [if_neg hl] at ho
          cases ho
  unfold dAddSeq at ho
  split at ho
  · rename_i xs ys
    by_cases hl : xs ≠ [] ∧ xs.length + ys.length ≤ 1000000
    · rw [if_pos hl] at ho
      cases ho
      obtain ⟨a, vs, rfl, h1, r1⟩ := tsq_ok e rx (show tsq (.tup xs) = some xs from rfl)
      obtain ⟨b, us, rfl, h2, r2⟩ := tsq_ok e ry (show tsq (.tup ys) = some ys from rfl)
      refine .inr ⟨a, b, vs, us, rfl, rfl, h1, h2, fun z => hl.1 ?_, by rw [← r1.length, ← r2.length]; exact line_ok hl.2, ?_⟩
      · subst z
        cases r1
        rfl
      · refine ⟨fun z => ?_, fun z p hp => ?_⟩
        · subst z
          cases r2
          rw [List.append_nil] at k
          refine k _ B H (Grow.refl e) ?_
          exact (show Sh K B (.tup xs) (.ref a) from rx)
        · have g := Grow.new e (.tup (vs ++ us)) hp
          exact k _ _ _ g (.tup (SqT.of upd_same) ((r1.append r2).mono g.b))
    · rw [if_neg hl] at ho
      cases ho
  · exact .inl (lists _ _ rx ry ho)
theorem ok_add {K : PySem.W.Frag} : OpD K (rAddAll K) dAdd := by
  intro B H x y v u z Q e rx ry ho k
  unfold dAdd at ho
  split at ho
  · rename_i i j
    cases ho
    cases (show Sh K B (.int i) v from rx)
    cases (show Sh K B (.int j) u from ry)
    exact .inl ⟨i, j, rfl, rfl, k _ B H (Grow.refl e) (.int _)⟩
  · rename_i i j
    cases (show Sh K B (.str i) v from rx)
    cases (show Sh K B (.str j) u from ry)
    by_cases hl : i.length + j.length ≤ 1000000
    · rw [if_pos hl] at ho
      cases ho
      exact .inr (.inl ⟨i, j, rfl, rfl, line_ok hl, k _ B H (Grow.refl e) (.str _)⟩)
    · rw [if_neg hl] at ho
      cases ho
  · rcases ok_addSeq e rx ry ho k with h | h
    · exact .inr (.inr (.inl h))
    · exact .inr (.inr (.inr h))

/-! #### == -/
mutual
def toPy : D → Option PyData
  | .non => some .none
  | .bl b => some (.bool b)
  | .int i => some (.int i)
  | .str s => some (.str s)
  | .tup xs => (toPys xs).map .tuple
  | .lst xs => (toPys xs).map .list
  | .klst xs => (toPys xs).map .list
  | _ => none
def toPys : List D → Option (List PyData)
  | [] => some []
  | x :: xs => (toPy x).bind fun d => (toPys xs).map (d :: ·)
end
mutual
theorem toPy_ok {K : PySem.W.Frag} {B : Hp} : ∀ (d : D) (v : V) (p : PyData), Sh K B d v → toPy d = some p → Dp K B v p
  | .non, _, _, h, e => by cases h; cases e; exact .non
  | .bl b, _, _, h, e => by cases h; cases e; exact .bl b
  | .int i, _, _, h, e => by cases h; cases e; exact .int i
  | .str s, _, _, h, e => by cases h; cases e; exact .str s
  | .tup xs, _, p, h, e => by
    cases h with
    | tup h1 r =>
      cases q : toPys xs with
      | none =>
        rw [toPy, q] at e
        cases e
      | some ps =>
        rw [toPy, q] at e
        cases e
        exact .tup h1 (toPys_ok xs _ ps r q)
  | .lst xs, _, p, h, e => by
    cases h with
    | lst h1 r =>
      cases q : toPys xs with
      | none =>
        rw [toPy, q] at e
        cases e
      | some ps =>
        rw [toPy, q] at e
        cases e
        exact .lst (SqL.of h1) (toPys_ok xs _ ps r q)
  | .klst xs, _, p, h, e => by
    cases h with
    | klst h1 r =>
      cases q : toPys xs with
      | none =>
        rw [toPy, q] at e
        cases e
      | some ps =>
        rw [toPy, q] at e
        cases e
        exact .lst h1 (toPys_ok xs _ ps r q)
  | .ty _, _, _, _, e => by cases e
  | .ref _, _, _, _, e => by cases e
  | .own _, _, _, _, e => by cases e
  | .bor _, _, _, _, e => by cases e
  | .al _, _, _, _, e => by cases e
theorem toPys_ok {K : PySem.W.Frag} {B : Hp} : ∀ (ds : List D) (vs : List V) (ps : List PyData), Shs K B ds vs → toPys ds = some ps → DpAll K B vs ps
  | [], _, _, h, e => by cases h; cases e; exact .nil
  | d :: ds, _, ps, h, e => by
    cases h with
    | cons h1 r =>
      cases q1 : toPy d with
      | none =>
        rw [toPys, q1] at e
        cases e
      | some p => cases q2 : toPys ds with
        | none =>
          rw [toPys, q1, q2] at e
          cases e
        | some qs =>
          rw [toPys, q1, q2] at e
          cases e
          exact .cons (toPy_ok d _ p h1 q1) (toPys_ok ds _ qs r q2)
end
/-- the data of an operand -/
def pyOf (d : D) : Option PyData := match d with
  | .own xs => if (xs.all isSh) = true then toPy (.lst xs) else none
  | .bor xs => if (xs.all isSh) = true then toPy (.lst xs) else none
  | d => toPy d
theorem pyOf_ok {K : PySem.W.Frag} {B H : Hp} {d : D} {v : V} {p : PyData} (e : Ex B H) (h : RS K B H d v) (q : pyOf d = some p) : Dp K H v p := by
  have lst : ∀ (xs : List D) (a : Addr) (vs : List V), H a = some (.lst vs) → Shs K B xs vs → toPy (.lst xs) = some p → Dp K H (.ref a) p := fun xs a vs h1 r q =>
    toPy_ok (.lst xs) _ p (.lst h1 (r.mono e)) q
  cases d with
  | own xs =>
    obtain ⟨a, vs, G, rfl, h1, r⟩ := h
    by_cases hs : (xs.all isSh) = true
    · rw [pyOf, if_pos hs] at q
      exact lst xs a vs h1 (r.shs hs) q
    · rw [pyOf, if_neg hs] at q
      cases q
  | bor xs =>
    obtain ⟨a, vs, G, rfl, h1, r⟩ := h
    by_cases hs : (xs.all isSh) = true
    · rw [pyOf, if_pos hs] at q
      exact lst xs a vs h1 (r.shs hs) q
    · rw [pyOf, if_neg hs] at q
      cases q
  | al i => cases q
  | _ => exact toPy_ok _ _ _ (Sh.mono e h) q
def dEqG (x y : D) : Option Bool := (pyOf x).bind fun p => (pyOf y).bind fun q => if (SeqAt.shaped p && SeqAt.shaped q) = true then some (PyData.eqv p q) else none
/-- two scalars -/
def dEqS (x y : D) : Option Bool := match x, y with
  | .int i, .int j => some (decide (i = j))
  | .str s, .str t => some (decide (s = t))
  | .bl a, .bl b => some (decide (a = b))
  | .non, .non => some true
  | .int _, .str _ => some false
  | .str _, .int _ => some false
  | .bl _, .str _ => some false
  | .str _, .bl _ => some false
  | .non, .int _ => some false
  | .int _, .non => some false
  | .non, .bl _ => some false
  | .bl _, .non => some false
  | .non, .str _ => some false
  | .str _, .non => some false
  | _, _ => none
def dEqB (x y : D) : Option Bool := match dEqS x y with
  | some b => some b
  | none => dEqG x y
def dEq (x y : D) : Option D := (dEqB x y).map .bl
def dNe (x y : D) : Option D := (dEqB x y).map fun b => .bl (!b)
theorem eqG_ok {K : PySem.W.Frag} {B H : Hp} {x y : D} {v u : V} {b : Bool} (e : Ex B H) (rx : RS K B H x v) (ry : RS K B H y u) (ho : dEqG x y = some b) :
    ∃ p q, Dp K H v p ∧ Dp K H u q ∧ SeqAt.shaped p = true ∧ SeqAt.shaped q = true ∧ b = PyData.eqv p q := by
  unfold dEqG at ho
  cases hx : pyOf x with
  | none =>
    rw [hx] at ho
    cases ho
  | some p => cases hy : pyOf y with
    | none =>
      rw [hx, hy] at ho
      cases ho
    | some q =>
      rw [hx, hy] at ho
      have ho : (if (SeqAt.shaped p && SeqAt.shaped q) = true then some (PyData.eqv p q) else none) = some b := ho
      by_cases hs : (SeqAt.shaped p && SeqAt.shaped q) = true
      · rw [if_pos hs] at ho
        cases ho
        rw [Bool.and_eq_true] at hs
        exact ⟨p, q, pyOf_ok e rx hx, pyOf_ok e ry hy, hs.1, hs.2, rfl⟩
      · rw [if_neg hs] at ho
        cases ho
theorem eqS_ok {K : PySem.W.Frag} {B H : Hp} {x y : D} {v u : V} {b : Bool} (rx : RS K B H x v) (ry : RS K B H y u) (ho : dEqS x y = some b) : scal v u = true ∧ b = decide (v = u) := by
  unfold dEqS at ho
  split at ho <;> first
    | (cases ho; done)
    | (cases ho
       have rx : Sh K B _ v := rx
       have ry : Sh K B _ u := ry
       cases rx
       cases ry
       first
         | exact ⟨rfl, (decide_eq_false (fun z => nomatch z)).symm⟩
         | exact ⟨rfl, (decide_eq_true rfl).symm⟩
         | exact ⟨rfl, by simp⟩)
theorem eqB_ok {K : PySem.W.Frag} {B H : Hp} {x y : D} {v u : V} {b : Bool} (e : Ex B H) (rx : RS K B H x v) (ry : RS K B H y u) (ho : dEqB x y = some b) :
    (scal v u = true ∧ b = decide (v = u)) ∨ ∃ p q, Dp K H v p ∧ Dp K H u q ∧ SeqAt.shaped p = true ∧ SeqAt.shaped q = true ∧ b = PyData.eqv p q := by
  unfold dEqB at ho
  cases q : dEqS x y with
  | some b' =>
    rw [q] at ho
    cases ho
    exact .inl (eqS_ok rx ry q)
  | none =>
    rw [q] at ho
    exact .inr (eqG_ok e rx ry ho)
def rEqAll (K : PySem.W.Frag) : R2 := fun x y H Q => rEq x y H Q ∨ rEqD K x y H Q
def rNeAll (K : PySem.W.Frag) : R2 := fun x y H Q => rNe x y H Q ∨ rNeD K x y H Q
theorem op_eqAll {X : Cx} (hu : X.A.units + 64 < cLine) : OpR X (compareOp .Eq) (rEqAll X.K) := op_eq.or (op_eqD hu)
theorem op_neAll {X : Cx} (hu : X.A.units + 64 < cLine) : OpR X (compareOp .NotEq) (rNeAll X.K) := op_ne.or (op_neD hu)
theorem ok_eq {K : PySem.W.Frag} : OpD K (rEqAll K) dEq := by
  intro B H x y v u z Q e rx ry ho k
  unfold dEq at ho
  cases q : dEqB x y with
  | none =>
    rw [q] at ho
    cases ho
  | some b =>
    rw [q] at ho
    cases ho
    rcases eqB_ok e rx ry q with ⟨hs, rfl⟩ | ⟨p, q', h1, h2, s1, s2, rfl⟩
    · exact .inl ⟨hs, k _ B H (Grow.refl e) (.bl _)⟩
    · exact .inr ⟨p, q', h1, h2, s1, s2, k _ B H (Grow.refl e) (.bl _)⟩
theorem ok_ne {K : PySem.W.Frag} : OpD K (rNeAll K) dNe := by
  intro B H x y v u z Q e rx ry ho k
  unfold dNe at ho
  cases q : dEqB x y with
  | none =>
    rw [q] at ho
    cases ho
  | some b =>
    rw [q] at ho
    cases ho
    rcases eqB_ok e rx ry q with ⟨hs, rfl⟩ | ⟨p, q', h1, h2, s1, s2, rfl⟩
    · exact .inl ⟨hs, k _ B H (Grow.refl e) (.bl _)⟩
    · exact .inr ⟨p, q', h1, h2, s1, s2, k _ B H (Grow.refl e) (.bl _)⟩

/-! #### is None, is True -/
def dIsB (x y : D) : Option Bool := match x, y with
  | .bl a, .bl b => some (decide (a = b))
  | .non, .non => some true
  | .al _, _ => none
  | _, .non => some false
  | _, _ => none
def dIs (x y : D) : Option D := (dIsB x y).map .bl
def dIsNot (x y : D) : Option D := (dIsB x y).map fun b => .bl (!b)
def rIsAll : R2 := fun x y H Q => (y = .non ∧ Q (.bl (decide (x = .non))) H) ∨ rIsB x y H Q
def rNotAll : R2 := fun x y H Q => (y = .non ∧ Q (.bl (!decide (x = .non))) H) ∨ rNotB x y H Q
theorem op_isAll {X : Cx} : OpR X (compareOp .Is) rIsAll := op_isN.or op_isBl
theorem op_notAll {X : Cx} : OpR X (compareOp .IsNot) rNotAll := op_notN.or op_notBl
theorem isB_ok {K : PySem.W.Frag} {B H : Hp} {x y : D} {v u : V} {b : Bool} (rx : RS K B H x v) (ry : RS K B H y u) (ho : dIsB x y = some b) :
    (u = .non ∧ b = decide (v = .non)) ∨ ∃ a a', v = .bl a ∧ u = .bl a' ∧ b = decide (a = a') := by
  cases x with
  | bl a => cases y with
    | bl a' =>
      cases ho
      cases (show Sh K B (.bl a) v from rx)
      cases (show Sh K B (.bl a') u from ry)
      exact .inr ⟨a, a', rfl, rfl, rfl⟩
    | non =>
      cases ho
      cases (show Sh K B (.bl a) v from rx)
      cases (show Sh K B .non u from ry)
      exact .inl ⟨rfl, rfl⟩
    | _ => cases ho
  | al i => cases ho
  | own xs =>
    obtain ⟨a, vs, G, rfl, _⟩ := rx
    cases y with
    | non =>
      cases ho
      cases (show Sh K B .non u from ry)
      exact .inl ⟨rfl, rfl⟩
    | _ => cases ho
  | bor xs =>
    obtain ⟨a, vs, G, rfl, _⟩ := rx
    cases y with
    | non =>
      cases ho
      cases (show Sh K B .non u from ry)
      exact .inl ⟨rfl, rfl⟩
    | _ => cases ho
  | _ => cases y with
    | non =>
      cases ho
      cases (show Sh K B .non u from ry)
      have rx : Sh K B _ v := rx
      cases rx <;> exact .inl ⟨rfl, rfl⟩
    | _ => cases ho
theorem ok_is {K : PySem.W.Frag} : OpD K rIsAll dIs := by
  intro B H x y v u z Q e rx ry ho k
  unfold dIs at ho
  cases q : dIsB x y with
  | none =>
    rw [q] at ho
    cases ho
  | some b =>
    rw [q] at ho
    cases ho
    rcases isB_ok rx ry q with ⟨h1, rfl⟩ | ⟨a, a', h1, h2, rfl⟩
    · exact .inl ⟨h1, k _ B H (Grow.refl e) (.bl _)⟩
    · exact .inr ⟨a, a', h1, h2, k _ B H (Grow.refl e) (.bl _)⟩
theorem ok_isNot {K : PySem.W.Frag} : OpD K rNotAll dIsNot := by
  intro B H x y v u z Q e rx ry ho k
  unfold dIsNot at ho
  cases q : dIsB x y with
  | none =>
    rw [q] at ho
    cases ho
  | some b =>
    rw [q] at ho
    cases ho
    rcases isB_ok rx ry q with ⟨h1, rfl⟩ | ⟨a, a', h1, h2, rfl⟩
    · exact .inl ⟨h1, k _ B H (Grow.refl e) (.bl _)⟩
    · exact .inr ⟨a, a', h1, h2, k _ B H (Grow.refl e) (.bl _)⟩
end DL
end

section
set_option maxRecDepth 100000
set_option maxHeartbeats 2000000
namespace DL
open PySem L2
open Evl (Ex)

/-! ### arguments -/
section
variable {X : Cx} {c : Ctx} {W : WX} {K : PySem.W.Frag}
theorem RTs.mono {B B' : Hp} {σ : L2.St} (e : Ex B B') : ∀ {ds : List D} {vs : List V}, RTs K B σ ds vs → RTs K B' σ ds vs
  | [], _, h => h
  | _ :: _, _, ⟨v, us, q, h, r⟩ => ⟨v, us, q, h.mono e, RTs.mono e r⟩
theorem RTs.length {B : Hp} {σ : L2.St} : ∀ {ds : List D} {vs : List V}, RTs K B σ ds vs → ds.length = vs.length
  | [], _, h => by cases (show _ = _ from h); rfl
  | _ :: _, _, ⟨v, us, q, h, r⟩ => by rw [q, List.length_cons, List.length_cons, RTs.length r]
theorem RTs.get {B : Hp} {σ : L2.St} : ∀ {ds : List D} {vs : List V} {i : Nat} {d : D}, RTs K B σ ds vs → ds[i]? = some d → ∃ v, vs[i]? = some v ∧ RT K B σ d v
  | [], _, _, _, h, e => by simp at e
  | x :: ds, _, 0, d, ⟨v, us, q, h, r⟩, e => by
    simp at e
    subst e q
    exact ⟨v, rfl, h⟩
  | x :: ds, _, i + 1, d, ⟨v, us, q, h, r⟩, e => by
    obtain ⟨u, h1, h2⟩ := RTs.get (i := i) r (by simpa using e)
    subst q
    exact ⟨u, by simpa using h1, h2⟩
theorem RTs.shs {B : Hp} {σ : L2.St} : ∀ {ds : List D} {vs : List V}, RTs K B σ ds vs → ds.all isSh = true → Shs K B ds vs
  | [], _, h, _ => by cases (show _ = _ from h); exact .nil
  | d :: ds, _, ⟨v, us, q, h, r⟩, a => by
    rw [List.all_cons, Bool.and_eq_true] at a
    subst q
    refine .cons ?_ (RTs.shs r a.2)
    cases d with
    | al i => exact absurd a.1 Bool.false_ne_true
    | _ => exact h
def aNil : M (List D) := mret []
def aCons (f : M D) (g : M (List D)) : M (List D) := mbind f fun d => mbind g fun ds => mret (d :: ds)
theorem da_nil : PA X [] (liftA X.K c W aNil) := PA_of pa_nil fun σ H Q q => by
  obtain ⟨T, B, e, st, m⟩ := q
  exact m B H (Evl.Ex.refl B) st [] rfl
theorem da_cons {x : Expr} {xs : List Expr} {f : M D} {g : M (List D)} (h : PE X x (lift X.K c W f)) (r : PA X xs (liftA X.K c W g)) (hs : starEach (x :: xs) X.env = (false, eval x X.env) :: starEach xs X.env := by rfl) : PA X (x :: xs) (liftA X.K c W (aCons f g)) :=
  PA_of (pa_cons h r hs) fun σ H Q q => by
    obtain ⟨T, B, e, st, m⟩ := q
    refine ⟨T, B, e, st, m.bind.imp fun d e1 B1 H1 x1 m1 st1 v rv => ?_⟩
    refine ⟨T, B1, e1, st1, m1.bind.imp fun ds e2 B2 H2 x2 m2 st2 us ru => ?_⟩
    exact m2 B2 H2 (Evl.Ex.refl _) st2 (v :: us) ⟨v, us, rfl, rv.mono x2, ru⟩
end

/-! ### a def as a function on data -/
structure After (B H : Hp) (L : Addr → Prop) (B' H' : Hp) : Prop where
  b : Ex B B'
  bh : Ex B' H'
  keep : ∀ a o, ¬ L a → H a = some o → H' a = some o
  there : ∀ a, H a ≠ none → H' a ≠ none
  old : ∀ a, H a ≠ none → B a = none → B' a = none
/-- what is lent comes back -/
def Outs (K : PySem.W.Frag) (H B' H' : Hp) (vs : List V) (ds : List D) (fp : Nat → List Addr) (outs : Env) (fp' : Nat → List Addr) : Prop :=
  (∀ (i : Nat) (xs : List D), ds[i]? = some (D.bor xs) → ∃ ys v, outs[i]? = some (some (.bor ys)) ∧ vs[i]? = some v ∧ Ow K B' H' (.bor ys) v (fp' i) ∧ (fp' i).Nodup ∧ ∀ a ∈ fp' i, a ∈ fp i ∨ H a = none) ∧
  ∀ i j a, i ≠ j → a ∈ fp' i → a ∉ fp' j
structure ArgsOk (K : PySem.W.Frag) (B H : Hp) (vs : List V) (ds : List D) (fp : Nat → List Addr) : Prop where
  bh : Ex B H
  len : vs.length = ds.length
  at_ : ∀ i d, ds[i]? = some d → ∃ v, vs[i]? = some v ∧ Ow K B H d v (fp i)
  out : ∀ i, ds.length ≤ i → fp i = []
  nd : ∀ i, (fp i).Nodup
  sep : ∀ i j a, i ≠ j → a ∈ fp i → a ∉ fp j
  noown : ∀ (i : Nat) (xs : List D), ds[i]? ≠ some (D.own xs)
def spF (K : PySem.W.Frag) (n : Nat) (F : List D → Rs D) : Sp := fun vs H Q E => ∃ B ds fp, ArgsOk K B H vs ds fp ∧ ds.length = n ∧ match F ds with
  | .ok r outs => ∀ v B' H' fp', After B H (fun a => ∃ i, a ∈ fp i) B' H' → Sh K B' r v → Outs K H B' H' vs ds fp outs fp' → Q v H'
  | .ex x outs => ∀ cls dd B' H' fp', After B H (fun a => ∃ i, a ∈ fp i) B' H' → RX K B' x cls dd → Outs K H B' H' vs ds fp outs fp' → E cls dd H'
  | .no => False
/-- lent slots stay lent -/
def borOk : List D → Env → Bool
  | [], _ => true
  | .bor _ :: ds, some (.bor _) :: e => borOk ds e
  | .bor _ :: _, _ => false
  | _ :: ds, _ :: e => borOk ds e
  | _ :: ds, [] => borOk ds []
theorem borOk_at : ∀ {ds : List D} {e : Env} {i : Nat} {xs : List D}, borOk ds e = true → ds[i]? = some (D.bor xs) → ∃ ys, e[i]? = some (some (D.bor ys))
  | [], _, _, _, _, h => by simp at h
  | d :: ds, [], 0, xs, b, h => by
    simp at h
    subst h
    exact absurd b Bool.false_ne_true
  | d :: ds, [], i + 1, xs, b, h => by
    have b2 : borOk ds [] = true := by cases d <;> first | exact b | exact absurd b Bool.false_ne_true
    obtain ⟨ys, q⟩ := borOk_at (i := i) b2 (by simpa using h)
    simp at q
  | d :: ds, o :: e, 0, xs, b, h => by
    simp at h
    subst h
    cases o with
    | none => exact absurd b Bool.false_ne_true
    | some u => cases u with
      | bor ys => exact ⟨ys, rfl⟩
      | _ => exact absurd b Bool.false_ne_true
  | d :: ds, o :: e, i + 1, xs, b, h => by
    have b2 : borOk ds e = true := by
      cases d with
      | bor zs => cases o with
        | none => exact absurd b Bool.false_ne_true
        | some u => cases u with
          | bor ys => exact b
          | _ => exact absurd b Bool.false_ne_true
      | _ => exact b
    obtain ⟨ys, q⟩ := borOk_at (i := i) b2 (by simpa using h)
    exact ⟨ys, by simpa using q⟩
/-- a body run -/
def endF (ds : List D) (r : Rs Fl) : Rs D := match r with
  | .ok (.rt d) e => if borOk ds e = true then .ok d e else .no
  | .ok .nx e => if borOk ds e = true then .ok .non e else .no
  | .ok _ _ => .no
  | .ex x e => if borOk ds e = true then .ex x e else .no
  | .no => .no
def runF (N : Nat) (g : M Fl) (ds : List D) : Rs D := endF ds (g (ds.map some ++ List.replicate (N - ds.length) none))
section
variable {K : PySem.W.Frag} {B H : Hp} {vs : List V} {ds : List D} {fp : Nat → List Addr} {N : List Str}
theorem start_ok (A : ArgsOk K B H vs ds fp) (hN : ds.length ≤ N.length) : StOk K ⟨vs, B, H, fp⟩ [] B H (L2.start N vs) (ds.map some ++ List.replicate (N.length - ds.length) none) where
  len := by simp [L2.start, A.len]
  slots := by
    have lt : ∀ (i : Nat) (d : D), (ds.map some ++ List.replicate (N.length - ds.length) none)[i]? = some (some d) → ds[i]? = some d := fun i d h => by
      by_cases hi : i < ds.length
      · rw [List.getElem?_append_left (by simpa using hi), List.getElem?_map] at h
        cases q : ds[i]? with
        | none =>
          rw [q] at h
          cases h
        | some u =>
          rw [q] at h
          cases h
          rfl
      · rw [List.getElem?_append_right (by simp; omega)] at h
        rw [List.getElem?_replicate] at h
        split at h <;> cases h
    refine ⟨fp, fun i d h => ?_, fun i h => ?_, A.nd, A.sep, fun a m => nomatch m⟩
    · have hd := lt i d h
      obtain ⟨v, hv, ow⟩ := A.at_ i d hd
      refine ⟨v, ?_, ow, ?_⟩
      · have hi : i < vs.length := (List.getElem?_eq_some_iff.mp hv).1
        unfold L2.start
        rw [List.getElem?_append_left (by simpa using hi), List.getElem?_map, hv] <;> rfl
      · cases d with
        | own xs => exact absurd hd (A.noown i xs)
        | bor xs => exact ⟨hv, fun a m => .inl m⟩
        | _ =>
          have e := ow.inv.2
          rw [e]
          exact fun a m => nomatch m
    · by_cases hi : i < ds.length
      · exfalso
        refine h ds[i] ?_
        rw [List.getElem?_append_left (by simpa using hi), List.getElem?_map, List.getElem?_eq_getElem hi] <;> rfl
      · exact A.out i (by omega)
  tmp := fun a m => nomatch m
  tnd := List.nodup_nil
  bh := A.bh
  b0 := Evl.Ex.refl B
  keep := fun a o _ h => h
  there := fun a h => h
  old := fun a _ h => h
theorem after_ok {c : Ctx} {T : List (Addr × HO)} {B' H' : Hp} {σ : L2.St} {e : Env} (s : StOk K c T B' H' σ e) : After c.B0 c.H0 c.lent B' H' := ⟨s.b0, s.bh, s.keep, s.there, s.old⟩
theorem outs_ok {B' H' : Hp} {σ : L2.St} {e : Env} (A : ArgsOk K B H vs ds fp) (s : StOk K ⟨vs, B, H, fp⟩ [] B' H' σ e) (k : borOk ds e = true) : ∃ fp', Outs K H B' H' vs ds fp e fp' := by
  obtain ⟨gp, h1, h2, h3, h4, _⟩ := s.slots
  refine ⟨fun i => gp i, fun i xs hi => ?_, fun i j a hij hi hj => h4 i j a hij hi hj⟩
  obtain ⟨ys, hy⟩ := borOk_at k hi
  obtain ⟨v, _, ow, cd⟩ := h1 i _ hy
  exact ⟨ys, v, hy, cd.1, ow, h3 i, cd.2⟩
end
/-! ### the rule for a def -/
section
variable {P : Program} {w : World} {K : PySem.W.Frag} {mg : Str → Option Value} {base : Heap}
/-- a body's context -/
structure Bx (X : Cx) (W : WX) (k : Nat) : Prop where
  tk : Takes X W
  calm : X.calm = true
  room : Room k X.A
structure Body (X : Cx) (W : WX) (k : Nat) : Prop extends Bx X W k where
  hs : X.stack = X.env :: X.outer
  hf : X.env.frame = some X.env.locals
  po : PassesOwn (model X.prog X.w) X.A X.env X.xe
theorem fn_D {x qual : Str} {st : Stmt} {f : Addr} {fd : FuncData} {N ps : List Str} {k : Nat} {g : M Fl} (F : Fun K x qual st f fd) (S : FnScope N ps (defScope st)) (hN : ps.length ≤ N.length)
    (hb : ∀ (cdv : Value) (A : Around) (outer : List PySem.Env) (s : Shared) (H : Hp) (E : XK) (c : Ctx) (W : WX), Body (cxOf (L2.CX P w) P w K mg base N qual (defScope st) f cdv A outer s H E) W k →
      PSs (cxOf (L2.CX P w) P w K mg base N qual (defScope st) f cdv A outer s H E) (defBody st) (liftS K c W g)) :
    FnOk P w K mg base (L2.CX P w) (k + 1) f fd ps (spF K ps.length (runF N.length g)) := by
  refine F.okX S (fun vs H Q E h => ?_) (fun cdv A outer s H vs Q E hr h => ?_)
  · obtain ⟨B, ds, fp, a, hl, _⟩ := h
    rw [a.len, hl]
  · obtain ⟨B, ds, fp, a, hl, m⟩ := h
    refine ⟨_, hb cdv A outer s H E ⟨vs, B, H, fp⟩ (fun cls d _ H' => E cls d H') ⟨⟨takes_of rfl rfl rfl rfl, rfl, hr⟩, rfl, rfl, passes_of rfl⟩, ?_⟩
    refine ⟨B, _, start_ok a (by omega), ?_⟩
    unfold runF at m
    generalize g (ds.map some ++ List.replicate (N.length - ds.length) none) = r at m ⊢
    cases r with
    | no => exact m
    | ex y e =>
      by_cases hb : borOk ds e = true
      · rw [endF, if_pos hb] at m
        exact fun cls dd σ' B' H' x st rx => by
          obtain ⟨fp', o⟩ := outs_ok a st hb
          exact m cls dd B' H' fp' (after_ok st) rx o
      · rw [endF, if_neg hb] at m
        exact m.elim
    | ok fl e => cases fl with
      | nx =>
        by_cases hb : borOk ds e = true
        · rw [endF, if_pos hb] at m
          exact fun σ' B' H' x st => by
            obtain ⟨fp', o⟩ := outs_ok a st hb
            exact m .non B' H' fp' (after_ok st) .non o
        · rw [endF, if_neg hb] at m
          exact m.elim
      | rt d =>
        by_cases hb : borOk ds e = true
        · rw [endF, if_pos hb] at m
          exact fun v σ' B' H' x st sh => by
            obtain ⟨fp', o⟩ := outs_ok a st hb
            exact m v B' H' fp' (after_ok st) sh o
        · rw [endF, if_neg hb] at m
          exact m.elim
      | bk => exact m.elim
      | ct => exact m.elim
end

/-! ### the rule for a call -/
def isAl (j : Nat) : D → Bool
  | .al i => i == j
  | _ => false
def relab (o : Option D) (ys : List D) : Option D := match o with
  | some (.own _) => some (.own ys)
  | some (.bor _) => some (.bor ys)
  | o => o
/-- what was lent, put back -/
def putO (e : Env) (ds : List D) (outs : Env) : Env := e.mapIdx fun j o => match ds.findIdx? (isAl j) with
  | some k => (match outs[k]? with
    | some (some (.bor ys)) => relab o ys
    | _ => none)
  | none => o
/-- an argument as the def has it -/
def borOf : D → D
  | .own xs => .bor xs
  | .bor xs => .bor xs
  | _ => .own []
def rsB (e : Env) (d : D) : D := match d with
  | .al i => (match e[i]? with
    | some (some d) => borOf d
    | _ => .own [])
  | d => d
def alN : List D → Bool
  | [] => true
  | .al i :: r => !(r.any (isAl i)) && alN r
  | _ :: r => alN r
def noOwn : D → Bool
  | .own _ => false
  | _ => true
def eCall (n : Nat) (F : List D → Rs D) (fs : M (List D)) : M D := mbind fs fun ds => fun e =>
  if ds.length = n ∧ alN ds = true ∧ (ds.map (rsB e)).all noOwn = true then
    match F (ds.map (rsB e)) with
    | .ok r outs => .ok r (putO e ds outs)
    | .ex x outs => .ex x (putO e ds outs)
    | .no => .no
  else .no
theorem alN_at : ∀ {ds : List D} {i j k : Nat}, alN ds = true → ds[i]? = some (D.al k) → ds[j]? = some (D.al k) → i = j
  | [], _, _, _, _, h, _ => by simp at h
  | d :: r, 0, 0, _, _, _, _ => rfl
  | d :: r, 0, j + 1, k, a, h1, h2 => by
    simp at h1
    subst h1
    have a1 : (!(r.any (isAl k)) && alN r) = true := a
    rw [Bool.and_eq_true] at a1
    have : r.any (isAl k) = true := List.any_eq_true.mpr ⟨.al k, List.mem_of_getElem? (by simpa using h2), by simp [isAl]⟩
    rw [this] at a1
    exact absurd a1.1 Bool.false_ne_true
  | d :: r, i + 1, 0, k, a, h1, h2 => by
    simp at h2
    subst h2
    have a1 : (!(r.any (isAl k)) && alN r) = true := a
    rw [Bool.and_eq_true] at a1
    have : r.any (isAl k) = true := List.any_eq_true.mpr ⟨.al k, List.mem_of_getElem? (by simpa using h1), by simp [isAl]⟩
    rw [this] at a1
    exact absurd a1.1 Bool.false_ne_true
  | d :: r, i + 1, j + 1, k, a, h1, h2 => by
    have a2 : alN r = true := by
      cases d with
      | al m =>
        have a1 : (!(r.any (isAl m)) && alN r) = true := a
        rw [Bool.and_eq_true] at a1
        exact a1.2
      | _ => exact a
    exact congrArg Nat.succ (alN_at a2 (by simpa using h1) (by simpa using h2))
section
variable {K : PySem.W.Frag} {c : Ctx} {σ : L2.St} {B H : Hp} {e : Env} {ds : List D} {vs : List V} {T : List (Addr × HO)}
/-- what is lent with each argument -/
def lentFp (fp : Nat → List Addr) (ds : List D) : Nat → List Addr := fun k => match ds[k]? with
  | some (.al i) => fp i
  | _ => []
theorem lentFp_al {fp : Nat → List Addr} {k i : Nat} (h : ds[k]? = some (D.al i)) : lentFp fp ds k = fp i := by
  unfold lentFp
  rw [h]
theorem lentFp_mem {fp : Nat → List Addr} {k : Nat} {a : Addr} (h : a ∈ lentFp fp ds k) : ∃ i, ds[k]? = some (D.al i) ∧ a ∈ fp i := by
  unfold lentFp at h
  split at h
  · rename_i i q
    exact ⟨i, q, h⟩
  · cases h
theorem call_args (st : StOk K c T B H σ e) (r : RTs K B σ ds vs) (hal : alN ds = true) (hno : (ds.map (rsB e)).all noOwn = true) :
    ∃ fp, (∀ i d, e[i]? = some (some d) → SlotOk K c B H σ i d (fp i)) ∧ (∀ i, (∀ d, e[i]? ≠ some (some d)) → fp i = []) ∧ (∀ i, (fp i).Nodup) ∧ (∀ i j a, i ≠ j → a ∈ fp i → a ∉ fp j) ∧ (∀ q ∈ T, ∀ i, q.1 ∉ fp i) ∧
      ArgsOk K B H vs (ds.map (rsB e)) (lentFp fp ds) := by
  obtain ⟨fp, h1, h2, h3, h4, h5⟩ := st.slots
  refine ⟨fp, h1, h2, h3, h4, h5, ⟨st.bh, by rw [List.length_map, r.length], fun i d hd => ?_, fun i hi => ?_, fun i => ?_, fun i j a hij hi hj => ?_, fun i xs hx => ?_⟩⟩
  · rw [List.getElem?_map] at hd
    cases q : ds[i]? with
    | none =>
      rw [q] at hd
      cases hd
    | some u =>
      rw [q] at hd
      have hd : rsB e u = d := Option.some.inj hd
      subst hd
      obtain ⟨v, hv, rv⟩ := r.get q
      refine ⟨v, hv, ?_⟩
      cases u with
      | al j =>
        rw [lentFp_al q]
        have nno : noOwn (rsB e (.al j)) = true := List.all_eq_true.mp hno _ (List.mem_map_of_mem (List.mem_of_getElem? q))
        have rv : σ[j]? = some (some v) := rv
        revert nno
        show noOwn (match e[j]? with
          | some (some d) => borOf d
          | _ => .own []) = true → Ow K B H (match e[j]? with
          | some (some d) => borOf d
          | _ => .own []) v (fp j)
        cases he : e[j]? with
        | none => exact fun z => absurd z Bool.false_ne_true
        | some o => cases o with
          | none => exact fun z => absurd z Bool.false_ne_true
          | some d =>
            obtain ⟨u, hu, ow, _⟩ := h1 j d he
            rw [hu] at rv
            have e3 : u = v := Option.some.inj (Option.some.inj rv)
            subst e3
            have ow := ow.inv
            cases d with
            | own xs =>
              obtain ⟨a, vs, G, rfl, q2, q3, q4, q5⟩ := ow
              rw [q2]
              exact fun _ => .bor q3 q4 q5
            | bor xs =>
              obtain ⟨a, vs, G, rfl, q2, q3, q4, q5⟩ := ow
              rw [q2]
              exact fun _ => .bor q3 q4 q5
            | _ => exact fun z => absurd z Bool.false_ne_true
      | _ =>
        have z : lentFp fp ds i = [] := by
          unfold lentFp
          rw [q]
        rw [z]
        exact .sh rv
  · have z : ds[i]? = none := List.getElem?_eq_none_iff.mpr (by simpa using hi)
    unfold lentFp
    rw [z]
  · unfold lentFp
    split
    · exact h3 _
    · exact List.nodup_nil
  · obtain ⟨p, hp, m1⟩ := lentFp_mem hi
    obtain ⟨q, hq, m2⟩ := lentFp_mem hj
    by_cases hpq : p = q
    · subst hpq
      exact hij (alN_at hal hp hq)
    · exact h4 p q a hpq m1 m2
  · have nno : noOwn (.own xs) = true := List.all_eq_true.mp hno _ (List.mem_of_getElem? hx)
    exact absurd nno Bool.false_ne_true
theorem putO_at (e : Env) (ds : List D) (outs : Env) (j : Nat) : (putO e ds outs)[j]? = (e[j]?).map fun o => match ds.findIdx? (isAl j) with
  | some k => (match outs[k]? with
    | some (some (.bor ys)) => relab o ys
    | _ => none)
  | none => o := by
  unfold putO
  rw [List.getElem?_mapIdx]
theorem findAl {j k : Nat} (h : ds.findIdx? (isAl j) = some k) : ds[k]? = some (D.al j) := by
  obtain ⟨h1, h2, _⟩ := List.findIdx?_eq_some_iff_getElem.mp h
  rw [List.getElem?_eq_getElem h1]
  generalize ds[k] = d at h2
  cases d with
  | al i =>
    have : i = j := by simpa [isAl] using h2
    rw [this]
  | _ => exact absurd h2 Bool.false_ne_true
theorem call_after (st : StOk K c T B H σ e) {fp : Nat → List Addr} (h1 : ∀ i d, e[i]? = some (some d) → SlotOk K c B H σ i d (fp i)) (h2 : ∀ i, (∀ d, e[i]? ≠ some (some d)) → fp i = []) (h3 : ∀ i, (fp i).Nodup) (h4 : ∀ i j a, i ≠ j → a ∈ fp i → a ∉ fp j) (h5 : ∀ q ∈ T, ∀ i, q.1 ∉ fp i)
    (r : RTs K B σ ds vs) (hal : alN ds = true) {B' H' : Hp} {outs : Env} {gp : Nat → List Addr} (af : After B H (fun a => ∃ i, a ∈ lentFp fp ds i) B' H') (o : Outs K H B' H' vs (ds.map (rsB e)) (lentFp fp ds) outs gp) (A : ArgsOk K B H vs (ds.map (rsB e)) (lentFp fp ds)) : StOk K c T B' H' σ (putO e ds outs) := by
  -- what an alias's slot becomes
  have back : ∀ j k d, e[j]? = some (some d) → ds.findIdx? (isAl j) = some k → ∃ xs ys v, (d = .own xs ∨ d = .bor xs) ∧ outs[k]? = some (some (.bor ys)) ∧ σ[j]? = some (some v) ∧ Ow K B' H' (.bor ys) v (gp k) ∧ (gp k).Nodup ∧ (∀ a ∈ gp k, a ∈ fp j ∨ H a = none) ∧ Cond c j d v (fp j) := fun j k d hd hk => by
    have q := findAl hk
    obtain ⟨v, hv, rv⟩ := r.get q
    have rv : σ[j]? = some (some v) := rv
    obtain ⟨u, hu, ow, cd⟩ := h1 j d hd
    rw [hu] at rv
    have e3 : u = v := Option.some.inj (Option.some.inj rv)
    subst e3
    have hq : (ds.map (rsB e))[k]? = some (rsB e (.al j)) := by rw [List.getElem?_map, q] <;> rfl
    obtain ⟨_, _, ow'⟩ := A.at_ k _ hq
    have eq : rsB e (.al j) = borOf d := by
      show (match e[j]? with
        | some (some d) => borOf d
        | _ => .own []) = _
      rw [hd]
    rw [eq] at hq
    cases d with
    | own xs =>
      obtain ⟨ys, v', o1, o2, o3, o4, o5⟩ := o.1 k xs hq
      rw [hv] at o2
      cases o2
      exact ⟨xs, ys, u, .inl rfl, o1, hu, o3, o4, fun a m => by rw [← lentFp_al (fp := fp) q]; exact o5 a m, cd⟩
    | bor xs =>
      obtain ⟨ys, v', o1, o2, o3, o4, o5⟩ := o.1 k xs hq
      rw [hv] at o2
      cases o2
      exact ⟨xs, ys, u, .inr rfl, o1, hu, o3, o4, fun a m => by rw [← lentFp_al (fp := fp) q]; exact o5 a m, cd⟩
    | _ => exact absurd hq (A.noown k [])
  -- a slot that is not lent
  have keep : ∀ j a, ds.findIdx? (isAl j) = none → a ∈ fp j → ¬ ∃ i, a ∈ lentFp fp ds i := fun j a hn hm ⟨i, hi⟩ => by
    obtain ⟨p, hp, m1⟩ := lentFp_mem hi
    by_cases hpj : p = j
    · subst hpj
      have := List.findIdx?_eq_none_iff.mp hn (.al p) (List.mem_of_getElem? hp)
      simp [isAl] at this
    · exact h4 p j a hpj m1 hm
  let nfp : Nat → List Addr := fun j => match e[j]? with
    | some (some _) => (match ds.findIdx? (isAl j) with
      | some k => gp k
      | none => fp j)
    | _ => []
  have nfp_some : ∀ j d, e[j]? = some (some d) → nfp j = (match ds.findIdx? (isAl j) with
      | some k => gp k
      | none => fp j) := fun j d h => by
    show (match e[j]? with
      | some (some _) => (match ds.findIdx? (isAl j) with
        | some k => gp k
        | none => fp j)
      | _ => []) = _
    rw [h]
  have live : ∀ j a, a ∈ nfp j → (∃ d, e[j]? = some (some d)) ∧ ((∃ k, ds.findIdx? (isAl j) = some k ∧ a ∈ gp k) ∨ (ds.findIdx? (isAl j) = none ∧ a ∈ fp j)) := fun j a m => by
    have m : a ∈ (match e[j]? with
      | some (some _) => (match ds.findIdx? (isAl j) with
        | some k => gp k
        | none => fp j)
      | _ => []) := m
    cases he : e[j]? with
    | none =>
      rw [he] at m
      cases m
    | some od => cases od with
      | none =>
        rw [he] at m
        cases m
      | some d =>
        rw [he] at m
        refine ⟨⟨d, rfl⟩, ?_⟩
        cases hk : ds.findIdx? (isAl j) with
        | none =>
          rw [hk] at m
          exact .inr ⟨rfl, m⟩
        | some k =>
          rw [hk] at m
          exact .inl ⟨k, rfl, m⟩
  have alive : ∀ j a, a ∈ fp j → H a ≠ none ∧ B a = none := fun j a m => by
    cases he : e[j]? with
    | none =>
      rw [h2 j (fun d z => by rw [he] at z; cases z)] at m
      cases m
    | some od => cases od with
      | none =>
        rw [h2 j (fun d z => by rw [he] at z; cases z)] at m
        cases m
      | some d =>
        obtain ⟨v, _, ow, _⟩ := h1 j d he
        exact ⟨(ow.free a m).2, (ow.free a m).1⟩
  have fresh0 : ∀ a, H a = none → c.H0 a = none := fun a n => by
    cases q : c.H0 a with
    | none => rfl
    | some o => exact absurd n (st.there a (by rw [q]; exact fun z => nomatch z))
  refine ⟨?_, ⟨nfp, fun j d hd => ?_, fun j hn => ?_, fun j => ?_, fun i j a hij hi hj => ?_, fun q m i hi => ?_⟩, fun q m => ?_, st.tnd, af.bh, st.b0.trans af.b, fun a o nl h => ?_, fun a n => af.there a (st.there a n), fun a n z => af.old a (st.there a n) (st.old a n z)⟩
  · unfold putO
    rw [List.length_mapIdx]
    exact st.len
  · rw [putO_at] at hd
    cases he : e[j]? with
    | none =>
      rw [he] at hd
      cases hd
    | some od =>
      rw [he] at hd
      have hd : (match ds.findIdx? (isAl j) with
        | some k => (match outs[k]? with
          | some (some (.bor ys)) => relab od ys
          | _ => none)
        | none => od) = some d := Option.some.inj hd
      cases hk : ds.findIdx? (isAl j) with
      | none =>
        rw [hk] at hd
        have hd : od = some d := hd
        subst hd
        rw [nfp_some j d he, hk]
        obtain ⟨v, hv, ow, cd⟩ := h1 j d he
        exact ⟨v, hv, ow.mono af.b (fun a m => af.old a (ow.free a m).2 (ow.free a m).1) (fun a m o q => af.keep a o (keep j a hk m) q), cd⟩
      | some k =>
        rw [hk] at hd
        cases od with
        | none =>
          exfalso
          have hd : (match outs[k]? with
            | some (some (.bor ys)) => relab none ys
            | _ => none) = some d := hd
          split at hd <;> cases hd
        | some d0 =>
          obtain ⟨xs, ys, v, hx, o1, hv, ow, nd, hf, cd⟩ := back j k d0 he hk
          rw [nfp_some j d0 he, hk]
          have hd : (match outs[k]? with
            | some (some (.bor ys)) => relab (some d0) ys
            | _ => none) = some d := hd
          rw [o1] at hd
          have hd : relab (some d0) ys = some d := hd
          have ow := ow.inv
          obtain ⟨a0, us, G, rfl, q2, q3, q4, q5⟩ := ow
          show SlotOk K c B' H' σ j d (gp k)
          rcases hx with rfl | rfl
          · cases hd
            refine ⟨.ref a0, hv, by rw [q2]; exact .own q3 q4 q5, fun a m => ?_⟩
            rcases hf a m with z | z
            · exact cd a z
            · exact fresh0 a z
          · cases hd
            refine ⟨.ref a0, hv, by rw [q2]; exact .bor q3 q4 q5, cd.1, fun a m => ?_⟩
            rcases hf a m with z | z
            · exact cd.2 a z
            · exact .inr (fresh0 a z)
  · show nfp j = []
    cases he : e[j]? with
    | none =>
      show (match e[j]? with
        | some (some _) => _
        | _ => []) = []
      rw [he]
    | some od => cases od with
      | none =>
        show (match e[j]? with
          | some (some _) => _
          | _ => []) = []
        rw [he]
      | some d =>
        rw [nfp_some j d he]
        cases hk : ds.findIdx? (isAl j) with
        | none =>
          exfalso
          refine hn d ?_
          rw [putO_at, he, hk] <;> rfl
        | some k =>
          exfalso
          obtain ⟨xs, ys, v, hx, o1, _⟩ := back j k d he hk
          rcases hx with rfl | rfl
          · refine hn (.own ys) ?_
            rw [putO_at, he, hk]
            show some (match outs[k]? with
              | some (some (.bor ys)) => relab (some (D.own xs)) ys
              | _ => none) = _
            rw [o1] <;> rfl
          · refine hn (.bor ys) ?_
            rw [putO_at, he, hk]
            show some (match outs[k]? with
              | some (some (.bor ys)) => relab (some (D.bor xs)) ys
              | _ => none) = _
            rw [o1] <;> rfl
  · cases he : e[j]? with
    | none =>
      show (match e[j]? with
        | some (some _) => (match ds.findIdx? (isAl j) with
          | some k => gp k
          | none => fp j)
        | _ => []).Nodup
      rw [he]
      exact List.nodup_nil
    | some od => cases od with
      | none =>
        show (match e[j]? with
          | some (some _) => (match ds.findIdx? (isAl j) with
            | some k => gp k
            | none => fp j)
          | _ => []).Nodup
        rw [he]
        exact List.nodup_nil
      | some d =>
        rw [nfp_some j d he]
        cases hk : ds.findIdx? (isAl j) with
        | none => exact h3 j
        | some k =>
          obtain ⟨xs, ys, v, hx, o1, hv, ow, nd, hf, cd⟩ := back j k d he hk
          exact nd
  · obtain ⟨⟨di, hdi⟩, li⟩ := live i a hi
    obtain ⟨⟨dj, hdj⟩, lj⟩ := live j a hj
    rcases li with ⟨k, hk, mk⟩ | ⟨hk, mk⟩
    · rcases lj with ⟨l, hl, ml⟩ | ⟨hl, ml⟩
      · refine o.2 k l a (fun z => ?_) mk ml
        subst z
        have q1 := findAl hk
        rw [findAl hl] at q1
        cases q1
        exact hij rfl
      · obtain ⟨xs, ys, v, hx, o1, hv, ow, nd, hf, cd⟩ := back i k di hdi hk
        rcases hf a mk with z | z
        · exact h4 i j a hij z ml
        · exact (alive j a ml).1 z
    · rcases lj with ⟨l, hl, ml⟩ | ⟨hl, ml⟩
      · obtain ⟨xs, ys, v, hx, o1, hv, ow, nd, hf, cd⟩ := back j l dj hdj hl
        rcases hf a ml with z | z
        · exact h4 i j a hij mk z
        · exact (alive i a mk).1 z
      · exact h4 i j a hij mk ml
  · obtain ⟨⟨di, hdi⟩, li⟩ := live i _ hi
    rcases li with ⟨k, hk, mk⟩ | ⟨hk, mk⟩
    · obtain ⟨xs, ys, v, hx, o1, hv, ow, nd, hf, cd⟩ := back i k di hdi hk
      rcases hf _ mk with z | z
      · exact h5 q m i z
      · rw [(st.tmp q m).2.1] at z
        cases z
    · exact h5 q m i mk
  · obtain ⟨t1, t2, t3⟩ := st.tmp q m
    refine ⟨t1, af.keep _ _ (fun ⟨i, hi⟩ => ?_) t2, af.old _ (by rw [t2]; exact fun z => (nomatch z)) t3⟩
    obtain ⟨p, hp, m1⟩ := lentFp_mem hi
    exact h5 q m p m1
  · refine af.keep a o (fun ⟨i, hi⟩ => ?_) (st.keep a o nl h)
    obtain ⟨p, hp, m1⟩ := lentFp_mem hi
    -- what is lent is the caller's loan, or new
    cases he : e[p]? with
    | none =>
      rw [h2 p (fun d z => by rw [he] at z; cases z)] at m1
      cases m1
    | some od => cases od with
      | none =>
        rw [h2 p (fun d z => by rw [he] at z; cases z)] at m1
        cases m1
      | some d =>
        obtain ⟨v, _, ow, cd⟩ := h1 p d he
        have out : c.H0 a = none → False := fun z => by
          rw [h] at z
          cases z
        cases d with
        | bor xs =>
          rcases cd.2 a m1 with z | z
          · exact nl ⟨p, z⟩
          · exact out z
        | _ => exact out (cd a m1)
end
section
variable {X : Cx} {c : Ctx} {W : WX} {k kf n : Nat} {f : Addr} {fd : FuncData} {ps : List Str} {x : Str} {p pos : Pos} {e : Expr} {es : List Expr} {fs : M (List D)} {Fm : List D → Rs D}
theorem call_conv : ∀ σ H Q, lift X.K c W (eCall n Fm fs) σ H Q → tCallS (spF X.K n Fm) (WE W) (liftA X.K c W fs) σ H Q := fun σ H Q q => by
  obtain ⟨T, B, e, st, m⟩ := q
  refine ⟨T, B, e, st, m.bind.imp fun ds e1 B1 H1 x1 m1 st1 vs rv => ?_⟩
  have m1 : Pst X.K c T W σ B1 (if ds.length = n ∧ alN ds = true ∧ (ds.map (rsB e1)).all noOwn = true then
    match Fm (ds.map (rsB e1)) with
    | .ok r outs => .ok r (putO e1 ds outs)
    | .ex x outs => .ex x (putO e1 ds outs)
    | .no => .no
  else .no) _ := m1
  by_cases hc : ds.length = n ∧ alN ds = true ∧ (ds.map (rsB e1)).all noOwn = true
  · rw [if_pos hc] at m1
    obtain ⟨h1, h2, h3⟩ := hc
    obtain ⟨fp, a1, a2, a3, a4, a5, A⟩ := call_args st1 rv h2 h3
    refine ⟨B1, ds.map (rsB e1), lentFp fp ds, A, by rw [List.length_map]; exact h1, ?_⟩
    generalize Fm (ds.map (rsB e1)) = r at m1 ⊢
    cases r with
    | no => exact m1
    | ok d outs => exact fun v B' H' gp af sh o => m1 B' H' af.b (call_after st1 a1 a2 a3 a4 a5 rv h2 af o A) v (RT.of sh)
    | ex y outs => exact fun cls dd B' H' gp af rx o => m1 cls dd B' H' af.b (call_after st1 a1 a2 a3 a4 a5 rv h2 af o A) rx
  · rw [if_neg hc] at m1
    exact m1.elim
theorem de_call (b : Bx X W k) (F : FnOk X.prog X.w X.K X.mg X.base (L2.CX X.prog X.w) kf f fd ps (spF X.K n Fm)) (hk : kf ≤ k) (hg : Gl X x) (hm : X.mg x = some (.ref f)) (hp : PySem.W.keepIn X.K (.ref f) = true) (hb : Binds X.K fd ps [])
    (ha : PA X (e :: es) (liftA X.K c W fs)) (hdb : (x == ("__debug__" : Str)) = false := by decide) (he : starEach (e :: es) X.env = (false, eval e X.env) :: starEach es X.env := by rfl) (hpl : (backTo pos (starEach es X.env)).any (·.1) = false := by rfl) :
    PE X (.Call (.Name x p) (e :: es) [] pos) (lift X.K c W (eCall n Fm fs)) :=
  PE_of (pe_callS F (b.room.mono hk) hg hm hp hb (fun σ => passAt b.tk σ) ha hdb he hpl) call_conv
end
end DL
end

section
set_option maxRecDepth 100000
set_option maxHeartbeats 2000000
namespace DL
open PySem L2
open Evl (Ex)

/-! ### slots written -/
section
variable {K : PySem.W.Frag} {c : Ctx} {B H : Hp} {σ : L2.St} {e : Env}
theorem set_self {α : Type} {l : List α} {i : Nat} {a b : α} (h : (l.set i a)[i]? = some b) : b = a := by
  by_cases hi : i < l.length
  · rw [List.getElem?_set_self hi] at h
    exact (Option.some.inj h).symm
  · rw [List.getElem?_eq_none (by simpa using hi)] at h
    cases h
theorem StOk.set {T : List (Addr × HO)} (s : StOk K c T B H σ e) {i : Nat} {d : D} {v : V} (r : Sh K B d v) : StOk K c T B H (σ.set i (some v)) (e.set i (some d)) where
  len := by rw [List.length_set, List.length_set]; exact s.len
  slots := by
    obtain ⟨fp, h1, h2, h3, h4, h5⟩ := s.slots
    refine ⟨fun j => if j = i then [] else fp j, fun j u hu => ?_, fun j hn => ?_, fun j => ?_, fun j k a hjk hj hk => ?_, fun q m j hj => ?_⟩
    · dsimp only
      by_cases hj : j = i
      · subst hj
        have q := set_self hu
        cases q
        have hl : j < σ.length := by
          rw [← s.len]
          have := (List.getElem?_eq_some_iff.mp hu).1
          simpa using this
        refine ⟨v, List.getElem?_set_self hl, ?_, ?_⟩
        · rw [if_pos rfl]
          exact .sh r
        · rw [if_pos rfl]
          cases d with
          | bor xs => cases r
          | _ => exact fun a m => (nomatch m)
      · rw [List.getElem?_set_ne (Ne.symm hj)] at hu
        obtain ⟨w, hw, ow, cd⟩ := h1 j u hu
        refine ⟨w, by rw [List.getElem?_set_ne (Ne.symm hj)]; exact hw, ?_, ?_⟩
        · rw [if_neg hj]
          exact ow
        · rw [if_neg hj]
          exact cd
    · by_cases hj : j = i
      · exact if_pos hj
      · show (if j = i then [] else fp j) = []
        rw [if_neg hj]
        exact h2 j fun u hu => hn u (by rw [List.getElem?_set_ne (Ne.symm hj)]; exact hu)
    · show (if j = i then [] else fp j).Nodup
      split
      · exact List.nodup_nil
      · exact h3 j
    · have hj : a ∈ (if j = i then [] else fp j) := hj
      have hk : a ∈ (if k = i then [] else fp k) := hk
      split at hj
      · cases hj
      · split at hk
        · cases hk
        · exact h4 j k a hjk hj hk
    · have hj : q.1 ∈ (if j = i then [] else fp j) := hj
      split at hj
      · cases hj
      · exact h5 q m j hj
  tmp := s.tmp
  tnd := s.tnd
  bh := s.bh
  b0 := s.b0
  keep := s.keep
  there := s.there
  old := s.old
/-- a new list is given to a slot -/
theorem StOk.setF {p : Addr} {vs : List V} {T : List (Addr × HO)} (s : StOk K c ((p, .lst vs) :: T) B H σ e) {i : Nat} {ds : List D} (r : Shs K B ds vs) :
    StOk K c T B H (σ.set i (some (.ref p))) (e.set i (some (.own ds))) where
  len := by rw [List.length_set, List.length_set]; exact s.len
  slots := by
    obtain ⟨fp, h1, h2, h3, h4, h5⟩ := s.slots
    obtain ⟨t1, t2, t3⟩ := s.tmp _ List.mem_cons_self
    refine ⟨fun j => if j = i ∧ i < e.length then [p] else if j = i then [] else fp j, fun j u hu => ?_, fun j hn => ?_, fun j => ?_, fun j k a hjk hj hk => ?_, fun q m j hj => ?_⟩
    · dsimp only
      by_cases hj : j = i
      · subst hj
        have q := set_self hu
        cases q
        have he : j < e.length := by
          have := (List.getElem?_eq_some_iff.mp hu).1
          simpa using this
        have hl : j < σ.length := by rw [← s.len]; exact he
        refine ⟨.ref p, List.getElem?_set_self hl, ?_, ?_⟩
        · rw [if_pos ⟨rfl, he⟩]
          exact .own t2 t3 r.ows
        · rw [if_pos ⟨rfl, he⟩]
          exact fun a m => by
            rw [List.mem_singleton.mp m]
            exact t1
      · rw [List.getElem?_set_ne (Ne.symm hj)] at hu
        obtain ⟨w, hw, ow, cd⟩ := h1 j u hu
        refine ⟨w, by rw [List.getElem?_set_ne (Ne.symm hj)]; exact hw, ?_, ?_⟩
        · rw [if_neg (fun z => hj z.1), if_neg hj]
          exact ow
        · rw [if_neg (fun z => hj z.1), if_neg hj]
          exact cd
    · show (if j = i ∧ i < e.length then [p] else if j = i then [] else fp j) = []
      by_cases hj : j = i
      · subst hj
        rw [if_neg (fun z => hn (.own ds) (List.getElem?_set_self z.2)), if_pos rfl]
      · rw [if_neg (fun z => hj z.1), if_neg hj]
        exact h2 j fun u hu => hn u (by rw [List.getElem?_set_ne (Ne.symm hj)]; exact hu)
    · show (if j = i ∧ i < e.length then [p] else if j = i then [] else fp j).Nodup
      split
      · exact List.nodup_cons.mpr ⟨by simp, List.nodup_nil⟩
      · split
        · exact List.nodup_nil
        · exact h3 j
    · have hj : a ∈ (if j = i ∧ i < e.length then [p] else if j = i then [] else fp j) := hj
      have hk : a ∈ (if k = i ∧ i < e.length then [p] else if k = i then [] else fp k) := hk
      by_cases zj : j = i ∧ i < e.length
      · rw [if_pos zj] at hj
        by_cases zk : k = i
        · exact hjk (zj.1.trans zk.symm)
        · rw [if_neg (fun z => zk z.1), if_neg zk] at hk
          rw [List.mem_singleton.mp hj] at hk
          exact h5 _ List.mem_cons_self k hk
      · rw [if_neg zj] at hj
        by_cases yj : j = i
        · rw [if_pos yj] at hj
          cases hj
        · rw [if_neg yj] at hj
          by_cases zk : k = i ∧ i < e.length
          · rw [if_pos zk] at hk
            rw [List.mem_singleton.mp hk] at hj
            exact h5 _ List.mem_cons_self j hj
          · rw [if_neg zk] at hk
            split at hk
            · cases hk
            · exact h4 j k a hjk hj hk
    · have hj : q.1 ∈ (if j = i ∧ i < e.length then [p] else if j = i then [] else fp j) := hj
      split at hj
      · exact s.tmp_ne q m (List.mem_singleton.mp hj)
      · split at hj
        · cases hj
        · exact h5 q (List.mem_cons_of_mem _ m) j hj
  tmp := fun q m => s.tmp q (List.mem_cons_of_mem _ m)
  tnd := (List.nodup_cons.mp s.tnd).2
  bh := s.bh
  b0 := s.b0
  keep := s.keep
  there := s.there
  old := s.old
/-- a slot is forgotten -/
theorem StOk.drop {T : List (Addr × HO)} (s : StOk K c T B H σ e) (i : Nat) : StOk K c T B H σ (e.set i none) where
  len := by rw [List.length_set]; exact s.len
  slots := by
    obtain ⟨fp, h1, h2, h3, h4, h5⟩ := s.slots
    have ne : ∀ {j : Nat} {u : D}, (e.set i none)[j]? = some (some u) → j ≠ i ∧ e[j]? = some (some u) := fun {j u} hu => by
      by_cases hj : j = i
      · subst hj
        have := set_self hu
        cases this
      · rw [List.getElem?_set_ne (Ne.symm hj)] at hu
        exact ⟨hj, hu⟩
    refine ⟨fun j => if j = i then [] else fp j, fun j u hu => ?_, fun j hn => ?_, fun j => ?_, fun j k a hjk hj hk => ?_, fun q m j hj => ?_⟩
    · dsimp only
      obtain ⟨hj, hu⟩ := ne hu
      obtain ⟨w, hw, ow, cd⟩ := h1 j u hu
      refine ⟨w, hw, ?_, ?_⟩
      · rw [if_neg hj]
        exact ow
      · rw [if_neg hj]
        exact cd
    · by_cases hj : j = i
      · exact if_pos hj
      · show (if j = i then [] else fp j) = []
        rw [if_neg hj]
        exact h2 j fun u hu => hn u (by rw [List.getElem?_set_ne (Ne.symm hj)]; exact hu)
    · show (if j = i then [] else fp j).Nodup
      split
      · exact List.nodup_nil
      · exact h3 j
    · have hj : a ∈ (if j = i then [] else fp j) := hj
      have hk : a ∈ (if k = i then [] else fp k) := hk
      split at hj
      · cases hj
      · split at hk
        · cases hk
        · exact h4 j k a hjk hj hk
    · have hj : q.1 ∈ (if j = i then [] else fp j) := hj
      split at hj
      · cases hj
      · exact h5 q m j hj
  tmp := s.tmp
  tnd := s.tnd
  bh := s.bh
  b0 := s.b0
  keep := s.keep
  there := s.there
  old := s.old
/-- a flat list of a slot is changed -/
theorem StOk.write {T : List (Addr × HO)} {i : Nat} {a : Addr} {d : D} {xs ys : List D} {vs us : List V} (s : StOk K c T B H σ e) (hd : e[i]? = some (some d)) (hx : d = .own xs ∨ d = .bor xs) (hv : σ[i]? = some (some (.ref a))) (hH : H a = some (.lst vs)) (hs : (ys.all isSh) = true) (r : Shs K B ys us) :
    StOk K c T B (upd H a (.lst us)) σ (e.set i (relab (some d) ys)) := by
  obtain ⟨fp, h1, h2, h3, h4, h5⟩ := s.slots
  obtain ⟨v, hv', ow, cd⟩ := h1 i d hd
  rw [hv] at hv'
  have e3 : V.ref a = v := Option.some.inj (Option.some.inj hv')
  subst e3
  have hi : i < e.length := (List.getElem?_eq_some_iff.mp hd).1
  -- the slot's own list stands at a
  have own : ∃ G, fp i = a :: G ∧ B a = none := by
    have ow := ow.inv
    rcases hx with rfl | rfl
    · obtain ⟨b, ws, G, q1, q2, q3, q4, q5⟩ := ow
      cases q1
      exact ⟨G, q2, q4⟩
    · obtain ⟨b, ws, G, q1, q2, q3, q4, q5⟩ := ow
      cases q1
      exact ⟨G, q2, q4⟩
  obtain ⟨G, hG, hB⟩ := own
  have am : a ∈ fp i := by rw [hG]; exact List.mem_cons_self
  have bh' : Ex B (upd H a (.lst us)) := fun b o q => by
    rw [upd_ne (ne_of_none q hB)]
    exact s.bh b o q
  refine ⟨by rw [List.length_set]; exact s.len, ⟨fun j => if j = i then [a] else fp j, fun j u hu => ?_, fun j hn => ?_, fun j => ?_, fun j k b hjk hj hk => ?_, fun q m j hj => ?_⟩, fun q m => ?_, s.tnd, bh', s.b0, fun b o nl h => ?_, fun b n => ?_, s.old⟩
  · dsimp only
    by_cases hj : j = i
    · subst hj
      have q := set_self hu
      rw [if_pos rfl]
      rcases hx with rfl | rfl
      · cases q
        exact ⟨.ref a, hv, .own upd_same hB r.ows, fun b m => cd b (by rw [List.mem_singleton.mp m]; exact am)⟩
      · cases q
        exact ⟨.ref a, hv, .bor upd_same hB r.ows, cd.1, fun b m => cd.2 b (by rw [List.mem_singleton.mp m]; exact am)⟩
    · rw [List.getElem?_set_ne (Ne.symm hj)] at hu
      obtain ⟨w, hw, ow', cd'⟩ := h1 j u hu
      rw [if_neg hj]
      refine ⟨w, hw, ow'.mono (Evl.Ex.refl B) (fun b m => (ow'.free b m).1) (fun b m o q => ?_), cd'⟩
      rw [upd_ne (fun (z : b = a) => h4 j i b hj m (by rw [z]; exact am))]
      exact q
  · by_cases hj : j = i
    · subst hj
      exfalso
      rcases hx with rfl | rfl
      · exact hn (.own ys) (List.getElem?_set_self hi)
      · exact hn (.bor ys) (List.getElem?_set_self hi)
    · show (if j = i then [a] else fp j) = []
      rw [if_neg hj]
      exact h2 j fun u hu => hn u (by rw [List.getElem?_set_ne (Ne.symm hj)]; exact hu)
  · show (if j = i then [a] else fp j).Nodup
    split
    · exact List.nodup_cons.mpr ⟨by simp, List.nodup_nil⟩
    · exact h3 j
  · have hj : b ∈ (if j = i then [a] else fp j) := hj
    have hk : b ∈ (if k = i then [a] else fp k) := hk
    by_cases zj : j = i
    · rw [if_pos zj] at hj
      rw [if_neg (fun z => hjk (zj.trans z.symm))] at hk
      rw [List.mem_singleton.mp hj] at hk
      exact h4 i k a (fun z => hjk (zj.trans z)) am hk
    · rw [if_neg zj] at hj
      by_cases zk : k = i
      · rw [if_pos zk] at hk
        rw [List.mem_singleton.mp hk] at hj
        exact h4 j i a zj hj am
      · rw [if_neg zk] at hk
        exact h4 j k b hjk hj hk
  · have hj : q.1 ∈ (if j = i then [a] else fp j) := hj
    split at hj
    · exact h5 q m i (by rw [List.mem_singleton.mp hj]; exact am)
    · exact h5 q m j hj
  · obtain ⟨t1, t2, t3⟩ := s.tmp q m
    refine ⟨t1, ?_, t3⟩
    rw [upd_ne (fun (z : q.1 = a) => h5 q m i (by rw [z]; exact am))]
    exact t2
  · have nb : b ≠ a := fun z => by
      subst z
      rcases hx with rfl | rfl
      · have z := cd b am
        rw [h] at z
        cases z
      · rcases cd.2 b am with z | z
        · exact nl ⟨i, z⟩
        · rw [h] at z
          cases z
    rw [upd_ne nb]
    exact s.keep b o nl h
  · by_cases hb : b = a
    · subst hb
      rw [upd_same]
      exact fun z => (nomatch z)
    · rw [upd_ne hb]
      exact s.there b n
end

/-! ### statements -/
section
variable {X : Cx} {c : Ctx} {W : WX} {K : PySem.W.Frag}
/-- how a statement ends -/
def SEnd (K : PySem.W.Frag) (c : Ctx) (W : WX) (B : Hp) (Dn : Ends) (r : Rs Fl) : Prop := match r with
  | .ok .nx e' => ∀ σ' B' H', Ex B B' → StOk K c [] B' H' σ' e' → Dn.nx σ' H'
  | .ok .bk e' => ∀ σ' B' H', Ex B B' → StOk K c [] B' H' σ' e' → Dn.bk σ' H'
  | .ok .ct e' => ∀ σ' B' H', Ex B B' → StOk K c [] B' H' σ' e' → Dn.ct σ' H'
  | .ok (.rt d) e' => ∀ v σ' B' H', Ex B B' → StOk K c [] B' H' σ' e' → Sh K B' d v → Dn.rt v H'
  | .ex x e' => ∀ cls dd σ' B' H', Ex B B' → StOk K c [] B' H' σ' e' → RX K B' x cls dd → W cls dd σ' H'
  | .no => False
theorem liftS_eq {f : M Fl} {Dn : Ends} {σ : L2.St} {H : Hp} : liftS K c W f Dn σ H ↔ ∃ B e, StOk K c [] B H σ e ∧ SEnd K c W B Dn (f e) := Iff.rfl
theorem SEnd.mono {B B' : Hp} {Dn : Ends} {r : Rs Fl} (x : Ex B B') (h : SEnd K c W B Dn r) : SEnd K c W B' Dn r := by
  cases r with
  | no => exact h
  | ex y e => exact fun cls dd σ' B2 H' z => h cls dd σ' B2 H' (x.trans z)
  | ok fl e => cases fl with
    | rt d => exact fun v σ' B2 H' z => h v σ' B2 H' (x.trans z)
    | _ => exact fun σ' B2 H' z => h σ' B2 H' (x.trans z)
/-- from an expression on -/
theorem Pst.go {α : Type} {σ : L2.St} {B : Hp} {r : Rs α} {f : α → M Fl} {Dn : Ends} (h : SEnd K c W B Dn (r.bind f)) : Pst K c [] W σ B r (fun a e' B' _ => SEnd K c W B' Dn (f a e')) := by
  cases r with
  | ok a e => exact fun B' _ x => h.mono x
  | ex y e => exact fun cls dd B' H' x => h cls dd σ B' H' x
  | no => exact h
def sNext : M Fl := mret .nx
def sSeq (a b : M Fl) : M Fl := fun e => match a e with
  | .ok .nx e' => b e'
  | r => r
theorem ds_nil : PSs X [] (liftS X.K c W sNext) := PSs_of pss_nil fun Dn σ H q => by
  obtain ⟨B, e, st, m⟩ := q
  exact m σ B H (Evl.Ex.refl B) st
theorem ds_cons {st : Stmt} {rest : List Stmt} {f g : M Fl} (h : PS X st (liftS X.K c W f)) (r : PSs X rest (liftS X.K c W g)) : PSs X (st :: rest) (liftS X.K c W (sSeq f g)) :=
  PSs_of (pss_cons h r) fun Dn σ H q => by
    obtain ⟨B, e, st, m⟩ := q
    refine ⟨B, e, st, ?_⟩
    have m : SEnd X.K c W B Dn (match f e with
      | .ok .nx e' => g e'
      | r => r) := m
    show SEnd X.K c W B _ (f e)
    generalize f e = r at m ⊢
    cases r with
    | no => exact m
    | ex y e' => exact m
    | ok fl e' => cases fl with
      | nx => exact fun σ' B' H' x st' => ⟨B', e', st', SEnd.mono x m⟩
      | _ => exact m
theorem ds_one {st : Stmt} {f : M Fl} (h : PS X st (liftS X.K c W f)) : PSs X [st] (liftS X.K c W f) := pss_one h
def sPass : M Fl := mret .nx
def sBreak : M Fl := mret .bk
def sCont : M Fl := mret .ct
theorem ds_pass {pos : Pos} : PS X (.Pass pos) (liftS X.K c W sPass) := PS_of ps_pass fun Dn σ H q => by
  obtain ⟨B, e, st, m⟩ := q
  exact m σ B H (Evl.Ex.refl B) st
theorem ds_break {pos : Pos} : PS X (.Break pos) (liftS X.K c W sBreak) := PS_of ps_break fun Dn σ H q => by
  obtain ⟨B, e, st, m⟩ := q
  exact m σ B H (Evl.Ex.refl B) st
theorem ds_cont {pos : Pos} : PS X (.Continue pos) (liftS X.K c W sCont) := PS_of ps_continue fun Dn σ H q => by
  obtain ⟨B, e, st, m⟩ := q
  exact m σ B H (Evl.Ex.refl B) st
/-- return -/
def sRet (f : M D) : M Fl := mbind f fun d => if isSh d = true then mret (.rt d) else fun _ => .no
theorem RT.sh {K : PySem.W.Frag} {B : Hp} {σ : L2.St} {d : D} {v : V} (h : RT K B σ d v) (q : isSh d = true) : Sh K B d v := by
  cases d with
  | al i => exact absurd q Bool.false_ne_true
  | _ => exact h
theorem ds_ret {x : Expr} {f : M D} {pos : Pos} (h : PE X x (lift X.K c W f)) : PS X (.Return (some x) pos) (liftS X.K c W (sRet f)) := PS_of (ps_ret h) fun Dn σ H q => by
  obtain ⟨B, e, st, m⟩ := q
  refine ⟨[], B, e, st, (Pst.go (σ := σ) (show SEnd X.K c W B Dn ((f e).bind _) from m)).imp fun d e1 B1 H1 x1 m1 st1 v rv => ?_⟩
  by_cases hs : isSh d = true
  · rw [if_pos hs] at m1
    exact m1 v σ B1 H1 (Evl.Ex.refl _) st1 (rv.sh hs)
  · rw [if_neg hs] at m1
    exact m1.elim
def sRetN : M Fl := mret (.rt .non)
theorem ds_retN {pos : Pos} : PS X (.Return none pos) (liftS X.K c W sRetN) := PS_of ps_retN fun Dn σ H q => by
  obtain ⟨B, e, st, m⟩ := q
  exact m .non σ B H (Evl.Ex.refl B) st .non
/-- if -/
def sIf (t : M Bool) (a b : M Fl) : M Fl := mbind t fun k => if k = true then a else b
theorem ds_if {x : Expr} {a b : List Stmt} {t : M Bool} {f g : M Fl} {pos : Pos} (ht : PT X x (liftT X.K c W t)) (ha : PSs X a (liftS X.K c W f)) (hb : PSs X b (liftS X.K c W g)) : PS X (.If x a b pos) (liftS X.K c W (sIf t f g)) :=
  PS_of (ps_if ht ha hb) fun Dn σ H q => by
    obtain ⟨B, e, st, m⟩ := q
    refine ⟨[], B, e, st, (Pst.go (σ := σ) (show SEnd X.K c W B Dn ((t e).bind _) from m)).imp fun k e1 B1 H1 x1 m1 st1 => ?_⟩
    cases k with
    | true => exact ⟨B1, e1, st1, m1⟩
    | false => exact ⟨B1, e1, st1, m1⟩
/-- x = e -/
def sAsg (i : Nat) (f : M D) : M Fl := mbind f fun d => if isSh d = true then fun e => .ok .nx (e.set i (some d)) else fun _ => .no
theorem asg_conv {i : Nat} {f : M D} : ∀ Dn σ H, liftS X.K c W (sAsg i f) Dn σ H → tAsg (lift X.K c W f) (gName i) Dn σ H := fun Dn σ H q => by
  obtain ⟨B, e, st, m⟩ := q
  refine ⟨[], B, e, st, (Pst.go (σ := σ) (show SEnd X.K c W B Dn ((f e).bind _) from m)).imp fun d e1 B1 H1 x1 m1 st1 v rv => ?_⟩
  by_cases hs : isSh d = true
  · rw [if_pos hs] at m1
    exact m1 (σ.set i (some v)) B1 H1 (Evl.Ex.refl _) (st1.set (rv.sh hs))
  · rw [if_neg hs] at m1
    exact m1.elim
theorem ds_asg {i : Nat} {x : Str} {y : Expr} {f : M D} {pos pos' : Pos} (hN : X.N.Nodup) (hi : X.N[i]? = some x) (hx : Loc X.env.scope x) (h : PE X y (lift X.K c W f)) (hs : swapsWith y (some (.Name x pos')) pos.line X.env = pure false := by rfl)
    (hf : X.fn x = true ∨ X.env.scope.names.lookup x = some .local := by first | exact .inl rfl | exact .inr rfl | assumption) : PS X (.Assign [.Name x pos'] y pos) (liftS X.K c W (sAsg i f)) := PS_of (ps_set hN hi hx h hs hf) asg_conv
/-- x = a new list, which x owns -/
def sAsgF (i : Nat) (f : M (List D)) : M Fl := mbind f fun ds => fun e => .ok .nx (e.set i (some (.own ds)))
theorem asgF_conv {i : Nat} {f : M (List D)} : ∀ Dn σ H, liftS X.K c W (sAsgF i f) Dn σ H → tAsg (liftF X.K c W f) (gName i) Dn σ H := fun Dn σ H q => by
  obtain ⟨B, e, st, m⟩ := q
  refine ⟨[], B, e, st, (Pst.go (σ := σ) (show SEnd X.K c W B Dn ((f e).bind _) from m)).imp fun ds e1 B1 H1 x1 m1 p vs st1 r => ?_⟩
  exact m1 (σ.set i (some (.ref p))) B1 H1 (Evl.Ex.refl _) (st1.setF r)
theorem ds_asgF {i : Nat} {x : Str} {y : Expr} {f : M (List D)} {pos pos' : Pos} (hN : X.N.Nodup) (hi : X.N[i]? = some x) (hx : Loc X.env.scope x) (h : PE X y (liftF X.K c W f)) (hs : swapsWith y (some (.Name x pos')) pos.line X.env = pure false := by rfl)
    (hf : X.fn x = true ∨ X.env.scope.names.lookup x = some .local := by first | exact .inl rfl | exact .inr rfl | assumption) : PS X (.Assign [.Name x pos'] y pos) (liftS X.K c W (sAsgF i f)) := PS_of (ps_set hN hi hx h hs hf) asgF_conv
/-- an expression alone -/
def sDrop (f : M D) : M Fl := mbind f fun _ => mret .nx
theorem ds_expr {x : Expr} {f : M D} {pos : Pos} (h : PE X x (lift X.K c W f)) (hs : swapsWith x none pos.line X.env = pure false := by rfl) : PS X (.Expr x pos) (liftS X.K c W (sDrop f)) := PS_of (ps_expr h hs) fun Dn σ H q => by
  obtain ⟨B, e, st, m⟩ := q
  refine ⟨[], B, e, st, (Pst.go (σ := σ) (show SEnd X.K c W B Dn ((f e).bind _) from m)).imp fun d e1 B1 H1 x1 m1 st1 v rv => ?_⟩
  exact m1 σ B1 H1 (Evl.Ex.refl _) st1
end
end DL
end

section
set_option maxRecDepth 100000
set_option maxHeartbeats 2000000
namespace DL
open PySem L2
open Evl (Ex)

/-! ### items -/
def lsqA : D → Option (List D)
  | .lst xs => some xs
  | .klst xs => some xs
  | .own xs => some xs
  | .bor xs => some xs
  | _ => none
def shOnly (d : D) : Option D := if isSh d = true then some d else none
def dIdx (x y : D) : Option D := match y with
  | .int i => (match x with
    | .tup xs => atI xs i
    | .str s => if s.length ≤ 1000000 then (atI s.cps.toList i).map fun c => .str ⟨#[c]⟩ else none
    | x => (lsqA x).bind fun xs => (atI xs i).bind shOnly)
  | _ => none
theorem Ows.get {K : PySem.W.Frag} {B H : Hp} : ∀ {ds : List D} {vs : List V} {F : List Addr} {i : Nat} {d : D}, Ows K B H ds vs F → ds[i]? = some d → ∃ v G, vs[i]? = some v ∧ Ow K B H d v G
  | _, _, _, _, _, .nil, e => by simp at e
  | _, _, _, 0, _, .cons h _ _, e => by simp at e; subst e; exact ⟨_, _, rfl, h⟩
  | _, _, _, i + 1, _, .cons _ r _, e => by
    obtain ⟨v, G, h1, h2⟩ := Ows.get (i := i) r (by simpa using e)
    exact ⟨v, G, by simpa using h1, h2⟩
theorem Ow.shOf {K : PySem.W.Frag} {B H : Hp} {d : D} {v : V} {F : List Addr} (h : Ow K B H d v F) (q : isSh d = true) : Sh K B d v := by
  have h := h.inv
  cases d with
  | own _ => exact absurd q Bool.false_ne_true
  | bor _ => exact absurd q Bool.false_ne_true
  | _ => exact h.1
theorem atI_len {α β : Type} {xs : List α} {ys : List β} (h : xs.length = ys.length) {i : Int} {x : α} (e : atI xs i = some x) : ∃ j : Nat, xs[j]? = some x ∧ ∀ y, ys[j]? = some y → atI ys i = some y := by
  unfold atI at e
  cases q : ixN xs.length i with
  | none =>
    rw [q] at e
    cases e
  | some j =>
    rw [q] at e
    refine ⟨j, e, fun y hy => ?_⟩
    unfold atI
    rw [← h, q]
    exact hy
theorem lsqA_ok {K : PySem.W.Frag} {B H : Hp} {d : D} {v : V} {xs : List D} (e : Ex B H) (h : RS K B H d v) (m : lsqA d = some xs) : ∃ a vs G, v = .ref a ∧ SqL K H a vs ∧ Ows K B H xs vs G := by
  cases d with
  | lst ys =>
    cases (show some ys = some xs from m)
    cases (show Sh K B (.lst xs) v from h) with
    | lst h1 r => exact ⟨_, _, _, rfl, SqL.of (e _ _ h1), r.ows⟩
  | klst ys =>
    cases (show some ys = some xs from m)
    cases (show Sh K B (.klst xs) v from h) with
    | klst h1 r => exact ⟨_, _, _, rfl, Evl.ex_l e h1, r.ows⟩
  | own ys =>
    cases (show some ys = some xs from m)
    obtain ⟨a, vs, G, q1, q2, q3⟩ := h
    exact ⟨a, vs, G, q1, SqL.of q2, q3⟩
  | bor ys =>
    cases (show some ys = some xs from m)
    obtain ⟨a, vs, G, q1, q2, q3⟩ := h
    exact ⟨a, vs, G, q1, SqL.of q2, q3⟩
  | _ => cases m
theorem ok_idx {K : PySem.W.Frag} : OpD K (rIx K) dIdx := by
  intro B H x y v u z Q e rx ry ho k
  unfold dIdx at ho
  split at ho
  · rename_i i
    cases (show Sh K B (.int i) u from ry)
    split at ho
    · rename_i xs
      obtain ⟨a, vs, rfl, h1, r⟩ := tsq_ok e rx (show tsq (.tup xs) = some xs from rfl)
      obtain ⟨j, h2, h3⟩ := atI_len r.length ho
      obtain ⟨w, h4, h5⟩ := r.get h2
      exact .inr (.inl ⟨a, vs, i, w, rfl, rfl, h1, h3 w h4, k w B H (Grow.refl e) h5⟩)
    · rename_i s
      cases (show Sh K B (.str s) v from rx)
      by_cases hl : s.length ≤ 1000000
      · rw [if_pos hl] at ho
        cases q : atI s.cps.toList i with
        | none =>
          rw [q] at ho
          cases ho
        | some c =>
          rw [q] at ho
          cases ho
          exact .inr (.inr ⟨s, i, c, rfl, rfl, line_ok hl, q, k _ B H (Grow.refl e) (.str _)⟩)
      · rw [if_neg hl] at ho
        cases ho
    · cases q : lsqA x with
      | none =>
        rw [q] at ho
        cases ho
      | some xs =>
        rw [q] at ho
        have ho : (atI xs i).bind shOnly = some z := ho
        cases q2 : atI xs i with
        | none =>
          rw [q2] at ho
          cases ho
        | some d =>
          rw [q2] at ho
          have ho : (if isSh d = true then some d else none) = some z := ho
          by_cases hs : isSh d = true
          · rw [if_pos hs] at ho
            cases ho
            obtain ⟨a, vs, G, rfl, h1, r⟩ := lsqA_ok e rx q
            obtain ⟨j, h2, h3⟩ := atI_len r.length q2
            obtain ⟨w, G', h4, h5⟩ := r.get h2
            exact .inl ⟨a, vs, i, w, rfl, rfl, h1, h3 w h4, k w B H (Grow.refl e) (h5.shOf hs)⟩
          · rw [if_neg hs] at ho
            cases ho
  · cases ho
section
variable {X : Cx} {c : Ctx} {W : WX} {K : PySem.W.Frag}
theorem de_idx {a b : Expr} {fa fb : M D} {pos : Pos} (ha : PE X a (lift X.K c W fa)) (hb : PE X b (lift X.K c W fb)) (hs : PlainIx b := by exact fun _ _ => rfl) : PE X (.Subscript a b pos) (lift X.K c W (eBin dIdx fa fb)) :=
  PE_of (pe_ix ix_seq ha hb hs) (bin_conv ok_idx)

/-! ### slices -/
def eNoPart : M (Option Int) := mret none
def iOf : D → Option (Option Int)
  | .int i => some (some i)
  | _ => none
def ePart (f : M D) : M (Option Int) := mbind f fun d => mopt (iOf d)
def liftO (K : PySem.W.Frag) (c : Ctx) (W : WX) (f : M (Option Int)) : TO := fun σ H Q => ∃ T B e, StOk K c T B H σ e ∧ Pst K c T W σ B (f e) fun o e' B' H' => StOk K c T B' H' σ e' → Q o H'
theorem do_none : PO X none (liftO X.K c W eNoPart) := ⟨fun pins s σ H Q I q => po_none.run pins s σ H Q I (by
  obtain ⟨T, B, e, st, m⟩ := q
  exact m B H (Evl.Ex.refl B) st)⟩
theorem do_some {x : Expr} {f : M D} (h : PE X x (lift X.K c W f)) : PO X (some x) (liftO X.K c W (ePart f)) := ⟨fun pins s σ H Q I q => (po_some h).run pins s σ H Q I (by
  obtain ⟨T, B, e, st, m⟩ := q
  refine ⟨T, B, e, st, m.bind.imp fun d e1 B1 H1 x1 m1 st1 v rv => ?_⟩
  cases d with
  | int i =>
    cases rv
    exact ⟨i, rfl, m1 B1 H1 (Evl.Ex.refl _) st1⟩
  | _ => exact m1.elim)⟩
def cutD (xs : List D) (lo hi : Option Int) : List D := (xs.drop (HT.sIx xs.length 0 lo)).take (HT.sIx xs.length xs.length hi - HT.sIx xs.length 0 lo)
theorem cut_shs {B : Hp} {xs : List D} {vs : List V} (r : Shs K B xs vs) (lo hi : Option Int) : Shs K B (cutD xs lo hi) (cutV vs lo hi) := by
  unfold cutD cutV
  rw [r.length]
  exact (r.drop _).take _
def dSlice (x : D) (lo hi : Option Int) : Option D := match x with
  | .tup xs => if HT.sIx xs.length 0 lo = 0 ∧ HT.sIx xs.length xs.length hi = xs.length then none else some (.tup (cutD xs lo hi))
  | .str s => if s.length ≤ 1000000 then some (.str (cutS s lo hi)) else none
  | x => (lsq x).map fun xs => .lst (cutD xs lo hi)
def rSlAll (K : PySem.W.Frag) : V → Option Int → Option Int → Hp → VK → Prop := fun x lo hi H Q => rSlL K x lo hi H Q ∨ rSlT K x lo hi H Q ∨ rSlS x lo hi H Q
theorem sl_all : SlR X (rSlAll X.K) := sl_list.or (sl_tup.or sl_str)
def eSlice (f : M D) (lo hi : M (Option Int)) : M D := mbind f fun x => mbind lo fun l => mbind hi fun h => fun e => mopt (dSlice (rs e x) l h) e
theorem slice_ok {B H : Hp} {x : D} {v : V} {lo hi : Option Int} {z : D} {Q : VK} (e : Ex B H) (rx : RS K B H x v) (ho : dSlice x lo hi = some z) (k : ∀ w B' H', Grow B H B' H' → Sh K B' z w → Q w H') : rSlAll K v lo hi H Q := by
  unfold dSlice at ho
  split at ho
  · rename_i xs
    obtain ⟨a, vs, rfl, h1, r⟩ := tsq_ok e rx (show tsq (.tup xs) = some xs from rfl)
    by_cases hw : HT.sIx xs.length 0 lo = 0 ∧ HT.sIx xs.length xs.length hi = xs.length
    · rw [if_pos hw] at ho
      cases ho
    · rw [if_neg hw] at ho
      cases ho
      refine .inr (.inl ⟨a, vs, rfl, h1, by rw [← r.length]; exact hw, fun p hp => ?_⟩)
      have g := Grow.new e (.tup (cutV vs lo hi)) hp
      exact k _ _ _ g (.tup (SqT.of upd_same) ((cut_shs r lo hi).mono g.b))
  · rename_i s
    cases (show Sh K B (.str s) v from rx)
    by_cases hl : s.length ≤ 1000000
    · rw [if_pos hl] at ho
      cases ho
      exact .inr (.inr ⟨s, rfl, line_ok hl, k _ B H (Grow.refl e) (.str _)⟩)
    · rw [if_neg hl] at ho
      cases ho
  · cases q : lsq x with
    | none =>
      rw [q] at ho
      cases ho
    | some xs =>
      rw [q] at ho
      cases ho
      obtain ⟨a, vs, rfl, h1, r⟩ := lsq_ok e rx q
      refine .inl ⟨a, vs, rfl, h1, fun p hp => ?_⟩
      have g := Grow.new e (.lst (cutV vs lo hi)) hp
      exact k _ _ _ g (.lst upd_same ((cut_shs r lo hi).mono g.b))
theorem de_slice {a : Expr} {lo hi : Option Expr} {f : M D} {fl fh : M (Option Int)} {pos p2 : Pos} (ha : PE X a (lift X.K c W f)) (hl : PO X lo (liftO X.K c W fl)) (hh : PO X hi (liftO X.K c W fh)) : PE X (.Subscript a (.Slice lo hi none p2) pos) (lift X.K c W (eSlice f fl fh)) :=
  PE_of (pe_slice sl_all ha hl hh) fun σ H Q q => by
    obtain ⟨T, B, e, st, m⟩ := q
    refine ⟨T, B, e, st, m.bind.imp fun x e1 B1 H1 x1 m1 st1 v rv => ?_⟩
    refine ⟨T, B1, e1, st1, m1.bind.imp fun l e2 B2 H2 x2 m2 st2 => ?_⟩
    refine ⟨T, B2, e2, st2, m2.bind.imp fun h e3 B3 H3 x3 m3 st3 => ?_⟩
    have m3 : Pst X.K c T W σ B3 (mopt (dSlice (rs e3 x) l h) e3) _ := m3
    cases ho : dSlice (rs e3 x) l h with
    | none =>
      rw [ho] at m3
      exact m3.elim
    | some z =>
      rw [ho] at m3
      exact slice_ok st3.ex (rs_ok st3 (rv.mono (x2.trans x3))) ho fun w B' H' g s => m3 B' H' g.b (st3.grow g) w (RT.of s)

/-! ### displays -/
def eTup (fs : M (List D)) : M D := mbind fs fun ds => if (ds.all isSh) = true ∧ ds.length ≤ 1000000 then mret (.tup ds) else fun _ => .no
theorem de_tup {es : List Expr} {fs : M (List D)} {x1} {pos : Pos} (h : PA X es (liftA X.K c W fs)) : PE X (.Tuple es x1 pos) (lift X.K c W (eTup fs)) := PE_of (pe_tup h) fun σ H Q q => by
  obtain ⟨T, B, e, st, m⟩ := q
  refine ⟨T, B, e, st, m.bind.imp fun ds e1 B1 H1 x1 m1 st1 vs rv => ?_⟩
  by_cases hs : (ds.all isSh) = true ∧ ds.length ≤ 1000000
  · rw [if_pos hs] at m1
    refine ⟨by rw [← rv.length]; exact line_ok hs.2, fun p hp => ?_⟩
    have g := Grow.new st1.ex (.tup vs) hp
    exact m1 _ _ g.b (st1.grow g) _ (RT.of (.tup (SqT.of upd_same) ((rv.shs hs.1).mono g.b)))
  · rw [if_neg hs] at m1
    exact m1.elim
/-- a new list at p that nobody owns -/
theorem StOk.fresh {T : List (Addr × HO)} {B H : Hp} {σ : L2.St} {e : Env} (s : StOk K c T B H σ e) {p : Addr} (hp : H p = none) (o : HO) : StOk K c ((p, o) :: T) B (upd H p o) σ e where
  len := s.len
  slots := by
    obtain ⟨fp, h1, h2, h3, h4, h5⟩ := s.slots
    have nm : ∀ i, p ∉ fp i := fun i m => by
      cases he : e[i]? with
      | none =>
        rw [h2 i (fun d z => by rw [he] at z; cases z)] at m
        cases m
      | some od => cases od with
        | none =>
          rw [h2 i (fun d z => by rw [he] at z; cases z)] at m
          cases m
        | some d =>
          obtain ⟨v, _, ow, _⟩ := h1 i d he
          exact (ow.free p m).2 hp
    refine ⟨fp, fun i d hd => ?_, h2, h3, h4, fun q m i hi => ?_⟩
    · obtain ⟨v, hv, ow, cd⟩ := h1 i d hd
      refine ⟨v, hv, ow.mono (Evl.Ex.refl B) (fun a m => (ow.free a m).1) (fun a m o q => ?_), cd⟩
      rw [upd_ne (fun (z : a = p) => nm i (z ▸ m))]
      exact q
    · rcases List.mem_cons.mp m with e | m
      · rw [e] at hi
        exact nm i hi
      · exact h5 q m i hi
  tmp := fun q m => by
    rcases List.mem_cons.mp m with e | m
    · rw [e]
      refine ⟨?_, upd_same, none_ex s.bh hp⟩
      show c.H0 p = none
      cases q : c.H0 p with
      | none => rfl
      | some o => exact absurd hp (s.there p (by rw [q]; exact fun z => (nomatch z)))
    · obtain ⟨t1, t2, t3⟩ := s.tmp q m
      refine ⟨t1, ?_, t3⟩
      rw [upd_ne (ne_of_none t2 hp)]
      exact t2
  tnd := List.nodup_cons.mpr ⟨fun m => by
    obtain ⟨q, mq, z⟩ := List.mem_map.mp m
    have t2 := (s.tmp q mq).2.1
    rw [z, hp] at t2
    exact (nomatch t2), s.tnd⟩
  bh := fun b u q => by
    rw [upd_ne (ne_of_none (s.bh b u q) hp)]
    exact s.bh b u q
  b0 := s.b0
  keep := fun a u nl h => by
    have z := s.keep a u nl h
    rw [upd_ne (ne_of_none z hp)]
    exact z
  there := fun a n => by
    have z := s.there a n
    rw [upd_ne (fun (w : a = p) => z (w ▸ hp))]
    exact z
  old := s.old
def eLstF (fs : M (List D)) : M (List D) := mbind fs fun ds => if (ds.all isSh) = true ∧ ds.length ≤ 1000000 then mret ds else fun _ => .no
theorem de_lstF {es : List Expr} {fs : M (List D)} {pos : Pos} (h : PA X es (liftA X.K c W fs)) : PE X (.List es pos) (liftF X.K c W (eLstF fs)) := PE_of (pe_lst h) fun σ H Q q => by
  obtain ⟨T, B, e, st, m⟩ := q
  refine ⟨T, B, e, st, m.bind.imp fun ds e1 B1 H1 x1 m1 st1 vs rv => ?_⟩
  by_cases hs : (ds.all isSh) = true ∧ ds.length ≤ 1000000
  · rw [if_pos hs] at m1
    refine ⟨by rw [← rv.length]; exact line_ok hs.2, fun p hp => ?_⟩
    exact m1 B1 _ (Evl.Ex.refl _) p vs (st1.fresh hp _) (rv.shs hs.1)
  · rw [if_neg hs] at m1
    exact m1.elim
/-- a new list handed on as shared -/
theorem StOk.freeze {T : List (Addr × HO)} {B H : Hp} {σ : L2.St} {e : Env} {p : Addr} {o : HO} (s : StOk K c ((p, o) :: T) B H σ e) : StOk K c T (upd B p o) H σ e ∧ Ex B (upd B p o) := by
  obtain ⟨hp0, hp, hb⟩ := s.tmp _ List.mem_cons_self
  have ex : Ex B (upd B p o) := Evl.Ex.new hb
  obtain ⟨fp, h1, h2, h3, h4, h5⟩ := s.slots
  refine ⟨⟨s.len, ⟨fp, fun i d hd => ?_, h2, h3, h4, fun q m => h5 q (List.mem_cons_of_mem _ m)⟩, fun q m => ?_, (List.nodup_cons.mp s.tnd).2, fun b u q => ?_, s.b0.trans ex, s.keep, s.there, fun a n z => ?_⟩, ex⟩
  · obtain ⟨v, hv, ow, cd⟩ := h1 i d hd
    refine ⟨v, hv, ow.mono ex (fun a m => ?_) (fun a m o q => q), cd⟩
    rw [upd_ne (fun (w : a = p) => h5 _ List.mem_cons_self i (w ▸ m))]
    exact (ow.free a m).1
  · obtain ⟨t1, t2, t3⟩ := s.tmp q (List.mem_cons_of_mem _ m)
    refine ⟨t1, t2, ?_⟩
    rw [upd_ne (s.tmp_ne q m)]
    exact t3
  · by_cases hbp : b = p
    · subst hbp
      rw [upd_same] at q
      rw [show H b = some o from hp]
      exact q
    · rw [upd_ne hbp] at q
      exact s.bh b u q
  · rw [upd_ne (fun (w : a = p) => n (w ▸ hp0))]
    exact s.old a n z
def eFrz (f : M (List D)) : M D := mbind f fun ds => mret (.lst ds)
theorem de_frz {x : Expr} {f : M (List D)} (h : PE X x (liftF X.K c W f)) : PE X x (lift X.K c W (eFrz f)) := PE_of h fun σ H Q q => by
  obtain ⟨T, B, e, st, m⟩ := q
  refine ⟨T, B, e, st, m.bind.imp fun ds e1 B1 H1 x1 m1 p vs st1 r => ?_⟩
  obtain ⟨st2, ex⟩ := st1.freeze
  exact m1 _ H1 ex st2 _ (RT.of (.lst upd_same (r.mono ex)))
/-- a name whose list becomes shared -/
def eVal (i : Nat) : M D := fun e => match e[i]? with
  | some (some (.own xs)) => if (xs.all isSh) = true then .ok (.lst xs) (e.set i (some (.lst xs))) else .no
  | some (some (.bor _)) => .no
  | some (some (.al _)) => .no
  | some (some d) => .ok d e
  | _ => .no
theorem Ows.nil_of {B H : Hp} : ∀ {ds : List D} {vs : List V} {G : List Addr}, Ows K B H ds vs G → (ds.all isSh) = true → G = []
  | _, _, _, .nil, _ => rfl
  | d :: ds, _, _, .cons h r q, a => by
    rw [List.all_cons, Bool.and_eq_true] at a
    have h2 := h.inv
    rw [q, Ows.nil_of r a.2, List.append_nil]
    cases d with
    | own _ => exact absurd a.1 Bool.false_ne_true
    | bor _ => exact absurd a.1 Bool.false_ne_true
    | _ => exact h2.2
theorem StOk.own_tmp {T : List (Addr × HO)} {B H : Hp} {σ : L2.St} {e : Env} (s : StOk K c T B H σ e) {i : Nat} {xs : List D} (he : e[i]? = some (some (.own xs))) (hs : (xs.all isSh) = true) :
    ∃ p vs, σ[i]? = some (some (.ref p)) ∧ Shs K B xs vs ∧ StOk K c ((p, .lst vs) :: T) B H σ (e.set i none) := by
  obtain ⟨fp, h1, h2, h3, h4, h5⟩ := s.slots
  obtain ⟨v, hv, ow, cd⟩ := h1 i _ he
  have ow := ow.inv
  obtain ⟨p, vs, G, rfl, q2, q3, q4, q5⟩ := ow
  have eG := q5.nil_of hs
  subst eG
  have t : StOk K c T B H σ (e.set i none) := s.drop i
  have pm : p ∈ fp i := by rw [q2]; exact List.mem_cons_self
  refine ⟨p, vs, hv, q5.shs hs, ?_⟩
  refine ⟨t.len, ⟨fun j => if j = i then [] else fp j, fun j u hu => ?_, fun j hn => ?_, fun j => ?_, fun j k a hjk hj hk => ?_, fun q m j hj => ?_⟩, fun q m => ?_, List.nodup_cons.mpr ⟨fun m => ?_, s.tnd⟩, t.bh, t.b0, t.keep, t.there, t.old⟩
  · dsimp only
    have hj : j ≠ i := fun z => by
      subst z
      have := set_self hu
      cases this
    rw [List.getElem?_set_ne (Ne.symm hj)] at hu
    obtain ⟨w, hw, ow', cd'⟩ := h1 j u hu
    rw [if_neg hj]
    exact ⟨w, hw, ow', cd'⟩
  · by_cases hj : j = i
    · exact if_pos hj
    · show (if j = i then [] else fp j) = []
      rw [if_neg hj]
      exact h2 j fun u hu => hn u (by rw [List.getElem?_set_ne (Ne.symm hj)]; exact hu)
  · show (if j = i then [] else fp j).Nodup
    split
    · exact List.nodup_nil
    · exact h3 j
  · have hj : a ∈ (if j = i then [] else fp j) := hj
    have hk : a ∈ (if k = i then [] else fp k) := hk
    split at hj
    · cases hj
    · split at hk
      · cases hk
      · exact h4 j k a hjk hj hk
  · have hj : q.1 ∈ (if j = i then [] else fp j) := hj
    split at hj
    · cases hj
    · rename_i nj
      rcases List.mem_cons.mp m with e | m
      · rw [e] at hj
        exact h4 i j p (fun z => nj z.symm) pm hj
      · exact h5 q m j hj
  · rcases List.mem_cons.mp m with e | m
    · rw [e]
      exact ⟨cd p pm, q3, q4⟩
    · exact s.tmp q m
  · obtain ⟨q, mq, z⟩ := List.mem_map.mp m
    exact h5 q mq i (by rw [z]; exact pm)
theorem set_back {α : Type} {l : List α} {i : Nat} {a b : α} (h : l[i]? = some b) : (l.set i a).set i b = l := by
  apply List.ext_getElem?
  intro j
  by_cases hj : j = i
  · subst hj
    rw [List.getElem?_set_self (by simpa using (List.getElem?_eq_some_iff.mp h).1), h]
  · rw [List.getElem?_set_ne (Ne.symm hj), List.getElem?_set_ne (Ne.symm hj)]
theorem set_same {α : Type} {l : List α} {i : Nat} {b : α} (h : l[i]? = some b) : l.set i b = l := by
  have z := set_back (a := b) h
  apply List.ext_getElem?
  intro j
  by_cases hj : j = i
  · subst hj
    rw [List.getElem?_set_self (by simpa using (List.getElem?_eq_some_iff.mp h).1), h]
  · rw [List.getElem?_set_ne (Ne.symm hj)]
theorem set_set {α : Type} {l : List α} {i : Nat} {a b : α} : (l.set i a).set i b = l.set i b := by
  apply List.ext_getElem?
  intro j
  by_cases hj : j = i
  · subst hj
    by_cases hl : j < l.length
    · rw [List.getElem?_set_self (by simpa using hl), List.getElem?_set_self hl]
    · rw [List.getElem?_eq_none (by simpa using hl), List.getElem?_eq_none (by simpa using hl)]
  · rw [List.getElem?_set_ne (Ne.symm hj), List.getElem?_set_ne (Ne.symm hj), List.getElem?_set_ne (Ne.symm hj)]
theorem de_val {x : Expr} {i : Nat} (h : PE X x (tVar i)) : PE X x (lift X.K c W (eVal i)) := PE_of h fun σ H Q q => by
  obtain ⟨T, B, e, st, m⟩ := q
  obtain ⟨fp, s1, _⟩ := st.slots
  unfold eVal at m
  cases he : e[i]? with
  | none =>
    rw [he] at m
    exact m.elim
  | some o =>
    rw [he] at m
    cases o with
    | none => exact m.elim
    | some d =>
      obtain ⟨v, hv, ow, _⟩ := s1 i d he
      refine ⟨v, hv, ?_⟩
      have ow := ow.inv
      cases d with
      | own xs =>
        have m : Pst X.K c T W σ B (if (xs.all isSh) = true then Rs.ok (D.lst xs) (e.set i (some (D.lst xs))) else Rs.no) _ := m
        by_cases hs : (xs.all isSh) = true
        · rw [if_pos hs] at m
          obtain ⟨p, vs, hv', r, st1⟩ := st.own_tmp he hs
          rw [hv] at hv'
          cases hv'
          obtain ⟨st2, ex⟩ := st1.freeze
          have sh : Sh X.K (upd B p (.lst vs)) (.lst xs) (.ref p) := .lst upd_same (r.mono ex)
          have st3 := st2.set (i := i) sh
          rw [set_same hv, set_set] at st3
          exact m _ H ex st3 _ (RT.of sh)
        · rw [if_neg hs] at m
          exact m.elim
      | bor xs => exact m.elim
      | al j => exact m.elim
      | _ => exact m B H (Evl.Ex.refl B) st v (RT.of ow.1)
end
end DL
end

section
set_option maxRecDepth 100000
set_option maxHeartbeats 2000000
namespace DL
open PySem L2
open Evl (Ex)

/-! ### calls of built-ins, by values -/
/-- the arguments as they stand -/
def RSs (K : PySem.W.Frag) (B H : Hp) : List D → List V → Prop
  | [], vs => vs = []
  | d :: ds, vs => ∃ v us, vs = v :: us ∧ RS K B H d v ∧ RSs K B H ds us
def CallD (K : PySem.W.Frag) (r : List V → Hp → VK → Prop) (op : List D → Option D) : Prop := ∀ (B H : Hp) (ds : List D) (vs : List V) (z : D) (Q : VK), Ex B H → RSs K B H ds vs → op ds = some z →
  (∀ w B' H', Grow B H B' H' → Sh K B' z w → Q w H') → r vs H Q
def eBlt (op : List D → Option D) (fs : M (List D)) : M D := mbind fs fun ds => fun e => mopt (op (ds.map (rs e))) e
section
variable {X : Cx} {c : Ctx} {W : WX} {K : PySem.W.Frag} {fs : M (List D)} {op : List D → Option D} {r : List V → Hp → VK → Prop} {x : Str} {p pos : Pos} {e : Expr} {es : List Expr}
theorem rss_ok {T : List (Addr × HO)} {B H : Hp} {σ : L2.St} {e : Env} (st : StOk K c T B H σ e) : ∀ {ds : List D} {vs : List V}, RTs K B σ ds vs → RSs K B H (ds.map (rs e)) vs
  | [], _, h => h
  | _ :: _, _, ⟨v, us, q, h, r⟩ => ⟨v, us, q, rs_ok st h, rss_ok st r⟩
theorem blt_conv (ok : CallD X.K r op) : ∀ σ H Q, lift X.K c W (eBlt op fs) σ H Q → tCB r (liftA X.K c W fs) σ H Q := fun σ H Q q => by
  obtain ⟨T, B, e, st, m⟩ := q
  refine ⟨T, B, e, st, m.bind.imp fun ds e1 B1 H1 x1 m1 st1 vs rv => ?_⟩
  have m1 : Pst X.K c T W σ B1 (mopt (op (ds.map (rs e1))) e1) _ := m1
  cases ho : op (ds.map (rs e1)) with
  | none =>
    rw [ho] at m1
    exact m1.elim
  | some z =>
    rw [ho] at m1
    exact ok B1 H1 _ vs z Q st1.ex (rss_ok st1 rv) ho fun w B' H' g s => m1 B' H' g.b (st1.grow g) w (RT.of s)
theorem de_blt {id : String} (hc : CallR X (.builtin id) r) (ok : CallD X.K r op) (hg : Gl X x) (hm : X.mg x = none) (hv : bootBuiltins x = some (.builtin id)) (ha : PA X (e :: es) (liftA X.K c W fs)) (hn : x ≠ "__name__" := by decide) (hdb : (x == ("__debug__" : Str)) = false := by decide)
    (he : starEach (e :: es) X.env = (false, eval e X.env) :: starEach es X.env := by rfl) (hpl : (backTo pos (starEach es X.env)).any (·.1) = false := by rfl) : PE X (.Call (.Name x p) (e :: es) [] pos) (lift X.K c W (eBlt op fs)) :=
  PE_of (pe_callB hc hg hm hv ha hn hdb he hpl) (blt_conv ok)
theorem de_bltTy {T : String} (hc : CallR X (.type T) r) (ok : CallD X.K r op) (hg : Gl X x) (hm : X.mg x = none) (hv : bootBuiltins x = some (.type T)) (ha : PA X (e :: es) (liftA X.K c W fs)) (hn : x ≠ "__name__" := by decide) (hdb : (x == ("__debug__" : Str)) = false := by decide)
    (he : starEach (e :: es) X.env = (false, eval e X.env) :: starEach es X.env := by rfl) (hpl : (backTo pos (starEach es X.env)).any (·.1) = false := by rfl) : PE X (.Call (.Name x p) (e :: es) [] pos) (lift X.K c W (eBlt op fs)) :=
  PE_of (pe_callTy hc hg hm hv ha hn hdb he hpl) (blt_conv ok)
theorem de_bltFn {id : String} (hc : CallR X (.builtin id) r) (ok : CallD X.K r op) (hg : Gl X x) (hm : X.mg x = some (.builtin id)) (ha : PA X (e :: es) (liftA X.K c W fs)) (hdb : (x == ("__debug__" : Str)) = false := by decide)
    (he : starEach (e :: es) X.env = (false, eval e X.env) :: starEach es X.env := by rfl) (hpl : (backTo pos (starEach es X.env)).any (·.1) = false := by rfl) : PE X (.Call (.Name x p) (e :: es) [] pos) (lift X.K c W (eBlt op fs)) :=
  PE_of (pe_callBfun hc hg hm ha hdb he hpl) (blt_conv ok)
end
/-- one int in, one value out -/
def d1Int (f : Int → Option D) : List D → Option D
  | [.int i] => f i
  | _ => none
theorem d1Int_some {f : Int → Option D} {ds : List D} {z : D} (h : d1Int f ds = some z) : ∃ i, ds = [.int i] ∧ f i = some z := by
  unfold d1Int at h
  split at h
  · exact ⟨_, rfl, h⟩
  · cases h
theorem rss1 {K : PySem.W.Frag} {B H : Hp} {d : D} {vs : List V} (h : RSs K B H [d] vs) : ∃ v, vs = [v] ∧ RS K B H d v := by
  obtain ⟨v, us, rfl, h1, h2⟩ := h
  cases (show _ = _ from h2)
  exact ⟨v, rfl, h1⟩
theorem rss2 {K : PySem.W.Frag} {B H : Hp} {d d' : D} {vs : List V} (h : RSs K B H [d, d'] vs) : ∃ v v', vs = [v, v'] ∧ RS K B H d v ∧ RS K B H d' v' := by
  obtain ⟨v, us, rfl, h1, h2⟩ := h
  obtain ⟨v', rfl, h3⟩ := rss1 h2
  exact ⟨v, v', rfl, h1, h3⟩
section
variable {K : PySem.W.Frag}
/-- abs -/
def dAbs : List D → Option D := d1Int fun i => some (.int (if i < 0 then -i else i))
theorem ok_abs : CallD K (fun xs H Q => ∃ i, xs = [.int i] ∧ Q (.int (if i < 0 then -i else i)) H) dAbs := by
  intro B H ds vs z Q e r ho k
  obtain ⟨i, rfl, q⟩ := d1Int_some ho
  cases q
  obtain ⟨v, rfl, h⟩ := rss1 r
  cases (show Sh K B (.int i) v from h)
  exact ⟨i, rfl, k _ B H (Grow.refl e) (.int _)⟩
/-- int(n), int(flag) -/
def dToInt : List D → Option D
  | [.int i] => some (.int i)
  | [.bl b] => some (.int (if b then 1 else 0))
  | _ => none
theorem ok_toInt : CallD K (fun xs H Q => (∃ i, xs = [.int i] ∧ Q (.int i) H) ∨ ∃ k, xs = [.bl k] ∧ Q (.int (if k then 1 else 0)) H) dToInt := by
  intro B H ds vs z Q e r ho k
  unfold dToInt at ho
  split at ho
  · rename_i i
    cases ho
    obtain ⟨v, rfl, h⟩ := rss1 r
    cases (show Sh K B (.int i) v from h)
    exact .inl ⟨i, rfl, k _ B H (Grow.refl e) (.int _)⟩
  · rename_i b
    cases ho
    obtain ⟨v, rfl, h⟩ := rss1 r
    cases (show Sh K B (.bl b) v from h)
    exact .inr ⟨b, rfl, k _ B H (Grow.refl e) (.int _)⟩
  · cases ho
/-- len -/
def dLen : List D → Option D
  | [.tup xs] => some (.int xs.length)
  | [.str s] => if s.length ≤ 1000000 then some (.int s.length) else none
  | [d] => (lsqA d).map fun xs => .int xs.length
  | _ => none
theorem ok_len : CallD K (fun xs H Q => ∃ x n, xs = [x] ∧ LenV K x H n ∧ Q (.int n) H) dLen := by
  intro B H ds vs z Q e r ho k
  unfold dLen at ho
  split at ho
  · rename_i xs
    cases ho
    obtain ⟨v, rfl, h⟩ := rss1 r
    obtain ⟨a, us, rfl, h1, h2⟩ := tsq_ok e h (show tsq (.tup xs) = some xs from rfl)
    exact ⟨.ref a, xs.length, rfl, .inr ⟨us, h1, h2.length⟩, k _ B H (Grow.refl e) (.int _)⟩
  · rename_i s
    obtain ⟨v, rfl, h⟩ := rss1 r
    cases (show Sh K B (.str s) v from h)
    by_cases hl : s.length ≤ 1000000
    · rw [if_pos hl] at ho
      cases ho
      exact ⟨.str s, s.length, rfl, ⟨line_ok hl, rfl⟩, k _ B H (Grow.refl e) (.int _)⟩
    · rw [if_neg hl] at ho
      cases ho
  · rename_i d _ _
    obtain ⟨v, rfl, h⟩ := rss1 r
    cases q : lsqA d with
    | none =>
      rw [q] at ho
      cases ho
    | some xs =>
      rw [q] at ho
      cases ho
      obtain ⟨a, us, G, rfl, h1, h2⟩ := lsqA_ok e h q
      exact ⟨.ref a, xs.length, rfl, .inl ⟨us, h1, h2.length⟩, k _ B H (Grow.refl e) (.int _)⟩
  · cases ho
/-- tuple(xs) -/
def dTuple : List D → Option D
  | [.tup xs] => some (.tup xs)
  | [d] => (lsq d).map .tup
  | _ => none
theorem ok_tuple : CallD K (fun xs H Q => ∃ p ys, xs = [.ref p] ∧ ((SqL K H p ys ∧ ∀ l, H l = none → Q (.ref l) (upd H l (.tup ys))) ∨ (SqT K H p ys ∧ Q (.ref p) H))) dTuple := by
  intro B H ds vs z Q e r ho k
  unfold dTuple at ho
  split at ho
  · rename_i xs
    cases ho
    obtain ⟨v, rfl, h⟩ := rss1 r
    obtain ⟨a, us, rfl, h1, h2⟩ := tsq_ok e h (show tsq (.tup xs) = some xs from rfl)
    exact ⟨a, us, rfl, .inr ⟨h1, k _ B H (Grow.refl e) h⟩⟩
  · rename_i d _
    obtain ⟨v, rfl, h⟩ := rss1 r
    cases q : lsq d with
    | none =>
      rw [q] at ho
      cases ho
    | some xs =>
      rw [q] at ho
      cases ho
      obtain ⟨a, us, rfl, h1, h2⟩ := lsq_ok e h q
      refine ⟨a, us, rfl, .inl ⟨h1, fun l hl => ?_⟩⟩
      have g := Grow.new e (.tup us) hl
      exact k _ _ _ g (.tup (SqT.of upd_same) (h2.mono g.b))
  · cases ho
/-- max, min of two ints -/
def dMax2 : List D → Option D
  | [.int i, .int j] => some (.int (if j > i then j else i))
  | _ => none
theorem ok_max2 : CallD K (fun xs H Q => ∃ i j, xs = [.int i, .int j] ∧ Q (.int (if j > i then j else i)) H) dMax2 := by
  intro B H ds vs z Q e r ho k
  unfold dMax2 at ho
  split at ho
  · rename_i i j
    cases ho
    obtain ⟨v, v', rfl, h1, h2⟩ := rss2 r
    cases (show Sh K B (.int i) v from h1)
    cases (show Sh K B (.int j) v' from h2)
    exact ⟨i, j, rfl, k _ B H (Grow.refl e) (.int _)⟩
  · cases ho
/-- the ints of a list -/
def intsOf : List D → Option (List Int)
  | [] => some []
  | .int i :: ds => (intsOf ds).map (i :: ·)
  | _ => none
theorem intsOf_ok {B : Hp} : ∀ {ds : List D} {vs : List V} {ns : List Int}, Shs K B ds vs → intsOf ds = some ns → vs = ns.map V.int
  | [], _, _, h, e => by cases h; cases e; rfl
  | .int i :: ds, _, ns, h, e => by
    cases h with
    | cons h1 r =>
      cases h1
      cases q : intsOf ds with
      | none =>
        rw [intsOf, q] at e
        cases e
      | some ms =>
        rw [intsOf, q] at e
        cases e
        rw [intsOf_ok r q] <;> rfl
  | .non :: _, _, _, _, e => by cases e
  | .bl _ :: _, _, _, _, e => by cases e
  | .str _ :: _, _, _, _, e => by cases e
  | .ty _ :: _, _, _, _, e => by cases e
  | .ref _ :: _, _, _, _, e => by cases e
  | .tup _ :: _, _, _, _, e => by cases e
  | .lst _ :: _, _, _, _, e => by cases e
  | .klst _ :: _, _, _, _, e => by cases e
  | .own _ :: _, _, _, _, e => by cases e
  | .bor _ :: _, _, _, _, e => by cases e
  | .al _ :: _, _, _, _, e => by cases e
def maxI : List Int → Option Int
  | [] => none
  | a :: r => some (r.foldl (fun m n => if n > m then n else m) a)
theorem foldl_max {r : List Int} : ∀ {a : Int}, (r.foldl (fun m n => if n > m then n else m) a = a ∨ r.foldl (fun m n => if n > m then n else m) a ∈ r) ∧ a ≤ r.foldl (fun m n => if n > m then n else m) a ∧ ∀ y ∈ r, y ≤ r.foldl (fun m n => if n > m then n else m) a := by
  induction r with
  | nil => exact fun {a} => ⟨.inl rfl, Int.le_refl _, fun y m => (nomatch m)⟩
  | cons b r ih =>
    intro a
    rw [List.foldl_cons]
    obtain ⟨h1, h2, h3⟩ := ih (a := if b > a then b else a)
    by_cases hb : b > a
    · rw [if_pos hb] at h1 h2 h3 ⊢
      refine ⟨.inr ?_, by omega, fun y m => ?_⟩
      · rcases h1 with h1 | h1
        · rw [h1]
          exact List.mem_cons_self
        · exact List.mem_cons_of_mem _ h1
      · rcases List.mem_cons.mp m with e | m
        · rw [e]
          exact h2
        · exact h3 y m
    · rw [if_neg hb] at h1 h2 h3 ⊢
      refine ⟨?_, h2, fun y m => ?_⟩
      · rcases h1 with h1 | h1
        · exact .inl h1
        · exact .inr (List.mem_cons_of_mem _ h1)
      · rcases List.mem_cons.mp m with e | m
        · rw [e]
          omega
        · exact h3 y m
def dMaxL : List D → Option D
  | [d] => (lsq d).bind fun xs => (intsOf xs).bind fun ns => (maxI ns).map .int
  | _ => none
theorem ok_maxL : CallD K (rMax K) dMaxL := by
  intro B H ds vs z Q e r ho k
  unfold dMaxL at ho
  split at ho
  · rename_i d
    obtain ⟨v, rfl, h⟩ := rss1 r
    cases q : lsq d with
    | none =>
      rw [q] at ho
      cases ho
    | some xs =>
      rw [q] at ho
      have ho : ((intsOf xs).bind fun ns => (maxI ns).map D.int) = some z := ho
      cases q2 : intsOf xs with
      | none =>
        rw [q2] at ho
        cases ho
      | some ns =>
        rw [q2] at ho
        have ho : (maxI ns).map D.int = some z := ho
        obtain ⟨a, us, rfl, h1, h2⟩ := lsq_ok e h q
        rw [intsOf_ok h2 q2] at h1
        cases ns with
        | nil => cases ho
        | cons n r =>
          cases ho
          refine ⟨a, n :: r, rfl, h1, by simp, fun m hm hle => ?_⟩
          obtain ⟨f1, f2, f3⟩ := foldl_max (r := r) (a := n)
          have em : m = r.foldl (fun m n => if n > m then n else m) n := by
            apply Int.le_antisymm
            · rcases List.mem_cons.mp hm with e | hm
              · rw [e]
                exact f2
              · exact f3 m hm
            · rcases f1 with f1 | f1
              · rw [f1]
                exact hle n List.mem_cons_self
              · exact hle _ (List.mem_cons_of_mem _ f1)
          rw [em]
          exact k _ B H (Grow.refl e) (.int _)
  · cases ho
/-- sum of a list of ints -/
def dSum : List D → Option D
  | [d] => (lsq d).bind fun xs => (intsOf xs).map fun ns => .int ns.sum
  | _ => none
theorem ok_sum : CallD K (rSum K) dSum := by
  intro B H ds vs z Q e r ho k
  unfold dSum at ho
  split at ho
  · rename_i d
    obtain ⟨v, rfl, h⟩ := rss1 r
    cases q : lsq d with
    | none =>
      rw [q] at ho
      cases ho
    | some xs =>
      rw [q] at ho
      have ho : ((intsOf xs).map fun ns => D.int ns.sum) = some z := ho
      cases q2 : intsOf xs with
      | none =>
        rw [q2] at ho
        cases ho
      | some ns =>
        rw [q2] at ho
        cases ho
        obtain ⟨a, us, rfl, h1, h2⟩ := lsq_ok e h q
        rw [intsOf_ok h2 q2] at h1
        exact ⟨a, ns, rfl, h1, k _ B H (Grow.refl e) (.int _)⟩
  · cases ho
/-- all of a list of bools -/
def blsOf : List D → Option (List Bool)
  | [] => some []
  | .bl b :: ds => (blsOf ds).map (b :: ·)
  | _ => none
theorem blsOf_ok {B : Hp} : ∀ {ds : List D} {vs : List V} {ns : List Bool}, Shs K B ds vs → blsOf ds = some ns → vs = ns.map V.bl
  | [], _, _, h, e => by cases h; cases e; rfl
  | .bl i :: ds, _, ns, h, e => by
    cases h with
    | cons h1 r =>
      cases h1
      cases q : blsOf ds with
      | none =>
        rw [blsOf, q] at e
        cases e
      | some ms =>
        rw [blsOf, q] at e
        cases e
        rw [blsOf_ok r q] <;> rfl
  | .non :: _, _, _, _, e => by cases e
  | .int _ :: _, _, _, _, e => by cases e
  | .str _ :: _, _, _, _, e => by cases e
  | .ty _ :: _, _, _, _, e => by cases e
  | .ref _ :: _, _, _, _, e => by cases e
  | .tup _ :: _, _, _, _, e => by cases e
  | .lst _ :: _, _, _, _, e => by cases e
  | .klst _ :: _, _, _, _, e => by cases e
  | .own _ :: _, _, _, _, e => by cases e
  | .bor _ :: _, _, _, _, e => by cases e
  | .al _ :: _, _, _, _, e => by cases e
def dAll : List D → Option D
  | [d] => (lsq d).bind fun xs => (blsOf xs).map fun bs => .bl (bs.all id)
  | _ => none
theorem ok_all : CallD K (rAll K) dAll := by
  intro B H ds vs z Q e r ho k
  unfold dAll at ho
  split at ho
  · rename_i d
    obtain ⟨v, rfl, h⟩ := rss1 r
    cases q : lsq d with
    | none =>
      rw [q] at ho
      cases ho
    | some xs =>
      rw [q] at ho
      have ho : ((blsOf xs).map fun bs => D.bl (bs.all id)) = some z := ho
      cases q2 : blsOf xs with
      | none =>
        rw [q2] at ho
        cases ho
      | some ns =>
        rw [q2] at ho
        cases ho
        obtain ⟨a, us, rfl, h1, h2⟩ := lsq_ok e h q
        rw [blsOf_ok h2 q2] at h1
        exact ⟨a, ns, rfl, h1, k _ B H (Grow.refl e) (.bl _)⟩
  · cases ho
/-- isinstance(x, T), T a built-in type -/
def tyName : D → Option String
  | .non => some "NoneType"
  | .bl _ => some "bool"
  | .int _ => some "int"
  | .str _ => some "str"
  | .tup _ => some "tuple"
  | .lst _ => some "list"
  | .own _ => some "list"
  | .bor _ => some "list"
  | _ => none
def dIsi : List D → Option D
  | [x, .ty n] => (tyName x).bind fun t => (kitB t n).map .bl
  | _ => none
theorem ty_ok {B H : Hp} {d : D} {v : V} {t : String} (e : Ex B H) (h : RS K B H d v) (q : tyName d = some t) : TyX K H v (.type t) := by
  cases d with
  | non => cases q; cases (show Sh K B .non v from h); exact .base .non
  | bl b => cases q; cases (show Sh K B (.bl b) v from h); exact .base (.bl _)
  | int i => cases q; cases (show Sh K B (.int i) v from h); exact .base (.int _)
  | str s => cases q; cases (show Sh K B (.str s) v from h); exact .base (.str _)
  | tup xs =>
    cases q
    obtain ⟨a, vs, rfl, h1, _⟩ := tsq_ok e h (show tsq (.tup xs) = some xs from rfl)
    rcases h1 with (h1 | ⟨o, h1⟩) | ⟨o, its, n, h1, h2, _⟩
    · exact .base (.tup h1)
    · exact .fTuple h1
    · exact .kTuple h1 h2
  | lst xs =>
    cases q
    cases (show Sh K B (.lst xs) v from h) with
    | lst h1 r => exact .base (.lst (e _ _ h1))
  | own xs =>
    cases q
    obtain ⟨a, vs, G, rfl, h1, _⟩ := h
    exact .base (.lst h1)
  | bor xs =>
    cases q
    obtain ⟨a, vs, G, rfl, h1, _⟩ := h
    exact .base (.lst h1)
  | _ => cases q
theorem ok_isi : CallD K (rIsi K) dIsi := by
  intro B H ds vs z Q e r ho k
  unfold dIsi at ho
  split at ho
  · rename_i x n
    obtain ⟨v, v', rfl, h1, h2⟩ := rss2 r
    cases (show Sh K B (.ty n) v' from h2)
    cases q : tyName x with
    | none =>
      rw [q] at ho
      cases ho
    | some t =>
      rw [q] at ho
      have ho : (kitB t n).map D.bl = some z := ho
      cases q2 : kitB t n with
      | none =>
        rw [q2] at ho
        cases ho
      | some b =>
        rw [q2] at ho
        cases ho
        exact ⟨v, .ty n, .type t, .type n, b, rfl, .ty n, ty_ok e h1 q, kit_ty q2, k _ B H (Grow.refl e) (.bl _)⟩
  · cases ho
end
def rGcd2 : List V → Hp → VK → Prop := rGcd
def dGcd2 : List D → Option D
  | [.int a, .int b] => some (.int ((Nat.gcd a.natAbs b.natAbs : Nat) : Int))
  | _ => none
theorem ok_gcd2 {K : PySem.W.Frag} : CallD K rGcd dGcd2 := by
  intro B H ds vs z Q e r ho k
  unfold dGcd2 at ho
  split at ho
  · rename_i i j
    cases ho
    obtain ⟨v, v', rfl, h1, h2⟩ := rss2 r
    cases (show Sh K B (.int i) v from h1)
    cases (show Sh K B (.int j) v' from h2)
    exact ⟨i, j, rfl, k _ B H (Grow.refl e) (.int _)⟩
  · cases ho
end DL
end

section
set_option maxRecDepth 100000
set_option maxHeartbeats 2000000
namespace DL
open PySem L2
open Evl (Ex)
/-! #### math.gcd of many -/
theorem args_gcd4 (a b c d : Value) : argsOk "math.gcd" ⟨[a, b, c, d], []⟩ := by unfold argsOk; kernel_rfl
theorem args_gcd6 (a b c d e f : Value) : argsOk "math.gcd" ⟨[a, b, c, d, e, f], []⟩ := by unfold argsOk; kernel_rfl
theorem run_gcd4 (a b c d : Int) (t u v w : Tok) : Gives (Builtin.«math.gcd» ⟨[.int a t, .int b u, .int c v, .int d w], []⟩) (.int ((((((Nat.gcd 0 a.natAbs).gcd b.natAbs).gcd c.natAbs).gcd d.natAbs : Nat) : Int))) :=
  .of_wp fun M A E s Q h => by obtain ⟨hp, g, d, tk, os⟩ := s; wp_walk; exact ⟨_, rfl, h⟩
theorem run_gcd6 (a b c d i j : Int) (t u v w x y : Tok) : Gives (Builtin.«math.gcd» ⟨[.int a t, .int b u, .int c v, .int d w, .int i x, .int j y], []⟩) (.int ((((((((Nat.gcd 0 a.natAbs).gcd b.natAbs).gcd c.natAbs).gcd d.natAbs).gcd i.natAbs).gcd j.natAbs : Nat) : Int))) :=
  .of_wp fun M A E s Q h => by obtain ⟨hp, g, d, tk, os⟩ := s; wp_walk; exact ⟨_, rfl, h⟩
def gcdAll (ns : List Int) : Nat := ns.foldl (fun g n => g.gcd n.natAbs) 0
def rGcdN : List V → Hp → VK → Prop := fun vs H Q => ∃ ns : List Int, vs = ns.map V.int ∧ (ns.length = 2 ∨ ns.length = 4 ∨ ns.length = 6) ∧ Q (.int (gcdAll ns : Int)) H
theorem vals_ints : ∀ {ns : List Int} {us : List Value}, Vals (ns.map V.int) us → ∃ ts : List Tok, ts.length = ns.length ∧ us = List.zipWith Value.int ns ts
  | [], _, .nil => ⟨[], rfl, rfl⟩
  | n :: ns, _, .cons ⟨t, h⟩ r => by
    obtain ⟨ts, h1, h2⟩ := vals_ints r
    exact ⟨t :: ts, by simp [h1], by rw [h, h2] <;> rfl⟩
theorem cr_gcdN {X : Cx} : CallR X (.builtin "math.gcd") rGcdN := by
  intro pins s σ H vs us Q I r h
  obtain ⟨ns, rfl, hl, q⟩ := h
  obtain ⟨ts, h1, rfl⟩ := vals_ints r
  rcases hl with hl | hl | hl
  · match ns, ts, hl, h1, q with
    | [a, b], [t, u], _, _, q =>
      exact call_function_meets PySem.W.MGF.kind_gcd PySem.W.MGF.plain_gcd PySem.W.MGF.entry_gcd (PySem.W.MGF.args_gcd _ _) (PySem.W.mg_run_gcd a t b u).meets ⟨.int _, H, I.tok _, ⟨_, rfl⟩, q⟩
  · match ns, ts, hl, h1, q with
    | [a, b, c, d], [t, u, v, w], _, _, q =>
      exact call_function_meets PySem.W.MGF.kind_gcd PySem.W.MGF.plain_gcd PySem.W.MGF.entry_gcd (args_gcd4 _ _ _ _) (run_gcd4 a b c d t u v w).meets ⟨.int _, H, I.tok _, ⟨_, rfl⟩, q⟩
  · match ns, ts, hl, h1, q with
    | [a, b, c, d, i, j], [t, u, v, w, x, y], _, _, q =>
      exact call_function_meets PySem.W.MGF.kind_gcd PySem.W.MGF.plain_gcd PySem.W.MGF.entry_gcd (args_gcd6 _ _ _ _ _ _) (run_gcd6 a b c d i j t u v w x y).meets ⟨.int _, H, I.tok _, ⟨_, rfl⟩, q⟩
def dGcd (ds : List D) : Option D := (intsOf ds).bind fun ns => if ns.length = 2 ∨ ns.length = 4 ∨ ns.length = 6 then some (.int (gcdAll ns : Int)) else none
theorem rss_shs {K : PySem.W.Frag} {B H : Hp} : ∀ {ds : List D} {vs : List V} {ns : List Int}, RSs K B H ds vs → intsOf ds = some ns → vs = ns.map V.int
  | [], _, _, h, e => by cases (show _ = _ from h); cases e; rfl
  | .int i :: ds, _, ns, ⟨v, us, rfl, h1, r⟩, e => by
    cases (show Sh K B (.int i) v from h1)
    cases q : intsOf ds with
    | none =>
      rw [intsOf, q] at e
      cases e
    | some ms =>
      rw [intsOf, q] at e
      cases e
      rw [rss_shs r q] <;> rfl
  | .non :: _, _, _, _, e => by cases e
  | .bl _ :: _, _, _, _, e => by cases e
  | .str _ :: _, _, _, _, e => by cases e
  | .ty _ :: _, _, _, _, e => by cases e
  | .ref _ :: _, _, _, _, e => by cases e
  | .tup _ :: _, _, _, _, e => by cases e
  | .lst _ :: _, _, _, _, e => by cases e
  | .klst _ :: _, _, _, _, e => by cases e
  | .own _ :: _, _, _, _, e => by cases e
  | .bor _ :: _, _, _, _, e => by cases e
  | .al _ :: _, _, _, _, e => by cases e
theorem ok_gcd {K : PySem.W.Frag} : CallD K rGcdN dGcd := by
  intro B H ds vs z Q e r ho k
  unfold dGcd at ho
  cases q : intsOf ds with
  | none =>
    rw [q] at ho
    cases ho
  | some ns =>
    rw [q] at ho
    have ho : (if ns.length = 2 ∨ ns.length = 4 ∨ ns.length = 6 then some (D.int (gcdAll ns : Int)) else none) = some z := ho
    by_cases hl : ns.length = 2 ∨ ns.length = 4 ∨ ns.length = 6
    · rw [if_pos hl] at ho
      cases ho
      exact ⟨ns, rss_shs r q, hl, k _ B H (Grow.refl e) (.int _)⟩
    · rw [if_neg hl] at ho
      cases ho
end DL
end

section
set_option maxRecDepth 100000
set_option maxHeartbeats 2000000
namespace DL
open PySem L2
open Evl (Ex)
section
variable {X : Cx} {c : Ctx} {W : WX} {K : PySem.W.Frag}

/-! ### and, or, not, a if t else b, - -/
def tAndD (a b : M Bool) : M Bool := mbind a fun k => if k = true then b else mret false
def tOrD (a b : M Bool) : M Bool := mbind a fun k => if k = true then mret true else b
def tNotD (a : M Bool) : M Bool := mbind a fun k => mret (!k)
theorem and_conv {a b : M Bool} : ∀ σ H Q, liftT X.K c W (tAndD a b) σ H Q → tAnd (liftT X.K c W a) (liftT X.K c W b) σ H Q := fun σ H Q q => by
  obtain ⟨T, B, e, st, m⟩ := q
  refine ⟨T, B, e, st, m.bind.imp fun k e1 B1 H1 x1 m1 st1 => ?_⟩
  cases k with
  | true => exact ⟨T, B1, e1, st1, m1⟩
  | false => exact m1 B1 H1 (Evl.Ex.refl _) st1
theorem or_conv {a b : M Bool} : ∀ σ H Q, liftT X.K c W (tOrD a b) σ H Q → tOr (liftT X.K c W a) (liftT X.K c W b) σ H Q := fun σ H Q q => by
  obtain ⟨T, B, e, st, m⟩ := q
  refine ⟨T, B, e, st, m.bind.imp fun k e1 B1 H1 x1 m1 st1 => ?_⟩
  cases k with
  | true => exact m1 B1 H1 (Evl.Ex.refl _) st1
  | false => exact ⟨T, B1, e1, st1, m1⟩
theorem PW_of {e : Expr} {t t' : TT} (h : PW X e t) (k : ∀ σ H Q, t' σ H Q → t σ H Q) : PW X e t' := ⟨fun wh pins s σ H Q I q => h.run wh pins s σ H Q I (k σ H Q q)⟩
theorem dw_and1 {a : Expr} {f : M Bool} {pos : Pos} (h : PT X a (liftT X.K c W f)) : PW X (.BoolOp .And [a] pos) (liftT X.K c W f) := pw_and1 h
theorem dw_or1 {a : Expr} {f : M Bool} {pos : Pos} (h : PT X a (liftT X.K c W f)) : PW X (.BoolOp .Or [a] pos) (liftT X.K c W f) := pw_or1 h
theorem dw_and {a b : Expr} {rest : List Expr} {f g : M Bool} {pos : Pos} (h : PT X a (liftT X.K c W f)) (r : PW X (.BoolOp .And (b :: rest) pos) (liftT X.K c W g)) : PW X (.BoolOp .And (a :: b :: rest) pos) (liftT X.K c W (tAndD f g)) := PW_of (pw_and h r) and_conv
theorem dw_or {a b : Expr} {rest : List Expr} {f g : M Bool} {pos : Pos} (h : PT X a (liftT X.K c W f)) (r : PW X (.BoolOp .Or (b :: rest) pos) (liftT X.K c W g)) : PW X (.BoolOp .Or (a :: b :: rest) pos) (liftT X.K c W (tOrD f g)) := PW_of (pw_or h r) or_conv
theorem dt_not {a : Expr} {f : M Bool} {pos : Pos} (h : PT X a (liftT X.K c W f)) : PT X (.UnaryOp .Not a pos) (liftT X.K c W (tNotD f)) := PT_of (pt_not h) fun σ H Q q => by
  obtain ⟨T, B, e, st, m⟩ := q
  exact ⟨T, B, e, st, m.bind.imp fun k e1 B1 H1 x1 m1 st1 => m1 B1 H1 (Evl.Ex.refl _) st1⟩
/-- as values -/
def eAndD (a b : M D) : M D := mbind a fun x => match x with
  | .bl k => if k = true then b else mret (.bl false)
  | _ => fun _ => .no
def eOrD (a b : M D) : M D := mbind a fun x => match x with
  | .bl k => if k = true then mret (.bl true) else b
  | _ => fun _ => .no
def eNotD (a : M D) : M D := mbind a fun x => match x with
  | .bl k => mret (.bl (!k))
  | _ => fun _ => .no
theorem de_one {a : Expr} {o} {f : M D} {pos : Pos} (h : PE X a (lift X.K c W f)) : PE X (.BoolOp o [a] pos) (lift X.K c W f) := pe_one h
theorem de_and {a b : Expr} {rest : List Expr} {f g : M D} {pos : Pos} (h : PE X a (lift X.K c W f)) (r : PE X (.BoolOp .And (b :: rest) pos) (lift X.K c W g)) : PE X (.BoolOp .And (a :: b :: rest) pos) (lift X.K c W (eAndD f g)) := PE_of (pe_and h r) fun σ H Q q => by
  obtain ⟨T, B, e, st, m⟩ := q
  refine ⟨T, B, e, st, m.bind.imp fun x e1 B1 H1 x1 m1 st1 v rv => ?_⟩
  cases x with
  | bl k =>
    cases rv
    refine ⟨k, rfl, ?_⟩
    cases k with
    | true => exact ⟨T, B1, e1, st1, m1⟩
    | false => exact m1 B1 H1 (Evl.Ex.refl _) st1 _ (RT.of (.bl false))
  | _ => exact m1.elim
theorem de_or {a b : Expr} {rest : List Expr} {f g : M D} {pos : Pos} (h : PE X a (lift X.K c W f)) (r : PE X (.BoolOp .Or (b :: rest) pos) (lift X.K c W g)) : PE X (.BoolOp .Or (a :: b :: rest) pos) (lift X.K c W (eOrD f g)) := PE_of (pe_or h r) fun σ H Q q => by
  obtain ⟨T, B, e, st, m⟩ := q
  refine ⟨T, B, e, st, m.bind.imp fun x e1 B1 H1 x1 m1 st1 v rv => ?_⟩
  cases x with
  | bl k =>
    cases rv
    refine ⟨k, rfl, ?_⟩
    cases k with
    | true => exact m1 B1 H1 (Evl.Ex.refl _) st1 _ (RT.of (.bl true))
    | false => exact ⟨T, B1, e1, st1, m1⟩
  | _ => exact m1.elim
theorem de_not {a : Expr} {f : M D} {pos : Pos} (h : PE X a (lift X.K c W f)) : PE X (.UnaryOp .Not a pos) (lift X.K c W (eNotD f)) := PE_of (pe_not h) fun σ H Q q => by
  obtain ⟨T, B, e, st, m⟩ := q
  refine ⟨T, B, e, st, m.bind.imp fun x e1 B1 H1 x1 m1 st1 v rv => ?_⟩
  cases x with
  | bl k =>
    cases rv
    exact ⟨k, rfl, m1 B1 H1 (Evl.Ex.refl _) st1 _ (RT.of (.bl _))⟩
  | _ => exact m1.elim
def eIf (t : M Bool) (a b : M D) : M D := mbind t fun k => if k = true then a else b
theorem de_if {t a b : Expr} {f : M Bool} {g h : M D} {pos : Pos} (ht : PT X t (liftT X.K c W f)) (ha : PE X a (lift X.K c W g)) (hb : PE X b (lift X.K c W h)) : PE X (.IfExp t a b pos) (lift X.K c W (eIf f g h)) := PE_of (pe_ifExp ht ha hb) fun σ H Q q => by
  obtain ⟨T, B, e, st, m⟩ := q
  refine ⟨T, B, e, st, m.bind.imp fun k e1 B1 H1 x1 m1 st1 => ?_⟩
  cases k with
  | true => exact ⟨T, B1, e1, st1, m1⟩
  | false => exact ⟨T, B1, e1, st1, m1⟩
def dNeg : D → Option D
  | .int i => some (.int (-i))
  | _ => none
theorem de_neg {a : Expr} {f : M D} {pos : Pos} (h : PE X a (lift X.K c W f)) : PE X (.UnaryOp .USub a pos) (lift X.K c W (eUn dNeg f)) := PE_of (pe_un un_neg h) fun σ H Q q => by
  obtain ⟨T, B, e, st, m⟩ := q
  refine ⟨T, B, e, st, m.bind.imp fun x e1 B1 H1 x1 m1 st1 v rv => ?_⟩
  have m1 : Pst X.K c T W σ B1 (mopt (dNeg (rs e1 x)) e1) _ := m1
  have r := rs_ok st1 rv
  cases q : rs e1 x with
  | int i =>
    rw [q] at m1 r
    cases (show Sh X.K B1 (.int i) v from r)
    exact ⟨i, rfl, m1 B1 H1 (Evl.Ex.refl _) st1 _ (RT.of (.int _))⟩
  | _ =>
    rw [q] at m1
    exact m1.elim
/-- a value's truth as a test -/
def dTru (x : D) : Option Bool := match x with
  | .non => some false
  | .bl b => some b
  | .int i => some (i != 0)
  | .str s => if s.length ≤ 1000000 then some ((s.length : Int) != 0) else none
  | .tup xs => some (!xs.isEmpty)
  | x => (lsqA x).map fun xs => !xs.isEmpty
def tTruD (f : M D) : M Bool := mbind f fun x => fun e => mopt (dTru (rs e x)) e
theorem isEmpty_len {α β : Type} {xs : List α} {ys : List β} (h : xs.length = ys.length) : (!xs.isEmpty) = !ys.isEmpty := by
  cases xs with
  | nil => cases ys with
    | nil => rfl
    | cons _ _ => cases h
  | cons _ _ => cases ys with
    | nil => cases h
    | cons _ _ => rfl
theorem tru_D {B H : Hp} {x : D} {v : V} {k : Bool} (e : Ex B H) (r : RS K B H x v) (ho : dTru x = some k) : TruV K v H k := by
  unfold dTru at ho
  split at ho
  · cases ho; cases (show Sh K B .non v from r); rfl
  · rename_i b; cases ho; cases (show Sh K B (.bl k) v from r); rfl
  · rename_i i; cases ho; cases (show Sh K B (.int i) v from r); rfl
  · rename_i s
    cases (show Sh K B (.str s) v from r)
    by_cases hl : s.length ≤ 1000000
    · rw [if_pos hl] at ho
      cases ho
      exact ⟨line_ok hl, rfl⟩
    · rw [if_neg hl] at ho
      cases ho
  · rename_i xs
    cases ho
    obtain ⟨a, us, rfl, h1, h2⟩ := tsq_ok e r (show tsq (.tup xs) = some xs from rfl)
    exact .inr (.inl ⟨us, h1, isEmpty_len h2.length⟩)
  · cases q : lsqA x with
    | none =>
      rw [q] at ho
      cases ho
    | some xs =>
      rw [q] at ho
      cases ho
      obtain ⟨a, us, G, rfl, h1, h2⟩ := lsqA_ok e r q
      exact .inl ⟨us, h1, isEmpty_len h2.length⟩
theorem dt_tru {x : Expr} {f : M D} (h : PE X x (lift X.K c W f)) (he : ∀ whole, isTrue x X.env whole = (do let v ← whole; standAt x.pos; holding [v] (truthy v)) := by intro _; rfl) : PT X x (liftT X.K c W (tTruD f)) := PT_of (pt_truth h he) fun σ H Q q => by
  obtain ⟨T, B, e, st, m⟩ := q
  refine ⟨T, B, e, st, m.bind.imp fun d e1 B1 H1 x1 m1 st1 v rv => ?_⟩
  have m1 : Pst X.K c T W σ B1 (mopt (dTru (rs e1 d)) e1) _ := m1
  cases ho : dTru (rs e1 d) with
  | none =>
    rw [ho] at m1
    exact m1.elim
  | some k =>
    rw [ho] at m1
    exact ⟨k, tru_D st1.ex (rs_ok st1 rv) ho, m1 B1 H1 (Evl.Ex.refl _) st1⟩

/-! ### a list of one's own changed -/
/-- what an alias stands for -/
def ownAt (e : Env) (d : D) : Option (Nat × D × List D) := match d with
  | .al i => (match e[i]? with
    | some (some (.own xs)) => some (i, .own xs, xs)
    | some (some (.bor xs)) => some (i, .bor xs, xs)
    | _ => none)
  | _ => none
theorem ownAt_ok {T : List (Addr × HO)} {B H : Hp} {σ : L2.St} {e : Env} {d d0 : D} {v : V} {i : Nat} {xs : List D} (st : StOk K c T B H σ e) (r : RT K B σ d v) (h : ownAt e d = some (i, d0, xs)) :
    e[i]? = some (some d0) ∧ (d0 = .own xs ∨ d0 = .bor xs) ∧ ∃ a vs G, v = .ref a ∧ σ[i]? = some (some (.ref a)) ∧ H a = some (.lst vs) ∧ Ows K B H xs vs G := by
  unfold ownAt at h
  split at h
  · rename_i j
    obtain ⟨fp, s1, _⟩ := st.slots
    split at h
    · rename_i ys q
      cases h
      obtain ⟨u, hu, ow, _⟩ := s1 _ _ q
      rw [show σ[i]? = some (some v) from r] at hu
      cases hu
      have ow := ow.inv
      obtain ⟨a, vs, G, rfl, _, q3, _, q5⟩ := ow
      exact ⟨q, .inl rfl, a, vs, G, rfl, r, q3, q5⟩
    · rename_i ys q
      cases h
      obtain ⟨u, hu, ow, _⟩ := s1 _ _ q
      rw [show σ[i]? = some (some v) from r] at hu
      cases hu
      have ow := ow.inv
      obtain ⟨a, vs, G, rfl, _, q3, _, q5⟩ := ow
      exact ⟨q, .inr rfl, a, vs, G, rfl, r, q3, q5⟩
    · cases h
  · cases h
theorem RT.al_keep {B B' : Hp} {σ : L2.St} {d : D} {v : V} {e : Env} {z : Nat × D × List D} (h : RT K B σ d v) (q : ownAt e d = some z) : RT K B' σ d v := by
  cases d with
  | al i => exact h
  | _ => cases q
theorem ownAt_al {e : Env} {d d0 : D} {i : Nat} {xs : List D} (h : ownAt e d = some (i, d0, xs)) : d = .al i := by
  unfold ownAt at h
  split at h
  · split at h <;> cases h <;> rfl
  · cases h
/-- x.append(y) -/
def appE (e : Env) (o y : D) : Option Env := (ownAt e o).bind fun t => if (t.2.2.all isSh) = true ∧ isSh y = true ∧ t.2.2.length < 1000000 then some (e.set t.1 (relab (some t.2.1) (t.2.2 ++ [y]))) else none
def sApp (fo fy : M D) : M Fl := mbind fo fun o => fun e => if (ownAt e o).isSome = true then (mbind fy fun y => fun e => match appE e o y with
  | some e' => .ok .nx e'
  | none => .no) e else .no
theorem ds_app {o y : Expr} {fo fy : M D} {apos cpos pos : Pos} (ho : PE X o (lift X.K c W fo)) (hy : PE X y (lift X.K c W fy))
    (hs : swapsWith (.Call (.Attribute o "append" apos) [y] [] cpos) none pos.line X.env = pure false := by rfl)
    (hbase : attributeBase o "append" X.env (eval o X.env) = eval o X.env := by rfl)
    (hfew : ((backTo cpos (starEach (y :: []) X.env)).all (fun x => !x.1) && (backToKw cpos (keywordEach [] X.env)).all (fun x => x.1.isSome)
      && decide ((y :: []).length + ([] : List Keyword).length + (if ([] : List Keyword).isEmpty then 0 else 1) < 30)) = true := by rfl)
    (hline : (apos.endLine == cpos.line) = true := by rfl) (he : starEach (y :: []) X.env = (false, eval y X.env) :: starEach [] X.env := by rfl) :
    PS X (.Expr (.Call (.Attribute o "append" apos) [y] [] cpos) pos) (liftS X.K c W (sApp fo fy)) :=
  PS_of (ps_expr (pe_bm PySem.F.plainAttrs_list PySem.F.slot_list_append PySem.F.type_list_append mt_append ho (pa_cons hy pa_nil he) hbase hfew hline he) hs) fun Dn σ H q => by
    obtain ⟨B, e, st, m⟩ := q
    refine ⟨[], B, e, st, (Pst.go (σ := σ) (show SEnd X.K c W B Dn ((fo e).bind _) from m)).imp fun d e1 B1 H1 x1 m1 st1 v rv => ?_⟩
    by_cases hi : (ownAt e1 d).isSome = true
    · have m1 : SEnd X.K c W B1 Dn ((fy e1).bind fun y => fun e => match appE e d y with
        | some e' => .ok .nx e'
        | none => .no) := by
        have m1 : SEnd X.K c W B1 Dn (if (ownAt e1 d).isSome = true then _ else _) := m1
        rw [if_pos hi] at m1
        exact m1
      obtain ⟨z, hz⟩ := Option.isSome_iff_exists.mp hi
      obtain ⟨i, d0, xs⟩ := z
      obtain ⟨a1, a2, a, vs, G, rfl, a3, a4, a5⟩ := ownAt_ok st1 rv hz
      refine ⟨.inl ⟨rfl, vs, SqL.of a4⟩, [], B1, e1, st1, (Pst.go (σ := σ) m1).imp fun y e2 B2 H2 x2 m2 st2 u ru => ?_⟩
      have m2 : SEnd X.K c W B2 Dn (match appE e2 d y with
        | some e' => .ok .nx e'
        | none => .no) := m2
      cases q : appE e2 d y with
      | none =>
        rw [q] at m2
        exact m2.elim
      | some e' =>
        rw [q] at m2
        unfold appE at q
        cases q2 : ownAt e2 d with
        | none =>
          rw [q2] at q
          cases q
        | some t =>
          obtain ⟨j, d1, ys⟩ := t
          rw [q2] at q
          have q : (if (ys.all isSh) = true ∧ isSh y = true ∧ ys.length < 1000000 then some (e2.set j (relab (some d1) (ys ++ [y]))) else none) = some e' := q
          by_cases hc : (ys.all isSh) = true ∧ isSh y = true ∧ ys.length < 1000000
          · rw [if_pos hc] at q
            cases q
            obtain ⟨b1, b2, b, us, G', eb, b3, b4, b5⟩ := ownAt_ok st2 (rv.al_keep hz) q2
            cases eb
            have r := b5.shs hc.1
            refine ⟨a, us, u, rfl, rfl, b4, Nat.lt_of_lt_of_le (by rw [← b5.length]; exact hc.2.2) (line_ok (Nat.le_refl _)), ?_⟩
            exact m2 σ B2 _ (Evl.Ex.refl _) (st2.write b1 b2 b3 b4 (by rw [List.all_append, hc.1]; simp [hc.2.1]) (r.append (.cons (ru.sh hc.2.1) .nil)))
          · rw [if_neg hc] at q
            cases q
    · exfalso
      have m1 : SEnd X.K c W B1 Dn (if (ownAt e1 d).isSome = true then _ else _) := m1
      rw [if_neg hi] at m1
      exact m1
/-- x[i] = y -/
def subE (e : Env) (o i y : D) : Option Env := match i with
  | .int k => (ownAt e o).bind fun t => (ixN t.2.2.length k).bind fun j => if (t.2.2.all isSh) = true ∧ isSh y = true then some (e.set t.1 (relab (some t.2.1) (t.2.2.set j y))) else none
  | _ => none
def sSub (fo fi fy : M D) : M Fl := mbind fy fun y => if isSh y = true then mbind fo fun o => mbind fi fun i => fun e => match subE e o i y with
  | some e' => .ok .nx e'
  | none => .no
  else fun _ => .no
theorem Shs.set {B : Hp} {d : D} {v : V} (h : Sh K B d v) : ∀ {ds : List D} {vs : List V} (i : Nat), Shs K B ds vs → Shs K B (ds.set i d) (vs.set i v)
  | _, _, _, .nil => .nil
  | _, _, 0, .cons _ r => .cons h r
  | _, _, i + 1, .cons h' r => .cons h' (Shs.set h i r)
theorem ds_sub {o i y : Expr} {fo fi fy : M D} {spos pos : Pos} (ho : PE X o (lift X.K c W fo)) (hi : PE X i (lift X.K c W fi)) (hy : PE X y (lift X.K c W fy))
    (hs : swapsWithSole [.Subscript o i spos] y pos.line X.env = pure false := by rfl) (hw : swappedStores [.Subscript o i spos] y X.env = pure none := by rfl)
    (h1 : (assignEach [.Subscript o i spos] X.env).map (·.2) = [assign (.Subscript o i spos) X.env] := by rfl)
    (ha : ∀ v, assign (.Subscript o i spos) X.env v = (do
      let ov ← holding [v] (eval o X.env)
      let iv ← holding [v, ov] (eval i X.env)
      standAt spos
      holding [v, ov, iv] (setItem ov iv v)
      release [v, ov, iv] []) := by intro _; rfl) :
    PS X (.Assign [.Subscript o i spos] y pos) (liftS X.K c W (sSub fo fi fy)) :=
  PS_of (ps_asg hy (pg_sub ho hi set_list ha) hs hw h1) fun Dn σ H q => by
    obtain ⟨B, e, st, m⟩ := q
    refine ⟨[], B, e, st, (Pst.go (σ := σ) (show SEnd X.K c W B Dn ((fy e).bind _) from m)).imp fun y e1 B1 H1 x1 m1 st1 u ru => ?_⟩
    by_cases hy : isSh y = true
    · rw [if_pos hy] at m1
      refine ⟨[], B1, e1, st1, (Pst.go (σ := σ) m1).imp fun d e2 B2 H2 x2 m2 st2 v rv => ?_⟩
      refine ⟨[], B2, e2, st2, (Pst.go (σ := σ) m2).imp fun k e3 B3 H3 x3 m3 st3 w rw' => ?_⟩
      have m3 : SEnd X.K c W B3 Dn (match subE e3 d k y with
        | some e' => .ok .nx e'
        | none => .no) := m3
      cases q : subE e3 d k y with
      | none =>
        rw [q] at m3
        exact m3.elim
      | some e' =>
        rw [q] at m3
        unfold subE at q
        cases k with
        | int k =>
          cases rw'
          have q : ((ownAt e3 d).bind fun t => (ixN t.2.2.length k).bind fun j => if (t.2.2.all isSh) = true ∧ isSh y = true then some (e3.set t.1 (relab (some t.2.1) (t.2.2.set j y))) else none) = some e' := q
          cases q2 : ownAt e3 d with
          | none =>
            rw [q2] at q
            cases q
          | some t =>
            obtain ⟨j, d1, ys⟩ := t
            rw [q2] at q
            have q : ((ixN ys.length k).bind fun n => if (ys.all isSh) = true ∧ isSh y = true then some (e3.set j (relab (some d1) (ys.set n y))) else none) = some e' := q
            cases q3 : ixN ys.length k with
            | none =>
              rw [q3] at q
              cases q
            | some n =>
              rw [q3] at q
              have q : (if (ys.all isSh) = true ∧ isSh y = true then some (e3.set j (relab (some d1) (ys.set n y))) else none) = some e' := q
              by_cases hc : (ys.all isSh) = true ∧ isSh y = true
              · rw [if_pos hc] at q
                cases q
                obtain ⟨b1, b2, b, us, G', rfl, b3, b4, b5⟩ := ownAt_ok st3 (rv.al_keep q2) q2
                have r := b5.shs hc.1
                refine ⟨b, us, k, n, rfl, rfl, b4, by rw [← r.length]; exact q3, ?_⟩
                exact m3 σ B3 _ (Evl.Ex.refl _) (st3.write b1 b2 b3 b4 (List.all_eq_true.mpr fun z mz => by
                  rcases List.mem_or_eq_of_mem_set mz with mz | mz
                  · exact List.all_eq_true.mp hc.1 z mz
                  · rw [mz]
                    exact hc.2) (r.set ((ru.mono (x2.trans x3)).sh hy) n))
              · rw [if_neg hc] at q
                cases q
        | _ => cases q
    · rw [if_neg hy] at m1
      exact m1.elim
end
end DL
end

section
set_option maxRecDepth 100000
set_option maxHeartbeats 2000000
namespace DL
open PySem L2
open Evl (Ex)
section
variable {X : Cx} {c : Ctx} {W : WX} {K : PySem.W.Frag}

/-! ### targets -/
abbrev TgF := D → Env → Option Env
/-- the slots at S may change -/
def liftG (K : PySem.W.Frag) (c : Ctx) (S : List Nat) (t : TgF) : TG := fun v σ H Q => ∃ T B e d, StOk K c T B H σ e ∧ Sh K B d v ∧ match t d e with
  | some e' => ∀ σ' B' H', σ'.length = σ.length → (∀ i, i ∉ S → σ'[i]? = σ[i]?) → Ex B B' → StOk K c T B' H' σ' e' → Q σ' H'
  | none => False
def liftGs (K : PySem.W.Frag) (c : Ctx) (S : List Nat) (t : List D → Env → Option Env) : TGs := fun vs σ H Q => ∃ T B e ds, StOk K c T B H σ e ∧ Shs K B ds vs ∧ match t ds e with
  | some e' => ∀ σ' B' H', σ'.length = σ.length → (∀ i, i ∉ S → σ'[i]? = σ[i]?) → Ex B B' → StOk K c T B' H' σ' e' → Q σ' H'
  | none => False
def gN (i : Nat) : TgF := fun d e => some (e.set i (some d))
def gsNil : List D → Env → Option Env := fun ds e => match ds with
  | [] => some e
  | _ => none
def gsCons (t : TgF) (u : List D → Env → Option Env) : List D → Env → Option Env := fun ds e => match ds with
  | d :: r => (t d e).bind (u r)
  | [] => none
/-- of a sequence of n items -/
def gT (n : Nat) (t : List D → Env → Option Env) : TgF := fun d e => match d with
  | .tup xs => if xs.length = n then t xs e else none
  | .lst xs => if xs.length = n then t xs e else none
  | .klst xs => if xs.length = n then t xs e else none
  | _ => none
theorem PG_of {x : Expr} {t t' : TG} (h : PG X x t) (k : ∀ v σ H Q, t' v σ H Q → t v σ H Q) : PG X x t' := ⟨fun pins s σ H v u Q I r q => h.run pins s σ H v u Q I r (k v σ H Q q)⟩
theorem PGs_of {x : List Expr} {t t' : TGs} (h : PGs X x t) (k : ∀ v σ H Q, t' v σ H Q → t v σ H Q) : PGs X x t' := ⟨fun pins s σ H v u Q I r q => h.run pins s σ H v u Q I r (k v σ H Q q)⟩
theorem PG_or {x : Expr} {t u : TG} (h : PG X x t) (h' : PG X x u) : PG X x (fun v σ H Q => t v σ H Q ∨ u v σ H Q) := ⟨fun pins s σ H v w Q I r q => by
  rcases q with q | q
  · exact h.run pins s σ H v w Q I r q
  · exact h'.run pins s σ H v w Q I r q⟩
theorem dg_name {i : Nat} {x : Str} {pos : Pos} (hN : X.N.Nodup) (hi : X.N[i]? = some x) (hx : Loc X.env.scope x) (hf : X.fn x = true ∨ X.env.scope.names.lookup x = some .local := by first | exact .inl rfl | exact .inr rfl | assumption) : PG X (.Name x pos) (liftG X.K c [i] (gN i)) :=
  PG_of (pg_name hN hi hx hf) fun v σ H Q q => by
    obtain ⟨T, B, e, d, st, sh, m⟩ := q
    refine m (σ.set i (some v)) B H (by rw [List.length_set]) (fun j hj => ?_) (Evl.Ex.refl B) (st.set sh)
    rw [List.getElem?_set_ne (fun z => hj (by simp [z]))]
theorem dgs_nil : PGs X [] (liftGs X.K c [] gsNil) := PGs_of pgs_nil fun vs σ H Q q => by
  obtain ⟨T, B, e, ds, st, sh, m⟩ := q
  cases ds with
  | nil =>
    cases sh
    exact ⟨rfl, m σ B H rfl (fun _ _ => rfl) (Evl.Ex.refl B) st⟩
  | cons d r => exact m.elim
theorem dgs_cons {x : Expr} {xs : List Expr} {S S' : List Nat} {t : TgF} {u : List D → Env → Option Env} (h : PG X x (liftG X.K c S t)) (r : PGs X xs (liftGs X.K c S' u))
    (hs : (assignEach (x :: xs) X.env).map (·.2) = assign x X.env :: (assignEach xs X.env).map (·.2) := by rfl) : PGs X (x :: xs) (liftGs X.K c (S ++ S') (gsCons t u)) := PGs_of (pgs_cons h r hs) fun vs σ H Q q => by
  obtain ⟨T, B, e, ds, st, sh, m⟩ := q
  cases ds with
  | nil => exact m.elim
  | cons d ds =>
    cases sh with
    | @cons _ v _ vs h1 h2 =>
      have m : match (t d e).bind (u ds) with
        | some e' => ∀ σ' B' H', σ'.length = σ.length → (∀ i, i ∉ S ++ S' → σ'[i]? = σ[i]?) → Ex B B' → StOk X.K c T B' H' σ' e' → Q σ' H'
        | none => False := m
      refine ⟨v, vs, rfl, T, B, e, d, st, h1, ?_⟩
      cases q : t d e with
      | none =>
        rw [q] at m
        exact m.elim
      | some e1 =>
        rw [q] at m
        exact fun σ1 B1 H1 l1 k1 x1 st1 => ⟨T, B1, e1, ds, st1, h2.mono x1, by
          have m : match u ds e1 with
            | some e' => ∀ σ' B' H', σ'.length = σ.length → (∀ i, i ∉ S ++ S' → σ'[i]? = σ[i]?) → Ex B B' → StOk X.K c T B' H' σ' e' → Q σ' H'
            | none => False := m
          cases q2 : u ds e1 with
          | none =>
            rw [q2] at m
            exact m.elim
          | some e2 =>
            rw [q2] at m
            exact fun σ2 B2 H2 l2 k2 x2 st2 => m σ2 B2 H2 (l2.trans l1) (fun i hi => (k2 i fun z => hi (List.mem_append_right _ z)).trans (k1 i fun z => hi (List.mem_append_left _ z))) (x1.trans x2) st2⟩
theorem dg_tup {es : List Expr} {k : Nat} {S : List Nat} {t : List D → Env → Option Env} {n : Nat} {pos : Pos} (hc : X.calm = true) (h : PGs X es (liftGs X.K c S t))
    (hn : (assignEach es X.env).length = n := by rfl) (hst : (assignEach es X.env).findIdx? (·.1) = none := by rfl) : PG X (.Tuple es k pos) (liftG X.K c S (gT n t)) :=
  PG_of (PG_or (pg_tup hc h hn hst) (pg_lst hc h hn hst)) fun v σ H Q q => by
    obtain ⟨T, B, e, d, st, sh, m⟩ := q
    cases d with
    | tup xs =>
      have m : match (if xs.length = n then t xs e else none) with
        | some e' => _
        | none => False := m
      by_cases hl : xs.length = n
      · rw [if_pos hl] at m
        cases sh with
        | tup h1 r => exact .inl ⟨_, _, rfl, Evl.ex_t st.bh h1, r.length.symm.trans hl, T, B, e, xs, st, r, m⟩
      · rw [if_neg hl] at m
        exact m.elim
    | lst xs =>
      have m : match (if xs.length = n then t xs e else none) with
        | some e' => _
        | none => False := m
      by_cases hl : xs.length = n
      · rw [if_pos hl] at m
        cases sh with
        | lst h1 r => exact .inr ⟨_, _, rfl, SqL.of (st.bh _ _ h1), r.length.symm.trans hl, T, B, e, xs, st, r, m⟩
      · rw [if_neg hl] at m
        exact m.elim
    | klst xs =>
      have m : match (if xs.length = n then t xs e else none) with
        | some e' => _
        | none => False := m
      by_cases hl : xs.length = n
      · rw [if_pos hl] at m
        cases sh with
        | klst h1 r => exact .inr ⟨_, _, rfl, Evl.ex_l st.bh h1, r.length.symm.trans hl, T, B, e, xs, st, r, m⟩
      · rw [if_neg hl] at m
        exact m.elim
    | _ => exact m.elim
/-- (a, b) = e -/
def sUnp (t : TgF) (f : M D) : M Fl := mbind f fun d => if isSh d = true then fun e => match t d e with
  | some e' => .ok .nx e'
  | none => .no
  else fun _ => .no
theorem ds_unp {tg x : Expr} {S : List Nat} {t : TgF} {f : M D} {pos : Pos} (h : PE X x (lift X.K c W f)) (hg : PG X tg (liftG X.K c S t)) (hs : swapsWithSole [tg] x pos.line X.env = pure false := by rfl) (hw : swappedStores [tg] x X.env = pure none := by rfl)
    (h1 : (assignEach [tg] X.env).map (·.2) = [assign tg X.env] := by rfl) : PS X (.Assign [tg] x pos) (liftS X.K c W (sUnp t f)) := PS_of (ps_asg h hg hs hw h1) fun Dn σ H q => by
  obtain ⟨B, e, st, m⟩ := q
  refine ⟨[], B, e, st, (Pst.go (σ := σ) (show SEnd X.K c W B Dn ((f e).bind _) from m)).imp fun d e1 B1 H1 x1 m1 st1 v rv => ?_⟩
  by_cases hs : isSh d = true
  · rw [if_pos hs] at m1
    have m1 : SEnd X.K c W B1 Dn (match t d e1 with
      | some e' => .ok .nx e'
      | none => .no) := m1
    refine ⟨[], B1, e1, d, st1, rv.sh hs, ?_⟩
    cases q : t d e1 with
    | none =>
      rw [q] at m1
      exact m1.elim
    | some e2 =>
      rw [q] at m1
      exact fun σ' B' H' _ _ x st' => m1 σ' B' H' x st'
  · rw [if_neg hs] at m1
    exact m1.elim
/-- a, b = x, y of local names -/
def sPar (i j : Nat) (fs : M (List D)) : M Fl := mbind fs fun ds => match ds with
  | [a, b] => if isSh a = true ∧ isSh b = true then fun e => .ok .nx ((e.set i (some a)).set j (some b)) else fun _ => .no
  | _ => fun _ => .no
theorem ds_par {i j : Nat} {x y : Str} {a b : Expr} {fs : M (List D)} {px py pt pos : Pos} {kt k2 pt2} (hc : X.calm = true) (hN : X.N.Nodup) (hi : X.N[i]? = some x) (hj : X.N[j]? = some y) (hij : i ≠ j)
    (hx : X.env.scope.names.lookup x = some .local) (hy : X.env.scope.names.lookup y = some .local) (ha : PA X [a, b] (liftA X.K c W fs))
    (hw : swappedStores [.Tuple [.Name x px, .Name y py] kt pt] (.Tuple [a, b] k2 pt2) X.env = pure (some [x, y]))
    (hs : swapsWithSole [.Tuple [.Name x px, .Name y py] kt pt] (.Tuple [a, b] k2 pt2) pos.line X.env = pure false := by rfl) :
    PS X (.Assign [.Tuple [.Name x px, .Name y py] kt pt] (.Tuple [a, b] k2 pt2) pos) (liftS X.K c W (sPar i j fs)) := PS_of (ps_par hc hN hi hj hij hx hy ha hw hs) fun Dn σ H q => by
  obtain ⟨B, e, st, m⟩ := q
  refine ⟨[], B, e, st, (Pst.go (σ := σ) (show SEnd X.K c W B Dn ((fs e).bind _) from m)).imp fun ds e1 B1 H1 x1 m1 st1 vs rv => ?_⟩
  cases ds with
  | nil => exact m1.elim
  | cons p ds => cases ds with
    | nil => exact m1.elim
    | cons q ds => cases ds with
      | nil =>
        have m1 : SEnd X.K c W B1 Dn ((if isSh p = true ∧ isSh q = true then fun e => .ok .nx ((e.set i (some p)).set j (some q)) else fun _ => .no : M Fl) e1) := m1
        obtain ⟨v, us, rfl, r1, v', us', rfl, r2, r3⟩ := rv
        cases (show _ = _ from r3)
        by_cases hs : isSh p = true ∧ isSh q = true
        · rw [if_pos hs] at m1
          exact ⟨v, v', rfl, m1 _ B1 H1 (Evl.Ex.refl _) ((st1.set (r1.sh hs.1)).set (r2.sh hs.2))⟩
        · rw [if_neg hs] at m1
          exact m1.elim
      | cons _ _ => exact m1.elim

/-! ### what is walked -/
structure ItOk (K : PySem.W.Frag) (B0 : Hp) (J : It) (ds : List D) : Prop where
  go : ∀ i B H, Ex B0 B → Ex B H → i < ds.length → J.go i H
  stop : ∀ i B H, Ex B0 B → Ex B H → ds.length ≤ i → J.stop i H
  yld : ∀ i B H x H', Ex B0 B → Ex B H → i < ds.length → J.yld i H x H' → ∃ B' d, Grow B H B' H' ∧ ds[i]? = some d ∧ Sh K B' d x
def liftI (K : PySem.W.Frag) (c : Ctx) (W : WX) (f : M (List D)) : TI := fun σ H R => ∃ T B e, StOk K c T B H σ e ∧ Pst K c T W σ B (f e) fun ds e' B' H' => StOk K c T B' H' σ e' → ∀ J, ItOk K B' J ds → R J H'
theorem PI_of {tg x : Expr} {t t' : TI} (h : PI X tg x t) (k : ∀ σ H R, t' σ H R → t σ H R) : PI X tg x t' := ⟨fun pins s σ H R I q => h.run pins s σ H R I (k σ H R q)⟩
theorem PI_or {tg x : Expr} {t u : TI} (h : PI X tg x t) (h' : PI X tg x u) : PI X tg x (fun σ H R => t σ H R ∨ u σ H R) := ⟨fun pins s σ H R I q => by
  rcases q with q | q
  · exact h.run pins s σ H R I q
  · exact h'.run pins s σ H R I q⟩
theorem it_tup {B0 : Hp} {a : Addr} {vs : List V} {ds : List D} (h : SqT K B0 a vs) (r : Shs K B0 ds vs) : ItOk K B0 (Itt K a) ds where
  go := fun i B H x y hi => ⟨vs, vs[i]'(by rw [← r.length]; exact hi), Evl.ex_t (x.trans y) h, by simp [← r.length, hi]⟩
  stop := fun i B H x y hi => ⟨vs, Evl.ex_t (x.trans y) h, by rw [← r.length]; exact hi⟩
  yld := fun i B H x H' e1 e2 hi hy => by
    obtain ⟨rfl, hy⟩ := hy
    have hd : ds[i]? = some (ds[i]) := by simp [hi]
    obtain ⟨w, h4, h5⟩ := r.get hd
    have hv := hy vs (Evl.ex_t (e1.trans e2) h)
    rw [h4] at hv
    cases hv
    exact ⟨B, ds[i], Grow.refl e2, hd, h5.mono e1⟩
theorem it_list {B0 : Hp} {a : Addr} {vs : List V} {ds : List D} (h : SqL K B0 a vs) (r : Shs K B0 ds vs) : ItOk K B0 (Itl K a) ds where
  go := fun i B H x y hi => ⟨vs, vs[i]'(by rw [← r.length]; exact hi), Evl.ex_l (x.trans y) h, by simp [← r.length, hi]⟩
  stop := fun i B H x y hi => ⟨vs, Evl.ex_l (x.trans y) h, by rw [← r.length]; exact hi⟩
  yld := fun i B H x H' e1 e2 hi hy => by
    obtain ⟨rfl, hy⟩ := hy
    have hd : ds[i]? = some (ds[i]) := by simp [hi]
    obtain ⟨w, h4, h5⟩ := r.get hd
    have hv := hy vs (Evl.ex_l (e1.trans e2) h)
    rw [h4] at hv
    cases hv
    exact ⟨B, ds[i], Grow.refl e2, hd, h5.mono e1⟩
theorem it_range {B0 : Hp} {lo : Int} {n : Nat} : ItOk K B0 (Itr lo n) ((List.range n).map fun i : Nat => D.int (lo + (i : Int))) where
  go := fun i B H _ _ hi => by
    have hi : i < n := by simpa using hi
    exact hi
  stop := fun i B H _ _ hi => by
    have hi : n ≤ i := by simpa using hi
    exact hi
  yld := fun i B H x H' e1 e2 hi hy => by
    obtain ⟨rfl, rfl⟩ := hy
    have hi : i < n := by simpa using hi
    exact ⟨B, .int (lo + i), Grow.refl e2, by simp [hi], .int _⟩
/-- a sequence -/
def seqSh : D → Option (List D)
  | .lst xs => some xs
  | .klst xs => some xs
  | .tup xs => some xs
  | _ => none
def eIter (f : M D) : M (List D) := mbind f fun d => mopt (seqSh d)
theorem di_seq {tg x : Expr} {f : M D} (h : PE X x (lift X.K c W f)) : PI X tg x (liftI X.K c W (eIter f)) := PI_of (PI_or (pi_list h) (pi_tup h)) fun σ H R q => by
  obtain ⟨T, B, e, st, m⟩ := q
  -- which of both it is, is told by the value that f gives
  have m2 := m.bind
  cases q : f e with
  | no =>
    rw [q] at m2
    exact m2.elim
  | ex y e' =>
    rw [q] at m2
    exact .inl ⟨T, B, e, st, by rw [q]; exact m2⟩
  | ok d e1 =>
    rw [q] at m2
    have goL : (∃ xs, d = .lst xs ∨ d = .klst xs) → iList X.K (lift X.K c W f) σ H R := fun ⟨xs, hd⟩ => by
      refine ⟨T, B, e, st, ?_⟩
      rw [q]
      exact fun B1 H1 x1 st1 v rv => by
        rcases hd with rfl | rfl
        · have rv : Sh X.K B1 (.lst xs) v := rv
          cases rv with
          | lst h1 r => exact ⟨_, rfl, ⟨_, SqL.of (st1.bh _ _ h1)⟩, m2 B1 H1 x1 B1 H1 (Evl.Ex.refl _) st1 _ (it_list (SqL.of h1) r)⟩
        · have rv : Sh X.K B1 (.klst xs) v := rv
          cases rv with
          | klst h1 r => exact ⟨_, rfl, ⟨_, Evl.ex_l st1.bh h1⟩, m2 B1 H1 x1 B1 H1 (Evl.Ex.refl _) st1 _ (it_list h1 r)⟩
    cases d with
    | lst xs => exact .inl (goL ⟨xs, .inl rfl⟩)
    | klst xs => exact .inl (goL ⟨xs, .inr rfl⟩)
    | tup xs =>
      refine .inr ⟨T, B, e, st, ?_⟩
      rw [q]
      exact fun B1 H1 x1 st1 v rv => by
        have rv : Sh X.K B1 (.tup xs) v := rv
        cases rv with
        | tup h1 r => exact ⟨_, rfl, ⟨_, Evl.ex_t st1.bh h1⟩, m2 B1 H1 x1 B1 H1 (Evl.Ex.refl _) st1 _ (it_tup h1 r)⟩
    | _ => exact (m2 B H (Evl.Ex.refl _)).elim
/-- range(n), range(a, b) -/
def rg (lo hi : Int) : List D := (List.range (hi - lo).toNat).map fun i : Nat => D.int (lo + (i : Int))
def rgOf : List D → Option (List D)
  | [.int j] => if -1000000 ≤ j ∧ j ≤ 1000000 then some (rg 0 j) else none
  | _ => none
def rgOf2 : List D → Option (List D)
  | [.int i, .int j] => if -1000000 ≤ i ∧ i ≤ 1000000 ∧ -1000000 ≤ j ∧ j ≤ 1000000 then some (rg i j) else none
  | _ => none
def rgOf3 : List D → Option (List D)
  | [.int i, .int j, .int k] => if -1000000 ≤ i ∧ i ≤ 1000000 ∧ -1000000 ≤ j ∧ j ≤ 1000000 ∧ k = -1 then some ((List.range (i - j).toNat).map fun n : Nat => D.int (i - (n : Int))) else none
  | _ => none
def eRange (fs : M (List D)) : M (List D) := mbind fs fun ds => mopt (rgOf ds)
def eRange2 (fs : M (List D)) : M (List D) := mbind fs fun ds => mopt (rgOf2 ds)
theorem di_range1 {tg a : Expr} {fs : M (List D)} {p pos : Pos} (hg : Gl X "range") (hm : X.mg "range" = none) (ha : PA X [a] (liftA X.K c W fs)) (hs : starEach [a] X.env = [(false, eval a X.env)] := by rfl) : PI X tg (.Call (.Name "range" p) [a] [] pos) (liftI X.K c W (eRange fs)) :=
  PI_of (pi_range1 hg hm ha hs) fun σ H R q => by
    obtain ⟨T, B, e, st, m⟩ := q
    refine ⟨T, B, e, st, m.bind.imp fun ds e1 B1 H1 x1 m1 st1 vs rv => ?_⟩
    have m1 : Pst X.K c T W σ B1 (mopt (rgOf ds) e1) _ := m1
    cases ds with
    | nil => exact m1.elim
    | cons d ds => cases ds with
      | nil =>
        obtain ⟨v, us, rfl, r1, r2⟩ := rv
        cases (show _ = _ from r2)
        cases d with
        | int j =>
          cases r1
          by_cases hj : -1000000 ≤ j ∧ j ≤ 1000000
          · rw [rgOf, if_pos hj] at m1
            refine ⟨j, rfl, by omega, by omega, m1 B1 H1 (Evl.Ex.refl _) st1 _ ?_⟩
            have z : j.toNat = (j - 0).toNat := by omega
            rw [z]
            exact it_range
          · rw [rgOf, if_neg hj] at m1
            exact m1.elim
        | _ => exact m1.elim
      | cons d2 ds => cases d <;> exact m1.elim
theorem di_range2 {tg a b : Expr} {fs : M (List D)} {p pos : Pos} (hg : Gl X "range") (hm : X.mg "range" = none) (ha : PA X [a, b] (liftA X.K c W fs)) (hs : starEach [a, b] X.env = [(false, eval a X.env), (false, eval b X.env)] := by rfl) (hs2 : starEach [b] X.env = [(false, eval b X.env)] := by rfl) :
    PI X tg (.Call (.Name "range" p) [a, b] [] pos) (liftI X.K c W (eRange2 fs)) :=
  PI_of (pi_range2 hg hm ha hs hs2) fun σ H R q => by
    obtain ⟨T, B, e, st, m⟩ := q
    refine ⟨T, B, e, st, m.bind.imp fun ds e1 B1 H1 x1 m1 st1 vs rv => ?_⟩
    have m1 : Pst X.K c T W σ B1 (mopt (rgOf2 ds) e1) _ := m1
    cases q : rgOf2 ds with
    | none =>
      rw [q] at m1
      exact m1.elim
    | some xs =>
      rw [q] at m1
      unfold rgOf2 at q
      split at q
      · rename_i i j
        by_cases hj : -1000000 ≤ i ∧ i ≤ 1000000 ∧ -1000000 ≤ j ∧ j ≤ 1000000
        · rw [if_pos hj] at q
          cases q
          obtain ⟨v, us, rfl, r1, v', us', rfl, r2, r3⟩ := rv
          cases (show _ = _ from r3)
          cases (show Sh X.K B1 (.int i) v from r1)
          cases (show Sh X.K B1 (.int j) v' from r2)
          exact ⟨i, j, rfl, by omega, m1 B1 H1 (Evl.Ex.refl _) st1 _ it_range⟩
        · rw [if_neg hj] at q
          cases q
      · cases q

/-! ### for -/
def forL (t : TgF) (b : M Fl) : List D → M Fl
  | [] => mret .nx
  | d :: ds => fun e => match t d e with
    | none => .no
    | some e1 => match b e1 with
      | .ok .nx e2 => forL t b ds e2
      | .ok .ct e2 => forL t b ds e2
      | .ok .bk e2 => .ok .nx e2
      | r => r
def sFor (it : M (List D)) (t : TgF) (b : M Fl) : M Fl := mbind it fun ds => forL t b ds
theorem drop_cons {α : Type} {l : List α} {i : Nat} {a : α} (h : l[i]? = some a) : l.drop i = a :: l.drop (i + 1) := by
  obtain ⟨hi, e⟩ := List.getElem?_eq_some_iff.mp h
  rw [← e]
  exact List.drop_eq_getElem_cons hi
theorem ds_for {tg x : Expr} {body : List Stmt} {S : List Nat} {t : TgF} {f : M (List D)} {g : M Fl} {pos : Pos} (hp : PassesOwn (model X.prog X.w) X.A X.env X.xe) (hc : X.calm = true) (hi : PI X tg x (liftI X.K c W f)) (hg : PG X tg (liftG X.K c S t)) (hb : PSs X body (liftS X.K c W g))
    (hs : ∀ y, foldedSetIterable x X.env y = pure y := by intro _; rfl) : PS X (.For tg x body [] pos) (liftS X.K c W (sFor f t g)) := PS_of (ps_for hp hc hi hg hb hs) fun Dn σ H q => by
  obtain ⟨B, e, st, m⟩ := q
  refine ⟨[], B, e, st, (Pst.go (σ := σ) (show SEnd X.K c W B Dn ((f e).bind _) from m)).imp fun ds e1 B1 H1 x1 m1 st1 J hJ => ?_⟩
  refine ⟨fun i n σ' H' => n = ds.length - i ∧ i ≤ ds.length ∧ ∃ B' e', Ex B1 B' ∧ StOk X.K c [] B' H' σ' e' ∧ SEnd X.K c W B' Dn (forL t g (ds.drop i) e'), ⟨ds.length, by simp, Nat.zero_le _, B1, e1, Evl.Ex.refl _, st1, m1⟩, ?_⟩
  rintro i n σ' H' ⟨rfl, hle, B2, e2, x2, st2, m2⟩
  by_cases hlt : i < ds.length
  · refine .inr ⟨hJ.go i B2 H' x2 st2.ex hlt, fun σ3 H3 => ∃ B3 e3, Ex B1 B3 ∧ StOk X.K c [] B3 H3 σ3 e3 ∧ SEnd X.K c W B3 Dn (forL t g (ds.drop (i + 1)) e3), fun σ3 H3 ⟨B3, e3, y3, st3, m3⟩ => ⟨ds.length - (i + 1), by omega, rfl, hlt, B3, e3, y3, st3, m3⟩, fun v H3 hy => ?_⟩
    obtain ⟨B3, d, gr, hd, sh⟩ := hJ.yld i B2 H' v H3 x2 st2.ex hlt hy
    rw [drop_cons hd] at m2
    have m2 : SEnd X.K c W B2 Dn (match t d e2 with
      | none => .no
      | some e1 => match g e1 with
        | .ok .nx e2 => forL t g (ds.drop (i + 1)) e2
        | .ok .ct e2 => forL t g (ds.drop (i + 1)) e2
        | .ok .bk e2 => .ok .nx e2
        | r => r) := m2
    refine ⟨[], B3, e2, d, st2.grow gr, sh, ?_⟩
    cases q : t d e2 with
    | none =>
      rw [q] at m2
      exact m2.elim
    | some e3 =>
      rw [q] at m2
      have m2 : SEnd X.K c W B2 Dn (match g e3 with
        | .ok .nx e2 => forL t g (ds.drop (i + 1)) e2
        | .ok .ct e2 => forL t g (ds.drop (i + 1)) e2
        | .ok .bk e2 => .ok .nx e2
        | r => r) := m2
      refine fun σ4 B4 H4 _ _ x4 st4 => ⟨B4, e3, st4, ?_⟩
      generalize g e3 = r at m2 ⊢
      have x24 : Ex B2 B4 := gr.b.trans x4
      cases r with
      | no => exact m2
      | ex y e' => exact SEnd.mono x24 m2
      | ok fl e' => cases fl with
        | nx => exact fun σ5 B5 H5 x5 st5 => ⟨B5, e', (x2.trans x24).trans x5, st5, SEnd.mono (x24.trans x5) m2⟩
        | ct => exact fun σ5 B5 H5 x5 st5 => ⟨B5, e', (x2.trans x24).trans x5, st5, SEnd.mono (x24.trans x5) m2⟩
        | bk => exact SEnd.mono x24 m2
        | rt d => exact SEnd.mono x24 m2
  · have hi : i = ds.length := by omega
    subst hi
    rw [List.drop_length] at m2
    exact .inl ⟨hJ.stop _ B2 H' x2 st2.ex (Nat.le_refl _), m2 σ' B2 H' (Evl.Ex.refl _) st2⟩

/-! ### while -/
def whL (t : M Bool) (b : M Fl) : Nat → M Fl
  | 0 => fun _ => .no
  | n + 1 => fun e => (t e).bind fun k e1 => if k = true then match b e1 with
      | .ok .nx e2 => whL t b n e2
      | .ok .ct e2 => whL t b n e2
      | .ok .bk e2 => .ok .nx e2
      | r => r
    else .ok .nx e1
theorem ds_while {x : Expr} {body : List Stmt} {t : M Bool} {g : M Fl} {pos : Pos} (n : Nat) (hp : PassesOwn (model X.prog X.w) X.A X.env X.xe) (ht : PT X x (liftT X.K c W t)) (hb : PSs X body (liftS X.K c W g)) : PS X (.While x body [] pos) (liftS X.K c W (whL t g n)) :=
  PS_of (ps_while hp ht hb) fun Dn σ H q => by
    obtain ⟨B, e, st, m⟩ := q
    refine ⟨fun n σ' H' => ∃ B' e', Ex B B' ∧ StOk X.K c [] B' H' σ' e' ∧ SEnd X.K c W B' Dn (whL t g n e'), ⟨n, B, e, Evl.Ex.refl _, st, m⟩, ?_⟩
    rintro n σ1 H1 ⟨B1, e1, x1, st1, m1⟩
    cases n with
    | zero => exact m1.elim
    | succ n =>
      refine ⟨[], B1, e1, st1, (Pst.go (σ := σ1) (show SEnd X.K c W B1 Dn ((t e1).bind _) from m1)).imp fun k e2 B2 H2 x2 m2 st2 => ?_⟩
      cases k with
      | false => exact m2 σ1 B2 H2 (Evl.Ex.refl _) st2
      | true =>
        have m2 : SEnd X.K c W B2 Dn (match g e2 with
          | .ok .nx e2 => whL t g n e2
          | .ok .ct e2 => whL t g n e2
          | .ok .bk e2 => .ok .nx e2
          | r => r) := m2
        refine ⟨fun σ3 H3 => ∃ B3 e3, Ex B B3 ∧ StOk X.K c [] B3 H3 σ3 e3 ∧ SEnd X.K c W B3 Dn (whL t g n e3), fun σ3 H3 h => ⟨n, Nat.lt_succ_self n, h⟩, B2, e2, st2, ?_⟩
        have x02 : Ex B B2 := x1.trans x2
        generalize g e2 = r at m2 ⊢
        cases r with
        | no => exact m2
        | ex y e' => exact m2
        | ok fl e' => cases fl with
          | nx => exact fun σ5 B5 H5 x5 st5 => ⟨B5, e', x02.trans x5, st5, SEnd.mono x5 m2⟩
          | ct => exact fun σ5 B5 H5 x5 st5 => ⟨B5, e', x02.trans x5, st5, SEnd.mono x5 m2⟩
          | bk => exact m2
          | rt d => exact m2
end
end DL
end

section
set_option maxRecDepth 100000
set_option maxHeartbeats 2000000
namespace DL
open PySem L2
open Evl (Ex)
section
variable {X : Cx} {c : Ctx} {W : WX} {K : PySem.W.Frag}
abbrev W0 : WX := fun _ _ _ _ => False
/-- the block's own names forgotten -/
def eWipe (e : Env) : List Nat → Env
  | [] => e
  | v :: vs => (eWipe e vs).set v none
theorem eWipe_none {e : Env} {i : Nat} {d : D} : ∀ {vs : List Nat}, (eWipe e vs)[i]? = some (some d) → i ∉ vs ∧ e[i]? = some (some d)
  | [], h => ⟨by simp, h⟩
  | v :: vs, h => by
    have h : ((eWipe e vs).set v none)[i]? = some (some d) := h
    have hi : i ≠ v := fun z => by
      subst z
      have := set_self h
      cases this
    rw [List.getElem?_set_ne (Ne.symm hi)] at h
    obtain ⟨h1, h2⟩ := eWipe_none h
    exact ⟨by simp only [List.mem_cons, not_or]; exact ⟨hi, h1⟩, h2⟩
theorem eWipe_length {e : Env} : ∀ {vs : List Nat}, (eWipe e vs).length = e.length
  | [] => rfl
  | v :: vs => by
    show ((eWipe e vs).set v none).length = e.length
    rw [List.length_set, eWipe_length]
/-- slots that the environment does not know may be anything -/
theorem StOk.other {T : List (Addr × HO)} {B H : Hp} {σ σ' : L2.St} {e : Env} (s : StOk K c T B H σ e) (hl : σ'.length = σ.length) (h : ∀ (i : Nat) (d : D), e[i]? = some (some d) → σ'[i]? = σ[i]?) : StOk K c T B H σ' e := by
  obtain ⟨fp, h1, h2, h3, h4, h5⟩ := s.slots
  refine ⟨s.len.trans hl.symm, ⟨fp, fun i d hd => ?_, h2, h3, h4, h5⟩, s.tmp, s.tnd, s.bh, s.b0, s.keep, s.there, s.old⟩
  obtain ⟨v, hv, ow, cd⟩ := h1 i d hd
  exact ⟨v, (h i d hd).trans hv, ow, cd⟩
theorem StOk.wipeE {T : List (Addr × HO)} {B H : Hp} {σ : L2.St} {e : Env} (s : StOk K c T B H σ e) : ∀ vs : List Nat, StOk K c T B H σ (eWipe e vs)
  | [] => s
  | v :: vs => (StOk.wipeE s vs).drop v
theorem wipe_at {σ : L2.St} {i : Nat} : ∀ {vs : List Nat}, i ∉ vs → (wipe σ vs)[i]? = σ[i]?
  | [], _ => rfl
  | v :: vs, h => by
    simp only [List.mem_cons, not_or] at h
    show ((wipe σ vs).set v none)[i]? = σ[i]?
    rw [List.getElem?_set_ne (Ne.symm h.1), wipe_at h.2]
theorem wipe_in {σ : L2.St} {i : Nat} : ∀ {vs : List Nat}, i ∈ vs → i < σ.length → (wipe σ vs)[i]? = some none
  | v :: vs, h, hl => by
    show ((wipe σ vs).set v none)[i]? = some none
    by_cases hi : i = v
    · subst hi
      exact List.getElem?_set_self (by rw [wipe_length]; exact hl)
    · rw [List.getElem?_set_ne (Ne.symm hi)]
      exact wipe_in ((List.mem_cons.mp h).resolve_left hi) hl
theorem wipe_eq {σ σ' : L2.St} {vs : List Nat} (hl : σ'.length = σ.length) (h : ∀ i, i ∉ vs → σ'[i]? = σ[i]?) : wipe σ' vs = wipe σ vs := by
  apply List.ext_getElem?
  intro i
  by_cases hi : i ∈ vs
  · by_cases hs : i < σ.length
    · rw [wipe_in hi hs, wipe_in hi (by rw [hl]; exact hs)]
    · rw [List.getElem?_eq_none (by rw [wipe_length]; omega), List.getElem?_eq_none (by rw [wipe_length]; omega)]
  · rw [wipe_at hi, wipe_at hi, h i hi]
/-- the list that is being made grows -/
theorem StOk.tmpUpd {T : List (Addr × HO)} {B H : Hp} {σ : L2.St} {e : Env} {p : Addr} {o u : HO} (s : StOk K c ((p, o) :: T) B H σ e) : StOk K c ((p, u) :: T) B (upd H p u) σ e := by
  obtain ⟨fp, h1, h2, h3, h4, h5⟩ := s.slots
  obtain ⟨t1, t2, t3⟩ := s.tmp _ List.mem_cons_self
  refine ⟨s.len, ⟨fp, fun i d hd => ?_, h2, h3, h4, fun q m i => ?_⟩, fun q m => ?_, s.tnd, fun b w q => ?_, s.b0, fun a w nl h => ?_, fun a n => ?_, s.old⟩
  · obtain ⟨v, hv, ow, cd⟩ := h1 i d hd
    refine ⟨v, hv, ow.mono (Evl.Ex.refl B) (fun a m => (ow.free a m).1) (fun a m o q => ?_), cd⟩
    rw [upd_ne (fun (z : a = p) => h5 _ List.mem_cons_self i (z ▸ m))]
    exact q
  · rcases List.mem_cons.mp m with z | m
    · rw [z]
      exact h5 (p, o) List.mem_cons_self i
    · exact h5 q (List.mem_cons_of_mem _ m) i
  · rcases List.mem_cons.mp m with z | m
    · rw [z]
      exact ⟨t1, upd_same, t3⟩
    · obtain ⟨q1, q2, q3⟩ := s.tmp q (List.mem_cons_of_mem _ m)
      refine ⟨q1, ?_, q3⟩
      rw [upd_ne (s.tmp_ne q m)]
      exact q2
  · rw [upd_ne (ne_of_none q t3)]
    exact s.bh b w q
  · have nb : a ≠ p := fun z => by
      rw [z] at h
      rw [show c.H0 p = none from t1] at h
      cases h
    rw [upd_ne nb]
    exact s.keep a w nl h
  · by_cases hb : a = p
    · rw [hb, upd_same]
      exact fun z => (nomatch z)
    · rw [upd_ne hb]
      exact s.there a n
/-! ### comprehensions -/
def Rs.bindN {α β : Type} (r : Rs α) (f : α → M β) : Rs β := match r with
  | .ok a e => f a e
  | _ => .no
def compL (vs : List Nat) (t : TgF) (ft : M Bool) (fe : M D) : List D → List D → M (List D)
  | [], acc => fun e => .ok acc e
  | d :: ds, acc => fun e => match t d e with
    | none => .no
    | some e1 => (ft e1).bindN fun k e2 => if k = true then (fe e2).bindN fun y e3 => if isSh y = true ∧ acc.length < 1000000 then compL vs t ft fe ds (acc ++ [y]) (eWipe e3 vs) else .no
      else compL vs t ft fe ds acc (eWipe e2 vs)
def eComp (it : M (List D)) (vs : List Nat) (t : TgF) (ft : M Bool) (fe : M D) : M (List D) := mbind it fun ds => fun e => compL vs t ft fe ds [] (eWipe e vs)
def tYesD : M Bool := mret true
theorem dts_nil : PTs X [] (liftT X.K c W tYesD) := ⟨fun pins s σ H Q I q => pts_nil.run pins s σ H Q I (by
  obtain ⟨T, B, e, st, m⟩ := q
  exact m B H (Evl.Ex.refl B) st)⟩
theorem dts_one {x : Expr} {f : M Bool} (h : PT X x (liftT X.K c W f)) : PTs X [x] (liftT X.K c W f) := pts_one h
theorem bindN_go {α β : Type} {T : List (Addr × HO)} {σ : L2.St} {B : Hp} {r : Rs α} {f : α → M β} {k : β → Env → Hp → Hp → Prop} (h : Pst K c T W σ B (r.bindN f) k) : ∀ T' σ', Pst K c T' W0 σ' B r (fun a e' B' _ => Pst K c T W σ B' (f a e') k) := fun T' σ' => by
  cases r with
  | ok a e => exact fun B' _ x => Pst.mono x h
  | ex y e => exact h.elim
  | no => exact h
theorem comp_conv {it : M (List D)} {vs S : List Nat} {t : TgF} {ft : M Bool} {fe : M D} (hS : ∀ i ∈ S, i ∈ vs) : ∀ σ H Q, liftF X.K c W (eComp it vs t ft fe) σ H Q → tLc (liftI X.K c W it) (liftG X.K c S t) (liftT X.K c W0 ft) (lift X.K c W0 fe) vs σ H Q := fun σ H Q q => by
  obtain ⟨T, B, e, st, m⟩ := q
  refine ⟨T, B, e, st, m.bind.imp fun ds e1 B1 H1 x1 m1 st1 J hJ Dl hD => ?_⟩
  refine ⟨fun i n H' => n = ds.length - i ∧ i ≤ ds.length ∧ ∃ B' e' acc us, Ex B1 B' ∧ StOk X.K c ((Dl, .lst us) :: T) B' H' (wipe σ vs) e' ∧ (∀ j d, e'[j]? = some (some d) → j ∉ vs) ∧ Shs X.K B' acc us ∧
      Pst X.K c T W σ B' (compL vs t ft fe (ds.drop i) acc e') (fun zs e'' B'' H'' => ∀ p ws, StOk X.K c ((p, .lst ws) :: T) B'' H'' σ e'' → Shs X.K B'' zs ws → Q (.ref p) H''),
    ⟨ds.length, by simp, Nat.zero_le _, B1, eWipe e1 vs, [], [], Evl.Ex.refl _, ?_, fun j d h => (eWipe_none h).1, .nil, m1⟩, ?_⟩
  · refine ((st1.fresh hD _).wipeE vs).other (wipe_length σ vs) fun i d h => wipe_at (eWipe_none h).1
  · rintro i n H2 ⟨rfl, hle, B2, e2, acc, us, x2, st2, hv, sa, m2⟩
    by_cases hlt : i < ds.length
    · refine .inr ⟨hJ.go i B2 H2 x2 st2.ex hlt, fun H' => ∃ B' e' acc us, Ex B1 B' ∧ StOk X.K c ((Dl, .lst us) :: T) B' H' (wipe σ vs) e' ∧ (∀ j d, e'[j]? = some (some d) → j ∉ vs) ∧ Shs X.K B' acc us ∧
          Pst X.K c T W σ B' (compL vs t ft fe (ds.drop (i + 1)) acc e') (fun zs e'' B'' H'' => ∀ p ws, StOk X.K c ((p, .lst ws) :: T) B'' H'' σ e'' → Shs X.K B'' zs ws → Q (.ref p) H''),
        fun H' h => ⟨ds.length - (i + 1), by omega, rfl, hlt, h⟩, fun v H3 hy => ?_⟩
      obtain ⟨B3, d, gr, hd, sh⟩ := hJ.yld i B2 H2 v H3 x2 st2.ex hlt hy
      rw [drop_cons hd] at m2
      have m2 : Pst X.K c T W σ B2 (match t d e2 with
        | none => .no
        | some e1 => (ft e1).bindN fun k e2 => if k = true then (fe e2).bindN fun y e3 => if isSh y = true ∧ acc.length < 1000000 then compL vs t ft fe (ds.drop (i + 1)) (acc ++ [y]) (eWipe e3 vs) else .no
          else compL vs t ft fe (ds.drop (i + 1)) acc (eWipe e2 vs)) _ := m2
      refine ⟨(Dl, .lst us) :: T, B3, e2, d, st2.grow gr, sh, ?_⟩
      cases q : t d e2 with
      | none =>
        rw [q] at m2
        exact m2.elim
      | some e3 =>
        rw [q] at m2
        refine fun σ4 B4 H4 l4 k4 x4 st4 => ?_
        have ew : wipe σ4 vs = wipe σ vs := wipe_eq (l4.trans (wipe_length σ vs)) fun j hj => (k4 j fun z => hj (hS j z)).trans (wipe_at hj)
        have x24 : Ex B2 B4 := gr.b.trans x4
        have back : ∀ {B' H' : Hp} {e' : Env} {us' : List V}, StOk X.K c ((Dl, .lst us') :: T) B' H' σ4 e' → StOk X.K c ((Dl, .lst us') :: T) B' H' (wipe σ vs) (eWipe e' vs) := fun {B' H' e' us'} s => by
          rw [← ew]
          exact (s.wipeE vs).other (wipe_length σ4 vs) fun i d h => wipe_at (eWipe_none h).1
        refine ⟨ew, (Dl, .lst us) :: T, B4, e3, st4, (bindN_go (Pst.mono x24 m2) _ _).imp fun k e5 B5 H5 x5 m5 st5 => ?_⟩
        cases k with
        | false =>
          rw [if_neg Bool.false_ne_true] at m5
          rw [if_neg Bool.false_ne_true]
          exact ⟨B5, eWipe e5 vs, acc, us, (x2.trans x24).trans x5, back st5, fun j d h => (eWipe_none h).1, sa.mono (x24.trans x5), m5⟩
        | true =>
          rw [if_pos rfl] at m5
          rw [if_pos rfl]
          refine ⟨(Dl, .lst us) :: T, B5, e5, st5, (bindN_go m5 _ _).imp fun y e6 B6 H6 x6 m6 st6 w rw' => ?_⟩
          by_cases hc : isSh y = true ∧ acc.length < 1000000
          · rw [if_pos hc] at m6
            obtain ⟨_, t2, _⟩ := st6.tmp _ List.mem_cons_self
            refine ⟨us, t2, Nat.lt_of_lt_of_le (by rw [← sa.length]; exact hc.2) (line_ok (Nat.le_refl _)), ?_⟩
            exact ⟨B6, eWipe e6 vs, acc ++ [y], us ++ [w], ((x2.trans x24).trans x5).trans x6, back st6.tmpUpd, fun j d h => (eWipe_none h).1, (sa.mono ((x24.trans x5).trans x6)).append (.cons (rw'.sh hc.1) .nil), m6⟩
          · rw [if_neg hc] at m6
            exact m6.elim
    · have hi : i = ds.length := by omega
      subst hi
      rw [List.drop_length] at m2
      refine .inl ⟨hJ.stop _ B2 H2 x2 st2.ex (Nat.le_refl _), m2 B2 H2 (Evl.Ex.refl _) Dl us (st2.other (wipe_length σ vs).symm fun j d h => (wipe_at (hv j d h)).symm) sa⟩
theorem de_lc {elt tg iter : Expr} {ifs : List Expr} {scope : Scope} {own : List (Str × Nat)} {S : List Nat} {pos : Pos} {it : M (List D)} {t : TgF} {ft : M Bool} {fe : M D} (hc : X.calm = true) (hN : X.N.Nodup) (hi : PI X tg iter (liftI X.K c W it)) (ok : BlkOk X.N X.env.scope scope own) (hS : ∀ i ∈ S, i ∈ own.map (·.2))
    (hg : ∀ (s : Shared) (H : Hp) (C : Addr) (cl : List (Str × Addr)) (fp : List Addr), PG (X.blk s H scope (compEnvC scope cl C X.env) fp) tg (liftG X.K c S t)) (ht : ∀ (s : Shared) (H : Hp) (C : Addr) (cl : List (Str × Addr)) (fp : List Addr), PTs (X.blk s H scope (compEnvC scope cl C X.env) fp) ifs (liftT X.K c W0 ft))
    (he : ∀ (s : Shared) (H : Hp) (C : Addr) (cl : List (Str × Addr)) (fp : List Addr), PE (X.blk s H scope (compEnvC scope cl C X.env) fp) elt (lift X.K c W0 fe)) (hs : ∀ x, foldedSetIterable iter X.env x = pure x := by intro _; rfl) :
    PE X (.ListComp elt [⟨tg, iter, ifs, 0⟩] scope pos) (liftF X.K c W (eComp it (own.map (·.2)) t ft fe)) := PE_of (pe_lc hc hN hi ok hg ht he hs) (comp_conv hS)
/-- name = [..] on one line -/
theorem ds_setLc {i : Nat} {y : Str} {py : Pos} {elt tg iter : Expr} {ifs : List Expr} {scope : Scope} {own : List (Str × Nat)} {S : List Nat} {pos spos : Pos} {it : M (List D)} {t : TgF} {ft : M Bool} {fe : M D} (hc : X.calm = true) (hN : X.N.Nodup) (hy : X.N[i]? = some y) (hyl : X.env.scope.names.lookup y = some .local)
    (hsw : swapsWith (.ListComp elt [⟨tg, iter, ifs, 0⟩] scope pos) (some (.Name y py)) spos.line X.env = pure true) (hi : PI X tg iter (liftI X.K c W it)) (ok : BlkOk X.N X.env.scope scope own) (hS : ∀ i ∈ S, i ∈ own.map (·.2))
    (hg : ∀ (s : Shared) (H : Hp) (C : Addr) (cl : List (Str × Addr)) (fp : List Addr), PG (X.blk s H scope (compEnvC scope cl C X.env) fp) tg (liftG X.K c S t)) (ht : ∀ (s : Shared) (H : Hp) (C : Addr) (cl : List (Str × Addr)) (fp : List Addr), PTs (X.blk s H scope (compEnvC scope cl C X.env) fp) ifs (liftT X.K c W0 ft))
    (he : ∀ (s : Shared) (H : Hp) (C : Addr) (cl : List (Str × Addr)) (fp : List Addr), PE (X.blk s H scope (compEnvC scope cl C X.env) fp) elt (lift X.K c W0 fe)) (hs : ∀ x, foldedSetIterable iter X.env x = pure x := by intro _; rfl) :
    PS X (.Assign [.Name y py] (.ListComp elt [⟨tg, iter, ifs, 0⟩] scope pos) spos) (liftS X.K c W (sAsgF i (eComp it (own.map (·.2)) t ft fe))) :=
  PS_of (ps_setLc hc hN hy hyl hsw hi ok hg ht he hs) fun Dn σ H q => comp_conv hS σ H _ (asgF_conv Dn σ H q)
end
end DL
end

section
set_option maxRecDepth 100000
set_option maxHeartbeats 2000000
namespace DL
open PySem L2
open Evl (Ex)

/-! ### a def by its name -/
/-- the def x computes F on n arguments -/
def Fn (P : Program) (w : World) (K : PySem.W.Frag) (mg : Str → Option Value) (base : Heap) (x : Str) (k n : Nat) (F : List D → Rs D) : Prop :=
  ∃ (f : Addr) (fd : FuncData) (ps : List Str), FnOk P w K mg base (L2.CX P w) k f fd ps (spF K n F) ∧ mg x = some (.ref f) ∧ PySem.W.keepIn K (.ref f) = true ∧ Binds K fd ps []
section
variable {P : Program} {w : World} {K : PySem.W.Frag} {mg : Str → Option Value} {base : Heap}
theorem fn_mkB {x qual : Str} {params : Arguments} {body : List Stmt} {scope : Scope} {dvs : List V} {kws : List (Str × V)} {f : Addr} {fd : FuncData} {N ps : List Str} {k n : Nat} {g : M Fl} (F : FunD K x qual params body scope dvs kws f fd) (S : FnScope N ps scope) (hn : ps.length = n) (hN : ps.length ≤ N.length)
    (hb : ∀ (cdv : Value) (A : Around) (outer : List PySem.Env) (s : Shared) (H : Hp) (E : XK) (c : Ctx) (W : WX), Body (cxOf (L2.CX P w) P w K mg base N qual scope f cdv A outer s H E) W k →
      PSs (cxOf (L2.CX P w) P w K mg base N qual scope f cdv A outer s H E) body (liftS K c W g)) :
    FnOk P w K mg base (L2.CX P w) (k + 1) f fd ps (spF K n (runF N.length g)) := by
  subst hn
  refine F.ok S (fun vs H Q E h => ?_) (fun cdv A outer s H vs Q E hr h => ?_)
  · obtain ⟨B, ds, fp, a, hl, _⟩ := h
    rw [a.len, hl]
  · obtain ⟨B, ds, fp, a, hl, m⟩ := h
    refine ⟨_, hb cdv A outer s H E ⟨vs, B, H, fp⟩ (fun cls d _ H' => E cls d H') ⟨⟨takes_of rfl rfl rfl rfl, rfl, hr⟩, rfl, rfl, passes_of rfl⟩, ?_⟩
    refine ⟨B, _, start_ok a (by omega), ?_⟩
    unfold runF at m
    generalize g (ds.map some ++ List.replicate (N.length - ds.length) none) = r at m ⊢
    cases r with
    | no => exact m
    | ex y e =>
      by_cases hb : borOk ds e = true
      · rw [endF, if_pos hb] at m
        exact fun cls dd σ' B' H' x st rx => by
          obtain ⟨fp', o⟩ := outs_ok a st hb
          exact m cls dd B' H' fp' (after_ok st) rx o
      · rw [endF, if_neg hb] at m
        exact m.elim
    | ok fl e => cases fl with
      | nx =>
        by_cases hb : borOk ds e = true
        · rw [endF, if_pos hb] at m
          exact fun σ' B' H' x st => by
            obtain ⟨fp', o⟩ := outs_ok a st hb
            exact m .non B' H' fp' (after_ok st) .non o
        · rw [endF, if_neg hb] at m
          exact m.elim
      | rt d =>
        by_cases hb : borOk ds e = true
        · rw [endF, if_pos hb] at m
          exact fun v σ' B' H' x st sh => by
            obtain ⟨fp', o⟩ := outs_ok a st hb
            exact m v B' H' fp' (after_ok st) sh o
        · rw [endF, if_neg hb] at m
          exact m.elim
      | bk => exact m.elim
      | ct => exact m.elim
end
section
variable {X : Cx} {c : Ctx} {W : WX} {k kf n : Nat} {x : Str} {p pos : Pos} {e : Expr} {es : List Expr} {fs : M (List D)} {Fm : List D → Rs D}
theorem Bx.blk (b : Bx X W k) {s : Shared} {H : Hp} {scope : Scope} {cenv : PySem.Env} {fp : List Addr} : Bx (X.blk s H scope cenv fp) W0 k := ⟨takes0, b.calm, b.room⟩
theorem de_fn (b : Bx X W k) (F : Fn X.prog X.w X.K X.mg X.base x kf n Fm) (hk : kf ≤ k) (hg : Gl X x) (ha : PA X (e :: es) (liftA X.K c W fs)) (hdb : (x == ("__debug__" : Str)) = false := by decide)
    (he : starEach (e :: es) X.env = (false, eval e X.env) :: starEach es X.env := by rfl) (hpl : (backTo pos (starEach es X.env)).any (·.1) = false := by rfl) : PE X (.Call (.Name x p) (e :: es) [] pos) (lift X.K c W (eCall n Fm fs)) := by
  obtain ⟨f, fd, ps, F1, F2, F3, F4⟩ := F
  exact de_call b F1 hk hg F2 F3 F4 ha hdb he hpl
end
/-- the law's end -/
theorem law_ok {K : PySem.W.Frag} {F : List D → Rs D} {most : Nat} (hF : ∀ ns : List Int, ns.length ≤ most → ∃ outs, F [.klst (ns.map D.int)] = .ok (.bl true) outs)
    (H : Hp) (a : Addr) (ns : List Int) (hl : ns.length ≤ most) (h : SqL K H a (ns.map V.int)) : spF K 1 F [.ref a] H (fun v _ => v = .bl true) fun _ _ _ => False := by
  have shI : ∀ ns : List Int, Shs K H (ns.map D.int) (ns.map V.int) := fun ns => by
    induction ns with
    | nil => exact .nil
    | cons n ns ih => exact .cons (.int n) ih
  obtain ⟨outs, e⟩ := hF ns hl
  refine ⟨H, [.klst (ns.map D.int)], fun _ => [], ⟨Evl.Ex.refl H, rfl, fun i d hd => ?_, fun _ _ => rfl, fun _ => List.nodup_nil, fun _ _ _ _ m => (nomatch m), fun i xs hx => ?_⟩, rfl, ?_⟩
  · cases i with
    | zero =>
      cases hd
      exact ⟨_, rfl, .sh (.klst h (shI ns))⟩
    | succ i => simp at hd
  · cases i with
    | zero => cases hx
    | succ i => simp at hx
  · rw [e]
    exact fun v B' H' fp' _ sh _ => by
      cases sh
      rfl
end DL
end

section
set_option maxRecDepth 100000
set_option maxHeartbeats 2000000
namespace DL
open PySem L2

/-! ### a constant of the module -/
mutual
def shB (K : PySem.W.Frag) : D → Value → Bool
  | .non, .none => true
  | .bl b, .bool c => b == c
  | .int i, .int j _ => decide (i = j)
  | .str x, .str y _ => decide (x = y)
  | .tup ds, .ref a => (match K.lookup a with
    | some ⟨.type c, _, .seq its _, _⟩ => decide (c = "tuple") && (decide (its.size ≤ sizeLine) && shsB K ds its.toList)
    | _ => false)
  | .klst ds, .ref a => (match K.lookup a with
    | some ⟨.type c, none, .seq its _, _⟩ => decide (c = "list") && (decide (its.size ≤ sizeLine) && shsB K ds its.toList)
    | _ => false)
  | _, _ => false
def shsB (K : PySem.W.Frag) : List D → List Value → Bool
  | [], [] => true
  | d :: ds, u :: us => shB K d u && shsB K ds us
  | _, _ => false
end
section
variable {K : PySem.W.Frag}
mutual
theorem shB_ok : ∀ (d : D) (u : Value), shB K d u = true → ∃ v, RelV v u ∧ ∀ B, Sh K B d v
  | .non, .none, _ => ⟨.non, rfl, fun _ => .non⟩
  | .bl b, .bool c, h => ⟨.bl b, by
      have e : b = c := eq_of_beq (show (b == c) = true from h)
      rw [e]
      rfl, fun _ => .bl b⟩
  | .int i, .int j t, h => ⟨.int i, ⟨t, by rw [show i = j from of_decide_eq_true h]⟩, fun _ => .int i⟩
  | .str x, .str y t, h => ⟨.str x, ⟨t, by rw [show x = y from of_decide_eq_true h]⟩, fun _ => .str x⟩
  | .tup ds, .ref a, h => by
      rw [shB] at h
      cases q : K.lookup a with
      | none => rw [q] at h; cases h
      | some o =>
        obtain ⟨oc, od, dt, osl⟩ := o
        rw [q] at h
        cases oc with
        | type c => cases dt with
          | seq its n =>
            obtain ⟨h1, h2⟩ := He.ba (show (decide (c = "tuple") && (decide (its.size ≤ sizeLine) && shsB K ds its.toList)) = true from h)
            obtain ⟨h3, h4⟩ := He.ba h2
            obtain ⟨vs, r, s⟩ := shsB_ok ds its.toList h4
            exact ⟨.ref a, rfl, fun B => .tup (.inr ⟨_, its, n, q, congrArg Value.type (of_decide_eq_true h1), rfl, of_decide_eq_true h3, r⟩) (s B)⟩
          | _ => cases h
        | _ => cases dt <;> cases h
  | .klst ds, .ref a, h => by
      rw [shB] at h
      cases q : K.lookup a with
      | none => rw [q] at h; cases h
      | some o =>
        obtain ⟨oc, od, dt, osl⟩ := o
        rw [q] at h
        cases oc with
        | type c => cases od with
          | none => cases dt with
            | seq its n =>
              obtain ⟨h1, h2⟩ := He.ba (show (decide (c = "list") && (decide (its.size ≤ sizeLine) && shsB K ds its.toList)) = true from h)
              obtain ⟨h3, h4⟩ := He.ba h2
              obtain ⟨vs, r, s⟩ := shsB_ok ds its.toList h4
              exact ⟨.ref a, rfl, fun B => .klst (.inr ⟨_, its, n, q, congrArg Value.type (of_decide_eq_true h1), rfl, rfl, of_decide_eq_true h3, r⟩) (s B)⟩
            | _ => cases h
          | some _ => cases dt <;> cases h
        | _ => cases od <;> cases dt <;> cases h
theorem shsB_ok : ∀ (ds : List D) (us : List Value), shsB K ds us = true → ∃ vs, Vals vs us ∧ ∀ B, Shs K B ds vs
  | [], [], _ => ⟨[], .nil, fun _ => .nil⟩
  | d :: ds, u :: us, h => by
      rw [shsB] at h
      obtain ⟨h1, h2⟩ := He.ba h
      obtain ⟨v, r, s⟩ := shB_ok d u h1
      obtain ⟨vs, rs, ss⟩ := shsB_ok ds us h2
      exact ⟨v :: vs, .cons r rs, fun B => .cons (s B) (ss B)⟩
end
theorem shB_ref {d : D} {a : Addr} (h : shB K d (.ref a) = true) : ∀ B, Sh K B d (.ref a) := by
  obtain ⟨v, r, s⟩ := shB_ok d _ h
  cases (show absV (.ref a) = some v from r.abs)
  exact s
end
/-- the module's name x is the constant d, an object -/
def cstB (x : Str) (d : D) (K : PySem.W.Frag) : Bool := shB K d (.ref (He.ga K x))
/-- the module's name x is the builtin n -/
def bltB (x : Str) (n : String) (K : PySem.W.Frag) : Bool := He.eqO (PySem.W.nsIn K mainGlobals x) (some (some (.builtin n)))
theorem bltB_ok {K : PySem.W.Frag} {h : Heap} {mg : Str → Option Value} (X : K.In h) (G : h.Ns mainGlobals mg) {x : Str} {n : String} (c : bltB x n K = true) : mg x = some (.builtin n) := PySem.W.mg_of X G (He.eqO_ok c)

/-! ### the Hook -/
def obsX (fa : List He.Fa) (fn : List He.DefD) (ex : List (PySem.W.Frag → Bool)) (K : PySem.W.Frag) : He.AlD :=
  (((fa.all fun f => f.ok K) && fn.all fun d => d.ok K) && ex.all fun f => f K, fn.map fun d => He.fnW K d.at_)
def SaysX (fa : List He.Fa) (fn : List He.DefD) (ex : List (PySem.W.Frag → Bool)) (K : PySem.W.Frag) : Prop := obsX fa fn ex K = He.valD fn
theorem SaysX.toD {fa : List He.Fa} {fn : List He.DefD} {ex : List (PySem.W.Frag → Bool)} {K : PySem.W.Frag} (c : SaysX fa fn ex K) : He.SaysD fa fn K := by
  have e1 := congrArg (fun z : He.AlD => z.1) c
  have e2 : fn.map (fun d => He.fnW K d.at_) = fn.map He.DefD.val := congrArg (fun z : He.AlD => z.2) c
  have e3 := (He.ba (show ((((fa.all fun f => f.ok K) && fn.all fun d => d.ok K)) && ex.all fun f => f K) = true from e1)).1
  exact Prod.ext_iff.mpr ⟨e3, e2⟩
theorem SaysX.ext {fa : List He.Fa} {fn : List He.DefD} {ex : List (PySem.W.Frag → Bool)} {K : PySem.W.Frag} (c : SaysX fa fn ex K) (i : Nat) {f : PySem.W.Frag → Bool} (h : ex[i]? = some f := by rfl) : f K = true := by
  have e1 := congrArg (fun z : He.AlD => z.1) c
  have e3 := (He.ba (show ((((fa.all fun f => f.ok K) && fn.all fun d => d.ok K)) && ex.all fun f => f K) = true from e1)).2
  exact List.all_eq_true.mp e3 f (List.mem_of_getElem? h)
def obsXG (n : Nat) (fa : List He.Fa) (fn : List He.DefD) (ex : List (PySem.W.Frag → Bool)) (g : Addr → Option Obj) : He.AlD := obsX fa fn ex (He.frG g (He.asD g n))
def hookX (n : Nat) (fa : List He.Fa) (fn : List He.DefD) (ex : List (PySem.W.Frag → Bool)) : PySem.W.Hook where
  α := He.AlD
  obs := fun s => obsXG n fa fn ex s.heap.get?
  val := fun _ => He.valD fn
  says := fun _ h => ∃ K : PySem.W.Frag, K.In h ∧ SaysX fa fn ex K
  of := fun _ _ e => ⟨_, He.frG_in, e⟩
  keeps := fun _ _ _ ⟨K, hK, c⟩ k => ⟨K, PySem.W.Frag.In.keeps hK k, c⟩
theorem obsXG_eq {n : Nat} {fa : List He.Fa} {fn : List He.DefD} {ex : List (PySem.W.Frag → Bool)} {g : Addr → Option Obj} {s : Shared} (h : ∀ a, g a = s.heap.get? a) : obsXG n fa fn ex g = (hookX n fa fn ex).obs s := by
  have e : g = s.heap.get? := funext h
  rw [e] <;> rfl
/-- no exception leaves the law -/
theorem cx_no {P : Program} {w : World} (H : Hp) (s : Shared) (e : Value) (s' : Shared) : L2.CX P w [] H s (fun _ _ _ => False) e s' → False := fun ⟨_, _, _, _, _, _, _, _, _, _, _, _, z⟩ => z
/-- the law, by its function: every list of ints of its length answers True -/
theorem walk_ofW {l : PySem.W.OpenLaw} {n k : Nat} {q : Program} {loose : List Str} {XP : (Str → Option Value) → Heap → Prop} {YP : World → Heap → Prop} {d : DefRec} {x : Str} {F : List D → Rs D}
    (hm : l.most = some n) (hs : n ≤ sizeLine) (hd : d.params.defaults = []) (hr : Room k callerA) (plain : ∀ ns : List Int, ns.length ≤ n → ∃ outs, F [.klst (ns.map D.int)] = .ok (.bl true) outs)
    (Hf : ∀ (w : World) (mg : Str → Option Value) (fa : Addr) (h : Heap), YP w h → h.Ns mainGlobals mg → mg d.name = some (.ref fa) → ∃ (K : PySem.W.Frag) (fd : FuncData),
      K.In h ∧ (∀ (s : Shared) (u : Value), BindsTo s fd ⟨[u], []⟩ [(x, u)]) ∧ ∀ base : Heap, FnOk l.prog w K mg base (L2.CX l.prog w) k fa fd [x] (spF K 1 F)) :
    PySem.W.WalkO q loose XP YP l.row.toRowW d [] fun f us => PySem.call f us := by
  refine Att.attach_call hm hd fun w t₀ t₁ mg mb fa o pm cd doc a vs ns G Y hq _ _ hg ho hi hl hx => ?_
  obtain ⟨K, fd, KX, hb, hF⟩ := Hf w mg fa _ Y G.T.g hg
  refine law_call KX G.T.g G.T.b G.T.builtins G.T.nolimit hx ho hi (Nat.le_trans hl hs) hr (fun base _ _ => hF base) hb (fun H _ hS => ?_) fun H e t => cx_no H t₁ e t
  exact law_ok plain H a ns hl hS
end DL
end

section
set_option maxRecDepth 100000
set_option maxHeartbeats 4000000
namespace K09
open PySem L2 DL
/-! ### the bodies as functions on environments -/
def c_BLACK : D := (.tup [(.int 0), (.int 0), (.int 0), (.int 1)])
def c_SAME : D := (.tup [(.int 1), (.int 0), (.int 0), (.int 0), (.int 0), (.int 1)])
def c_WHITE : D := (.tup [(.int 1), (.int 1), (.int 1), (.int 1)])
abbrev n_tone : List Str := ["r", "g", "b", "w", "common"]
abbrev b_tone : M Fl := (sSeq (sAsg 4 (eBlt dGcd (aCons (eVar 0) (aCons (eVar 1) (aCons (eVar 2) (aCons (eVar 3) aNil))))))
  (sRet (eTup (aCons (eBin dDiv (eVar 0) (eVar 4)) (aCons (eBin dDiv (eVar 1) (eVar 4)) (aCons (eBin dDiv (eVar 2) (eVar 4)) (aCons (eBin dDiv (eVar 3) (eVar 4)) aNil)))))))
def F_tone : List D → Rs D := runF 5 b_tone

abbrev n_label : List Str := ["k", "o", "r", "g", "b", "w", "common"]
abbrev b_label : M Fl := (sSeq (sAsg 6 (eBlt dGcd (aCons (eVar 0) (aCons (eVar 1) (aCons (eVar 2) (aCons (eVar 3) (aCons (eVar 4) (aCons (eVar 5) aNil))))))))
  (sRet (eTup (aCons (eBin dDiv (eVar 0) (eVar 6)) (aCons (eBin dDiv (eVar 1) (eVar 6)) (aCons (eBin dDiv (eVar 2) (eVar 6)) (aCons (eBin dDiv (eVar 3) (eVar 6)) (aCons (eBin dDiv (eVar 4) (eVar 6)) (aCons (eBin dDiv (eVar 5) (eVar 6)) aNil)))))))))
def F_label : List D → Rs D := runF 7 b_label

abbrev n_paint_label : List Str := ["ink", "share", "n", "d", "r", "g", "b", "w"]
abbrev b_paint_label : M Fl := (sSeq (sUnp (gT 2 (gsCons (gN 2) (gsCons (gN 3) gsNil))) (eVal 1))
  (sSeq (sIf (tOf (eBin dEq (eVar 0) (eC (.str "own")))) (sRet (eCall 6 F_label (aCons (eBin dSub (eVar 3) (eVar 2)) (aCons (eVal 2) (aCons (eC (.int 0)) (aCons (eC (.int 0)) (aCons (eC (.int 0)) (aCons (eVal 3) aNil)))))))) sNext)
  (sSeq (sUnp (gT 4 (gsCons (gN 4) (gsCons (gN 5) (gsCons (gN 6) (gsCons (gN 7) gsNil))))) (eVal 0))
  (sRet (eCall 6 F_label (aCons (eBin dMulI (eBin dSub (eVar 3) (eVar 2)) (eVar 7)) (aCons (eC (.int 0)) (aCons (eBin dMulI (eVar 2) (eVar 4)) (aCons (eBin dMulI (eVar 2) (eVar 5)) (aCons (eBin dMulI (eVar 2) (eVar 6)) (aCons (eBin dMulI (eVar 3) (eVar 7)) aNil)))))))))))
def F_paint_label : List D → Rs D := runF 8 b_paint_label

abbrev n_follow : List Str := ["first", "second", "k", "o", "r", "g", "b", "w", "keep", "own", "red", "green", "blue", "whole"]
abbrev b_follow : M Fl := (sSeq (sIf (tOf (eBin dEq (eVar 0) (eC c_SAME))) (sRet (eVal 1)) sNext)
  (sSeq (sIf (tOf (eBin dEq (eVar 1) (eC c_SAME))) (sRet (eVal 0)) sNext)
  (sSeq (sUnp (gT 6 (gsCons (gN 2) (gsCons (gN 3) (gsCons (gN 4) (gsCons (gN 5) (gsCons (gN 6) (gsCons (gN 7) gsNil))))))) (eVal 0))
  (sSeq (sUnp (gT 6 (gsCons (gN 8) (gsCons (gN 9) (gsCons (gN 10) (gsCons (gN 11) (gsCons (gN 12) (gsCons (gN 13) gsNil))))))) (eVal 1))
  (sRet (eCall 6 F_label (aCons (eBin dMulI (eVar 8) (eVar 2)) (aCons (eBin dAdd (eBin dMulI (eVar 8) (eVar 3)) (eBin dMulI (eVar 9) (eVar 7))) (aCons (eBin dAdd (eBin dMulI (eVar 8) (eVar 4)) (eBin dMulI (eVar 10) (eVar 7))) (aCons (eBin dAdd (eBin dMulI (eVar 8) (eVar 5)) (eBin dMulI (eVar 11) (eVar 7))) (aCons (eBin dAdd (eBin dMulI (eVar 8) (eVar 6)) (eBin dMulI (eVar 12) (eVar 7))) (aCons (eBin dMulI (eVar 13) (eVar 7)) aNil))))))))))))
def F_follow : List D → Rs D := runF 14 b_follow

abbrev n_scaled : List Str := ["one", "share", "k", "o", "r", "g", "b", "w", "n", "d"]
abbrev b_scaled : M Fl := (sSeq (sUnp (gT 6 (gsCons (gN 2) (gsCons (gN 3) (gsCons (gN 4) (gsCons (gN 5) (gsCons (gN 6) (gsCons (gN 7) gsNil))))))) (eVal 0))
  (sSeq (sUnp (gT 2 (gsCons (gN 8) (gsCons (gN 9) gsNil))) (eVal 1))
  (sRet (eCall 6 F_label (aCons (eBin dAdd (eBin dMulI (eBin dSub (eVar 9) (eVar 8)) (eVar 7)) (eBin dMulI (eVar 8) (eVar 2))) (aCons (eBin dMulI (eVar 8) (eVar 3)) (aCons (eBin dMulI (eVar 8) (eVar 4)) (aCons (eBin dMulI (eVar 8) (eVar 5)) (aCons (eBin dMulI (eVar 8) (eVar 6)) (aCons (eBin dMulI (eVar 9) (eVar 7)) aNil))))))))))
def F_scaled : List D → Rs D := runF 10 b_scaled

abbrev n_coloured : List Str := ["one", "colour", "k", "o", "r", "g", "b", "w", "red", "green", "blue", "whole"]
abbrev b_coloured : M Fl := (sSeq (sUnp (gT 6 (gsCons (gN 2) (gsCons (gN 3) (gsCons (gN 4) (gsCons (gN 5) (gsCons (gN 6) (gsCons (gN 7) gsNil))))))) (eVal 0))
  (sSeq (sUnp (gT 4 (gsCons (gN 8) (gsCons (gN 9) (gsCons (gN 10) (gsCons (gN 11) gsNil))))) (eVal 1))
  (sRet (eCall 6 F_label (aCons (eBin dMulI (eVar 2) (eVar 11)) (aCons (eC (.int 0)) (aCons (eBin dAdd (eBin dMulI (eVar 4) (eVar 11)) (eBin dMulI (eVar 3) (eVar 8))) (aCons (eBin dAdd (eBin dMulI (eVar 5) (eVar 11)) (eBin dMulI (eVar 3) (eVar 9))) (aCons (eBin dAdd (eBin dMulI (eVar 6) (eVar 11)) (eBin dMulI (eVar 3) (eVar 10))) (aCons (eBin dMulI (eVar 7) (eVar 11)) aNil))))))))))
def F_coloured : List D → Rs D := runF 12 b_coloured

abbrev n_tone_on : List Str := ["one", "ground", "colour", "keep", "own", "plain", "red", "green", "blue", "at"]
abbrev b_tone_on : M Fl := (sSeq (sAsg 3 (eBin dMulI (eBin dIdx (eVar 0) (eC (.int 0))) (eBin dIdx (eVar 2) (eC (.int 3)))))
  (sSeq (sAsg 4 (eBin dMulI (eBin dIdx (eVar 0) (eC (.int 1))) (eBin dIdx (eVar 1) (eC (.int 3)))))
  (sSeq (sAsg 5 (eBin dMulI (eBin dIdx (eVar 1) (eC (.int 3))) (eBin dIdx (eVar 2) (eC (.int 3)))))
  (sSeq (sUnp (gT 3 (gsCons (gN 6) (gsCons (gN 7) (gsCons (gN 8) gsNil)))) (eFrz (eComp (eRange (aCons (eC (.int 3)) aNil)) [9] (gN 9) tYesD (eBin dAdd (eBin dAdd (eBin dMulI (eVar 3) (eBin dIdx (eVar 1) (eVar 9))) (eBin dMulI (eVar 4) (eBin dIdx (eVar 2) (eVar 9)))) (eBin dMulI (eVar 5) (eBin dIdx (eVar 0) (eBin dAdd (eC (.int 2)) (eVar 9))))))))
  (sRet (eCall 4 F_tone (aCons (eVal 6) (aCons (eVal 7) (aCons (eVal 8) (aCons (eBin dMulI (eVar 5) (eBin dIdx (eVar 0) (eC (.int 5)))) aNil))))))))))
def F_tone_on : List D → Rs D := runF 10 b_tone_on

abbrev n__law_gcd : List Str := ["a", "b", "k"]
abbrev b__law_gcd : M Fl := (sSeq (sAsg 0 (eBlt dAbs (aCons (eVar 0) aNil)))
  (sSeq (sAsg 1 (eBlt dAbs (aCons (eVar 1) aNil)))
  (sSeq (sFor (eRange (aCons (eC (.int 4000)) aNil)) (gN 2) (sSeq (sIf (tOf (eBin dEq (eVar 1) (eC (.int 0)))) sBreak sNext)
  (sPar 0 1 (aCons (eVal 1) (aCons (eBin dMod (eBlt dToInt (aCons (eVar 0) aNil)) (eVar 1)) aNil)))))
  (sRet (eVal 0)))))
def F__law_gcd : List D → Rs D := runF 3 b__law_gcd

abbrev n__law_row : List Str := ["script", "row", "cell", "rest", "k"]
abbrev b__law_row : M Fl := (sSeq (sAsgF 1 (eLstF aNil))
  (sSeq (sFor (eIter (eSlice (eVar 0) eNoPart (ePart (eC (.int 63))))) (gN 2) (sSeq (sAsg 3 (eBlt dAbs (aCons (eBlt dToInt (aCons (eVar 2) aNil)) aNil)))
  (sFor (eRange (aCons (eC (.int 30)) aNil)) (gN 4) (sSeq (sApp (eVar 1) (eBin dMod (eBlt dToInt (aCons (eVar 3) aNil)) (eC (.int 60))))
  (sSeq (sAsg 3 (eBin dDiv (eVar 3) (eC (.int 60))))
  (sIf (tOf (eBin dEq (eVar 3) (eC (.int 0)))) sBreak sNext))))))
  (sRet (eVal 1))))
def F__law_row : List D → Rs D := runF 5 b__law_row

abbrev n__law_next : List Str := ["tape", "many", "at", "row", "shift"]
abbrev b__law_next : M Fl := (sSeq (sAsg 2 (eBin dIdx (eVar 0) (eC (.int 1))))
  (sSeq (sSub (eVar 0) (eC (.int 1)) (eBin dAdd (eVar 2) (eC (.int 1))))
  (sSeq (sAsg 3 (eBin dIdx (eVar 0) (eC (.int 0))))
  (sSeq (sIf (tOf (eBin dEq (eBlt dLen (aCons (eVar 3) aNil)) (eC (.int 0)))) (sRet (eBin dMod (eBlt dToInt (aCons (eBin dAdd (eBin dMulI (eVar 2) (eC (.int 5))) (eBin dDiv (eVar 2) (eC (.int 3)))) aNil)) (eVar 1))) sNext)
  (sSeq (sAsg 4 (eBin dMulI (eBin dDiv (eVar 2) (eBlt dLen (aCons (eVar 3) aNil))) (eC (.int 7))))
  (sRet (eBin dMod (eBlt dToInt (aCons (eBin dAdd (eBin dIdx (eVar 3) (eBin dMod (eBlt dToInt (aCons (eVar 2) aNil)) (eBlt dLen (aCons (eVar 3) aNil)))) (eVar 4)) aNil)) (eVar 1))))))))
def F__law_next : List D → Rs D := runF 5 b__law_next

abbrev n__law_some : List Str := ["tape", "n", "kind"]
abbrev b__law_some : M Fl := (sSeq (sAsg 2 (eCall 2 F__law_next (aCons (eVar 0) (aCons (eC (.int 5)) aNil))))
  (sSeq (sIf (tOf (eBin dEq (eVar 2) (eC (.int 0)))) (sRet (eC (.int 0))) sNext)
  (sSeq (sIf (tOf (eBin dEq (eVar 2) (eC (.int 1)))) (sRet (eVal 1)) sNext)
  (sRet (eBin dDiv (eBin dMulI (eVar 1) (eCall 2 F__law_next (aCons (eVar 0) (aCons (eC (.int 60)) aNil)))) (eC (.int 60)))))))
def F__law_some : List D → Rs D := runF 3 b__law_some

abbrev n__law_whole : List Str := ["tape", "great", "n", "k"]
abbrev b__law_whole : M Fl := (sSeq (sAsg 2 (eBin dAdd (eC (.int 1)) (eCall 2 F__law_next (aCons (eVar 0) (aCons (eC (.int 12)) aNil)))))
  (sSeq (sIf (tOf (eBin dEq (eVar 1) (eC (.int 1)))) (sFor (eRange (aCons (eC (.int 12)) aNil)) (gN 3) (sAsg 2 (eBin dAdd (eBin dMulI (eVar 2) (eC (.int 60))) (eCall 2 F__law_next (aCons (eVar 0) (aCons (eC (.int 60)) aNil)))))) sNext)
  (sRet (eVal 2))))
def F__law_whole : List D → Rs D := runF 4 b__law_whole

abbrev n__law_reduce : List Str := ["parts", "g", "part"]
abbrev b__law_reduce : M Fl := (sSeq (sAsg 1 (eC (.int 0)))
  (sSeq (sFor (eIter (eVal 0)) (gN 2) (sAsg 1 (eCall 2 F__law_gcd (aCons (eVal 1) (aCons (eVal 2) aNil)))))
  (sRet (eBlt dTuple (aCons (eFrz (eComp (eIter (eVal 0)) [2] (gN 2) tYesD (eBin dDiv (eVar 2) (eVar 1)))) aNil)))))
def F__law_reduce : List D → Rs D := runF 3 b__law_reduce

abbrev n__law_raw_label : List Str := ["tape", "great", "w", "k", "o", "c"]
abbrev b__law_raw_label : M Fl := (sSeq (sAsg 2 (eCall 2 F__law_whole (aCons (eVar 0) (aCons (eVal 1) aNil))))
  (sSeq (sAsg 3 (eCall 2 F__law_some (aCons (eVar 0) (aCons (eVal 2) aNil))))
  (sSeq (sAsg 4 (eCall 2 F__law_some (aCons (eVar 0) (aCons (eBin dSub (eVar 2) (eVar 3)) aNil))))
  (sRet (eBin dAdd (eBin dAdd (eFrz (eLstF (aCons (eVal 3) (aCons (eVal 4) aNil)))) (eFrz (eComp (eRange (aCons (eC (.int 3)) aNil)) [5] (gN 5) tYesD (eCall 2 F__law_some (aCons (eVar 0) (aCons (eBin dSub (eBin dSub (eVar 2) (eVar 3)) (eVar 4)) aNil)))))) (eFrz (eLstF (aCons (eVal 2) aNil))))))))
def F__law_raw_label : List D → Rs D := runF 6 b__law_raw_label

abbrev n__law_raw_tone : List Str := ["tape", "great", "w", "c"]
abbrev b__law_raw_tone : M Fl := (sSeq (sAsg 2 (eCall 2 F__law_whole (aCons (eVar 0) (aCons (eVal 1) aNil))))
  (sRet (eBin dAdd (eFrz (eComp (eRange (aCons (eC (.int 3)) aNil)) [3] (gN 3) tYesD (eCall 2 F__law_some (aCons (eVar 0) (aCons (eVal 2) aNil))))) (eFrz (eLstF (aCons (eVal 2) aNil))))))
def F__law_raw_tone : List D → Rs D := runF 4 b__law_raw_tone

abbrev n__law_share : List Str := ["tape", "great", "d", "n", "g"]
abbrev b__law_share : M Fl := (sSeq (sAsg 2 (eCall 2 F__law_whole (aCons (eVar 0) (aCons (eVal 1) aNil))))
  (sSeq (sAsg 3 (eCall 2 F__law_some (aCons (eVar 0) (aCons (eVal 2) aNil))))
  (sSeq (sAsg 4 (eCall 2 F__law_gcd (aCons (eVal 3) (aCons (eVal 2) aNil))))
  (sRet (eTup (aCons (eBin dDiv (eVar 3) (eVar 4)) (aCons (eBin dDiv (eVar 2) (eVar 4)) aNil)))))))
def F__law_share : List D → Rs D := runF 5 b__law_share

abbrev n__law_paint : List Str := ["ink", "share", "n", "d", "w", "found", "c"]
abbrev b__law_paint : M Fl := (sSeq (sUnp (gT 2 (gsCons (gN 2) (gsCons (gN 3) gsNil))) (eVal 1))
  (sSeq (sIf (tOf (eBin dEq (eVar 0) (eC (.str "own")))) (sRet (eCall 1 F__law_reduce (aCons (eFrz (eLstF (aCons (eBin dSub (eVar 3) (eVar 2)) (aCons (eVal 2) (aCons (eC (.int 0)) (aCons (eC (.int 0)) (aCons (eC (.int 0)) (aCons (eVal 3) aNil)))))))) aNil))) sNext)
  (sSeq (sAsg 4 (eBin dIdx (eVar 0) (eC (.int 3))))
  (sSeq (sAsg 5 (eBin dAdd (eFrz (eLstF (aCons (eBin dMulI (eBin dSub (eVar 3) (eVar 2)) (eVar 4)) (aCons (eC (.int 0)) aNil)))) (eFrz (eComp (eIter (eSlice (eVar 0) eNoPart (ePart (eC (.int 3))))) [6] (gN 6) tYesD (eBin dMulI (eVar 2) (eVar 6))))))
  (sRet (eCall 1 F__law_reduce (aCons (eBin dAdd (eVar 5) (eFrz (eLstF (aCons (eBin dMulI (eVar 3) (eVar 4)) aNil)))) aNil)))))))
def F__law_paint : List D → Rs D := runF 7 b__law_paint

abbrev n__law_follow : List Str := ["a", "b", "w", "found", "c"]
abbrev b__law_follow : M Fl := (sSeq (sAsg 2 (eBin dIdx (eVar 0) (eC (.int 5))))
  (sSeq (sAsgF 3 (eLstF (aCons (eBin dMulI (eBin dIdx (eVar 0) (eC (.int 0))) (eBin dIdx (eVar 1) (eC (.int 0)))) (aCons (eBin dAdd (eBin dMulI (eBin dIdx (eVar 0) (eC (.int 1))) (eBin dIdx (eVar 1) (eC (.int 0)))) (eBin dMulI (eBin dIdx (eVar 1) (eC (.int 1))) (eVar 2))) aNil))))
  (sSeq (sFor (eIter (eFrz (eLstF (aCons (eC (.int 2)) (aCons (eC (.int 3)) (aCons (eC (.int 4)) aNil)))))) (gN 4) (sApp (eVar 3) (eBin dAdd (eBin dMulI (eBin dIdx (eVar 0) (eVar 4)) (eBin dIdx (eVar 1) (eC (.int 0)))) (eBin dMulI (eBin dIdx (eVar 1) (eVar 4)) (eVar 2)))))
  (sRet (eCall 1 F__law_reduce (aCons (eBin dAdd (eVar 3) (eFrz (eLstF (aCons (eBin dMulI (eVar 2) (eBin dIdx (eVar 1) (eC (.int 5)))) aNil)))) aNil))))))
def F__law_follow : List D → Rs D := runF 5 b__law_follow

abbrev n__law_scaled : List Str := ["a", "share", "n", "d", "found", "c"]
abbrev b__law_scaled : M Fl := (sSeq (sUnp (gT 2 (gsCons (gN 2) (gsCons (gN 3) gsNil))) (eVal 1))
  (sSeq (sAsg 4 (eFrz (eLstF (aCons (eBin dAdd (eBin dMulI (eBin dSub (eVar 3) (eVar 2)) (eBin dIdx (eVar 0) (eC (.int 5)))) (eBin dMulI (eVar 2) (eBin dIdx (eVar 0) (eC (.int 0))))) aNil))))
  (sRet (eCall 1 F__law_reduce (aCons (eBin dAdd (eBin dAdd (eVar 4) (eFrz (eComp (eIter (eFrz (eLstF (aCons (eC (.int 1)) (aCons (eC (.int 2)) (aCons (eC (.int 3)) (aCons (eC (.int 4)) aNil))))))) [5] (gN 5) tYesD (eBin dMulI (eVar 2) (eBin dIdx (eVar 0) (eVar 5)))))) (eFrz (eLstF (aCons (eBin dMulI (eVar 3) (eBin dIdx (eVar 0) (eC (.int 5)))) aNil)))) aNil)))))
def F__law_scaled : List D → Rs D := runF 6 b__law_scaled

abbrev n__law_coloured : List Str := ["a", "x", "found", "c"]
abbrev b__law_coloured : M Fl := (sSeq (sAsgF 2 (eLstF (aCons (eBin dMulI (eBin dIdx (eVar 0) (eC (.int 0))) (eBin dIdx (eVar 1) (eC (.int 3)))) (aCons (eC (.int 0)) aNil))))
  (sSeq (sFor (eRange (aCons (eC (.int 3)) aNil)) (gN 3) (sApp (eVar 2) (eBin dAdd (eBin dMulI (eBin dIdx (eVar 0) (eBin dAdd (eC (.int 2)) (eVar 3))) (eBin dIdx (eVar 1) (eC (.int 3)))) (eBin dMulI (eBin dIdx (eVar 0) (eC (.int 1))) (eBin dIdx (eVar 1) (eVar 3))))))
  (sRet (eCall 1 F__law_reduce (aCons (eBin dAdd (eVar 2) (eFrz (eLstF (aCons (eBin dMulI (eBin dIdx (eVar 0) (eC (.int 5))) (eBin dIdx (eVar 1) (eC (.int 3)))) aNil)))) aNil)))))
def F__law_coloured : List D → Rs D := runF 4 b__law_coloured

abbrev n__law_on : List Str := ["a", "p", "x", "found", "c", "one"]
abbrev b__law_on : M Fl := (sSeq (sAsgF 3 (eLstF aNil))
  (sSeq (sFor (eRange (aCons (eC (.int 3)) aNil)) (gN 4) (sSeq (sAsg 5 (eBin dAdd (eBin dMulI (eBin dMulI (eBin dIdx (eVar 0) (eC (.int 0))) (eBin dIdx (eVar 1) (eVar 4))) (eBin dIdx (eVar 2) (eC (.int 3)))) (eBin dMulI (eBin dMulI (eBin dIdx (eVar 0) (eC (.int 1))) (eBin dIdx (eVar 2) (eVar 4))) (eBin dIdx (eVar 1) (eC (.int 3))))))
  (sApp (eVar 3) (eBin dAdd (eVar 5) (eBin dMulI (eBin dMulI (eBin dIdx (eVar 0) (eBin dAdd (eC (.int 2)) (eVar 4))) (eBin dIdx (eVar 1) (eC (.int 3)))) (eBin dIdx (eVar 2) (eC (.int 3))))))))
  (sRet (eCall 1 F__law_reduce (aCons (eBin dAdd (eVar 3) (eFrz (eLstF (aCons (eBin dMulI (eBin dMulI (eBin dIdx (eVar 0) (eC (.int 5))) (eBin dIdx (eVar 1) (eC (.int 3)))) (eBin dIdx (eVar 2) (eC (.int 3)))) aNil)))) aNil)))))
def F__law_on : List D → Rs D := runF 6 b__law_on

abbrev n__law_is : List Str := ["told", "due", "part"]
abbrev b__law_is : M Fl := (sSeq (sIf (tOrD (tNotD (tTruD (eBlt dIsi (aCons (eVar 0) (aCons (eC (.ty "tuple")) aNil))))) (tOf (eBin dNe (eBlt dLen (aCons (eVar 0) aNil)) (eBlt dLen (aCons (eVar 1) aNil))))) (sRet (eC (.bl false))) sNext)
  (sSeq (sFor (eIter (eVal 0)) (gN 2) (sIf (tOrD (tNotD (tTruD (eBlt dIsi (aCons (eVar 2) (aCons (eC (.ty "int")) aNil))))) (tTruD (eBlt dIsi (aCons (eVar 2) (aCons (eC (.ty "bool")) aNil))))) (sRet (eC (.bl false))) sNext))
  (sRet (eBin dEq (eVar 0) (eVar 1)))))
def F__law_is : List D → Rs D := runF 3 b__law_is

abbrev n__law_formed : List Str := ["tape", "a", "f", "part", "due"]
abbrev b__law_formed : M Fl := (sSeq (sAsg 2 (eBin dAdd (eC (.int 1)) (eCall 2 F__law_next (aCons (eVar 0) (aCons (eC (.int 6)) aNil)))))
  (sSeq (sAsgF 1 (eComp (eIter (eVal 1)) [3] (gN 3) tYesD (eBin dMulI (eVar 2) (eVar 3))))
  (sSeq (sAsg 4 (eCall 1 F__law_reduce (aCons (eVal 1) aNil)))
  (sSeq (sIf (tOf (eBin dEq (eBlt dLen (aCons (eVar 1) aNil)) (eC (.int 4)))) (sRet (eCall 2 F__law_is (aCons (eCall 4 F_tone (aCons (eBin dIdx (eVar 1) (eC (.int 0))) (aCons (eBin dIdx (eVar 1) (eC (.int 1))) (aCons (eBin dIdx (eVar 1) (eC (.int 2))) (aCons (eBin dIdx (eVar 1) (eC (.int 3))) aNil))))) (aCons (eVal 4) aNil)))) sNext)
  (sRet (eCall 2 F__law_is (aCons (eCall 6 F_label (aCons (eBin dIdx (eVar 1) (eC (.int 0))) (aCons (eBin dIdx (eVar 1) (eC (.int 1))) (aCons (eBin dIdx (eVar 1) (eC (.int 2))) (aCons (eBin dIdx (eVar 1) (eC (.int 3))) (aCons (eBin dIdx (eVar 1) (eC (.int 4))) (aCons (eBin dIdx (eVar 1) (eC (.int 5))) aNil))))))) (aCons (eVal 4) aNil))))))))
def F__law_formed : List D → Rs D := runF 5 b__law_formed

abbrev n__law_alone : List Str := ["a", "tones", "shares", "share", "x", "due", "bent", "p"]
abbrev b__law_alone : M Fl := (sSeq (sIf (tOrD (tOf (eBin dNe (eCall 2 F_follow (aCons (eC c_SAME) (aCons (eVal 0) aNil))) (eVar 0))) (tOf (eBin dNe (eCall 2 F_follow (aCons (eVal 0) (aCons (eC c_SAME) aNil))) (eVar 0)))) (sRet (eC (.bl false))) sNext)
  (sSeq (sFor (eIter (eBin dAdd (eVar 2) (eFrz (eLstF (aCons (eTup (aCons (eC (.int 0)) (aCons (eC (.int 1)) aNil))) (aCons (eTup (aCons (eC (.int 1)) (aCons (eC (.int 1)) aNil))) aNil)))))) (gN 3) (sSeq (sIf (tNotD (tTruD (eCall 2 F__law_is (aCons (eCall 2 F_scaled (aCons (eVal 0) (aCons (eVal 3) aNil))) (aCons (eCall 2 F__law_scaled (aCons (eVal 0) (aCons (eVal 3) aNil))) aNil))))) (sRet (eC (.bl false))) sNext)
  (sFor (eIter (eVal 1)) (gN 4) (sSeq (sAsg 5 (eCall 2 F__law_coloured (aCons (eCall 2 F__law_scaled (aCons (eVal 0) (aCons (eVal 3) aNil))) (aCons (eVal 4) aNil))))
  (sSeq (sIf (tOf (eBin dNe (eCall 2 F_coloured (aCons (eCall 2 F_scaled (aCons (eVal 0) (aCons (eVal 3) aNil))) (aCons (eVal 4) aNil))) (eVar 5))) (sRet (eC (.bl false))) sNext)
  (sIf (tOf (eBin dNe (eCall 2 F_scaled (aCons (eCall 2 F_coloured (aCons (eVal 0) (aCons (eVal 4) aNil))) (aCons (eVal 3) aNil))) (eVar 5))) (sRet (eC (.bl false))) sNext))))))
  (sSeq (sIf (tOrD (tOf (eBin dNe (eCall 2 F_scaled (aCons (eVal 0) (aCons (eTup (aCons (eC (.int 0)) (aCons (eC (.int 1)) aNil))) aNil))) (eC c_SAME))) (tOf (eBin dNe (eCall 2 F_scaled (aCons (eVal 0) (aCons (eTup (aCons (eC (.int 1)) (aCons (eC (.int 1)) aNil))) aNil))) (eVar 0)))) (sRet (eC (.bl false))) sNext)
  (sSeq (sFor (eIter (eVal 1)) (gN 4) (sSeq (sAsg 6 (eCall 2 F_coloured (aCons (eVal 0) (aCons (eVal 4) aNil))))
  (sSeq (sIf (tOrD (tNotD (tTruD (eCall 2 F__law_is (aCons (eVal 6) (aCons (eCall 2 F__law_coloured (aCons (eVal 0) (aCons (eVal 4) aNil))) aNil))))) (tOf (eBin dNe (eBin dIdx (eVar 6) (eC (.int 1))) (eC (.int 0))))) (sRet (eC (.bl false))) sNext)
  (sFor (eIter (eVal 1)) (gN 7) (sSeq (sIf (tNotD (tTruD (eCall 2 F__law_is (aCons (eCall 3 F_tone_on (aCons (eVal 0) (aCons (eVal 7) (aCons (eVal 4) aNil)))) (aCons (eCall 3 F__law_on (aCons (eVal 0) (aCons (eVal 7) (aCons (eVal 4) aNil)))) aNil))))) (sRet (eC (.bl false))) sNext)
  (sSeq (sIf (tOf (eBin dNe (eCall 3 F_tone_on (aCons (eVal 6) (aCons (eVal 7) (aCons (eBin dIdx (eVar 1) (eC (.int 0))) aNil)))) (eCall 3 F__law_on (aCons (eVal 0) (aCons (eVal 7) (aCons (eVal 4) aNil)))))) (sRet (eC (.bl false))) sNext)
  (sIf (tOf (eBin dNe (eCall 3 F_tone_on (aCons (eVal 6) (aCons (eVal 7) (aCons (eVal 4) aNil)))) (eCall 3 F_tone_on (aCons (eVal 0) (aCons (eVal 7) (aCons (eVal 4) aNil)))))) (sRet (eC (.bl false))) sNext)))))))
  (sRet (eC (.bl true)))))))
def F__law_alone : List D → Rs D := runF 8 b__law_alone

abbrev n__law_two : List Str := ["a", "b", "tones", "told", "k", "x", "p", "due"]
abbrev b__law_two : M Fl := (sSeq (sAsg 3 (eCall 2 F_follow (aCons (eVal 0) (aCons (eVal 1) aNil))))
  (sSeq (sIf (tNotD (tTruD (eCall 2 F__law_is (aCons (eVal 3) (aCons (eCall 2 F__law_follow (aCons (eVal 0) (aCons (eVal 1) aNil))) aNil))))) (sRet (eC (.bl false))) sNext)
  (sSeq (sIf (tAndD (tOf (eBin dEq (eBin dIdx (eVar 3) (eC (.int 0))) (eC (.int 0)))) (tAndD (tOf (eBin dNe (eBin dIdx (eVar 0) (eC (.int 0))) (eC (.int 0)))) (tOf (eBin dNe (eBin dIdx (eVar 1) (eC (.int 0))) (eC (.int 0)))))) (sRet (eC (.bl false))) sNext)
  (sSeq (sIf (tAndD (tOf (eBin dNe (eBin dIdx (eVar 3) (eC (.int 0))) (eC (.int 0)))) (tOrD (tOf (eBin dEq (eBin dIdx (eVar 0) (eC (.int 0))) (eC (.int 0)))) (tOf (eBin dEq (eBin dIdx (eVar 1) (eC (.int 0))) (eC (.int 0)))))) (sRet (eC (.bl false))) sNext)
  (sSeq (sFor (eRange (aCons (eC (.int 8)) aNil)) (gN 4) (sSeq (sAsg 5 (eBin dIdx (eVar 2) (eBin dMod (eBlt dToInt (aCons (eVar 4) aNil)) (eC (.int 4)))))
  (sSeq (sAsg 6 (eBin dIdx (eVar 2) (eBin dMod (eBlt dToInt (aCons (eBin dAdd (eVar 4) (eBin dDiv (eVar 4) (eC (.int 4)))) aNil)) (eC (.int 4)))))
  (sSeq (sAsg 7 (eCall 3 F__law_on (aCons (eVal 1) (aCons (eCall 3 F__law_on (aCons (eVal 0) (aCons (eVal 6) (aCons (eVal 5) aNil)))) (aCons (eVal 5) aNil)))))
  (sSeq (sIf (tNotD (tTruD (eCall 2 F__law_is (aCons (eCall 3 F_tone_on (aCons (eVal 3) (aCons (eVal 6) (aCons (eVal 5) aNil)))) (aCons (eVal 7) aNil))))) (sRet (eC (.bl false))) sNext)
  (sIf (tOf (eBin dNe (eCall 3 F_tone_on (aCons (eVal 1) (aCons (eCall 3 F_tone_on (aCons (eVal 0) (aCons (eVal 6) (aCons (eVal 5) aNil)))) (aCons (eVal 5) aNil)))) (eVar 7))) (sRet (eC (.bl false))) sNext))))))
  (sRet (eC (.bl true))))))))
def F__law_two : List D → Rs D := runF 8 b__law_two

abbrev n__law_paints : List Str := ["inks", "shares", "share", "ink"]
abbrev b__law_paints : M Fl := (sSeq (sFor (eIter (eBin dAdd (eVar 1) (eFrz (eLstF (aCons (eTup (aCons (eC (.int 0)) (aCons (eC (.int 1)) aNil))) (aCons (eTup (aCons (eC (.int 1)) (aCons (eC (.int 1)) aNil))) aNil)))))) (gN 2) (sSeq (sFor (eIter (eVal 0)) (gN 3) (sIf (tNotD (tTruD (eCall 2 F__law_is (aCons (eCall 2 F_paint_label (aCons (eVal 3) (aCons (eVal 2) aNil))) (aCons (eCall 2 F__law_paint (aCons (eVal 3) (aCons (eVal 2) aNil))) aNil))))) (sRet (eC (.bl false))) sNext))
  (sIf (tOf (eBin dNe (eCall 2 F_paint_label (aCons (eC (.str "own")) (aCons (eVal 2) aNil))) (eCall 2 F_scaled (aCons (eTup (aCons (eC (.int 0)) (aCons (eC (.int 1)) (aCons (eC (.int 0)) (aCons (eC (.int 0)) (aCons (eC (.int 0)) (aCons (eC (.int 1)) aNil))))))) (aCons (eVal 2) aNil))))) (sRet (eC (.bl false))) sNext)))
  (sRet (eBin dEq (eCall 2 F_paint_label (aCons (eC (.str "own")) (aCons (eTup (aCons (eC (.int 0)) (aCons (eC (.int 1)) aNil))) aNil))) (eC c_SAME))))
def F__law_paints : List D → Rs D := runF 4 b__law_paints

abbrev n_law : List Str := ["script", "tape", "great", "raws", "k", "tones", "shares", "a", "b", "c", "raw", "one", "two", "due"]
abbrev b_law : M Fl := (sSeq (sAsgF 1 (eLstF (aCons (eCall 1 F__law_row (aCons (eVal 0) aNil)) (aCons (eC (.int 0)) aNil))))
  (sSeq (sAsg 2 (eBlt dToInt (aCons (eBin dEq (eCall 2 F__law_next (aCons (eVar 1) (aCons (eC (.int 8)) aNil))) (eC (.int 5))) aNil)))
  (sSeq (sAsgF 3 (eComp (eRange (aCons (eC (.int 3)) aNil)) [4] (gN 4) tYesD (eCall 2 F__law_raw_label (aCons (eVar 1) (aCons (eVal 2) aNil)))))
  (sSeq (sAsgF 5 (eComp (eRange (aCons (eC (.int 2)) aNil)) [4] (gN 4) tYesD (eCall 2 F__law_raw_tone (aCons (eVar 1) (aCons (eVal 2) aNil)))))
  (sSeq (sAsgF 6 (eComp (eRange (aCons (eC (.int 2)) aNil)) [4] (gN 4) tYesD (eCall 2 F__law_share (aCons (eVar 1) (aCons (eVal 2) aNil)))))
  (sSeq (sFor (eIter (eBin dAdd (eVar 3) (eVar 5))) (gN 7) (sIf (tNotD (tTruD (eCall 2 F__law_formed (aCons (eVar 1) (aCons (eVal 7) aNil))))) (sRet (eC (.bl false))) sNext))
  (sSeq (sUnp (gT 3 (gsCons (gN 7) (gsCons (gN 8) (gsCons (gN 9) gsNil)))) (eFrz (eComp (eIter (eVal 3)) [10] (gN 10) tYesD (eCall 1 F__law_reduce (aCons (eVal 10) aNil)))))
  (sSeq (sAsg 5 (eBin dAdd (eFrz (eComp (eIter (eVal 5)) [10] (gN 10) tYesD (eCall 1 F__law_reduce (aCons (eVal 10) aNil)))) (eFrz (eLstF (aCons (eTup (aCons (eC (.int 0)) (aCons (eC (.int 0)) (aCons (eC (.int 0)) (aCons (eC (.int 1)) aNil))))) (aCons (eTup (aCons (eC (.int 1)) (aCons (eC (.int 1)) (aCons (eC (.int 1)) (aCons (eC (.int 1)) aNil))))) aNil))))))
  (sSeq (sIf (tOrD (tNotD (tTruD (eCall 2 F__law_is (aCons (eC c_BLACK) (aCons (eTup (aCons (eC (.int 0)) (aCons (eC (.int 0)) (aCons (eC (.int 0)) (aCons (eC (.int 1)) aNil))))) aNil))))) (tNotD (tTruD (eCall 2 F__law_is (aCons (eC c_WHITE) (aCons (eTup (aCons (eC (.int 1)) (aCons (eC (.int 1)) (aCons (eC (.int 1)) (aCons (eC (.int 1)) aNil))))) aNil)))))) (sRet (eC (.bl false))) sNext)
  (sSeq (sIf (tOrD (tNotD (tTruD (eCall 2 F__law_is (aCons (eC c_SAME) (aCons (eTup (aCons (eC (.int 1)) (aCons (eC (.int 0)) (aCons (eC (.int 0)) (aCons (eC (.int 0)) (aCons (eC (.int 0)) (aCons (eC (.int 1)) aNil))))))) aNil))))) (tNotD (tTruD (eCall 2 F__law_paints (aCons (eBin dAdd (eFrz (eLstF (aCons (eC (.str "own")) aNil))) (eVar 5)) (aCons (eVal 6) aNil)))))) (sRet (eC (.bl false))) sNext)
  (sSeq (sFor (eIter (eFrz (eLstF (aCons (eVal 7) (aCons (eVal 8) (aCons (eVal 9) (aCons (eC c_SAME) aNil))))))) (gN 11) (sSeq (sIf (tNotD (tTruD (eCall 3 F__law_alone (aCons (eVal 11) (aCons (eVal 5) (aCons (eVal 6) aNil)))))) (sRet (eC (.bl false))) sNext)
  (sFor (eIter (eFrz (eLstF (aCons (eVal 7) (aCons (eVal 8) (aCons (eVal 9) aNil)))))) (gN 12) (sIf (tNotD (tTruD (eCall 3 F__law_two (aCons (eVal 11) (aCons (eVal 12) (aCons (eVal 5) aNil)))))) (sRet (eC (.bl false))) sNext))))
  (sSeq (sAsg 13 (eCall 2 F__law_follow (aCons (eCall 2 F__law_follow (aCons (eVal 7) (aCons (eVal 8) aNil))) (aCons (eVal 9) aNil))))
  (sSeq (sIf (tOf (eBin dNe (eCall 2 F_follow (aCons (eCall 2 F_follow (aCons (eVal 7) (aCons (eVal 8) aNil))) (aCons (eVal 9) aNil))) (eVar 13))) (sRet (eC (.bl false))) sNext)
  (sRet (eBin dEq (eCall 2 F_follow (aCons (eVal 7) (aCons (eCall 2 F_follow (aCons (eVal 8) (aCons (eVal 9) aNil))) aNil))) (eVar 13))))))))))))))))
def F_law : List D → Rs D := runF 14 b_law

end K09
end

section
set_option maxRecDepth 100000
set_option maxHeartbeats 4000000
namespace K09
open PySem L2 DL
/-! ### the text -/
def top (i : Nat) : Stmt := PySem.Challenge.pw_printstacks_k09_labels_one_behind_anothe.main.body.getD i (.Pass ⟨0, 0, 0, 0⟩)
structure Tx (K : PySem.W.Frag) (mg : Str → Option Value) : Prop where
  b_abs : mg "abs" = none
  b_bool : mg "bool" = none
  b_int : mg "int" = none
  b_isinstance : mg "isinstance" = none
  b_len : mg "len" = none
  b_range : mg "range" = none
  b_tuple : mg "tuple" = none
  i_gcd : mg "gcd" = some (.builtin "math.gcd")
  g_BLACK : mg "BLACK" = some (.ref (He.ga K "BLACK"))
  c_BLACK : ∀ B, Sh K B c_BLACK (.ref (He.ga K "BLACK"))
  g_SAME : mg "SAME" = some (.ref (He.ga K "SAME"))
  c_SAME : ∀ B, Sh K B c_SAME (.ref (He.ga K "SAME"))
  g_WHITE : mg "WHITE" = some (.ref (He.ga K "WHITE"))
  c_WHITE : ∀ B, Sh K B c_WHITE (.ref (He.ga K "WHITE"))
section
variable {P : Program} {w : World} {K : PySem.W.Frag} {mg : Str → Option Value} {base : Heap}
abbrev s_tone : Stmt := top 5
theorem sc_tone : FnScope n_tone ["r", "g", "b", "w"] (defScope s_tone) := ⟨rfl, rfl, rfl, by decide +kernel, rfl, by decide +kernel, by decide +kernel⟩
theorem D_tone {f : Addr} {fd : FuncData} (F : FunD K "tone" "tone" (defArgs s_tone) (defBody s_tone) (defScope s_tone) [] [] f fd) (hm : mg "tone" = some (.ref f)) (T : Tx K mg) : Fn P w K mg base "tone" 1 4 F_tone := by
  refine ⟨f, fd, ["r", "g", "b", "w"], fn_mkB (N := n_tone) (n := 4) (k := 0) (g := b_tone) F sc_tone rfl (by decide) (fun cdv A outer s H E c W b => ?_), hm, F.kp, F.bindsN fun _ _ _ _ _ _ us hl => match us, hl with | [_, _, _, _], _ => rfl⟩
  exact (ds_cons (ds_asg (i := 4) sc_tone.nd rfl (by first | exact Or.inl rfl | exact Or.inr rfl) (de_bltFn cr_gcdN ok_gcd rfl T.i_gcd (da_cons (de_var (pv 0)) (da_cons (de_var (pv 1)) (da_cons (de_var (pv 2)) (da_cons (de_var (pv 3)) da_nil))))))
 (ds_one (ds_ret (de_tup (da_cons (de_bin op_fdivA ok_div (de_var (pv 0)) (de_var (pv 4))) (da_cons (de_bin op_fdivA ok_div (de_var (pv 1)) (de_var (pv 4))) (da_cons (de_bin op_fdivA ok_div (de_var (pv 2)) (de_var (pv 4))) (da_cons (de_bin op_fdivA ok_div (de_var (pv 3)) (de_var (pv 4))) da_nil))))))))

abbrev s_label : Stmt := top 6
theorem sc_label : FnScope n_label ["k", "o", "r", "g", "b", "w"] (defScope s_label) := ⟨rfl, rfl, rfl, by decide +kernel, rfl, by decide +kernel, by decide +kernel⟩
theorem D_label {f : Addr} {fd : FuncData} (F : FunD K "label" "label" (defArgs s_label) (defBody s_label) (defScope s_label) [] [] f fd) (hm : mg "label" = some (.ref f)) (T : Tx K mg) : Fn P w K mg base "label" 1 6 F_label := by
  refine ⟨f, fd, ["k", "o", "r", "g", "b", "w"], fn_mkB (N := n_label) (n := 6) (k := 0) (g := b_label) F sc_label rfl (by decide) (fun cdv A outer s H E c W b => ?_), hm, F.kp, F.bindsN fun _ _ _ _ _ _ us hl => match us, hl with | [_, _, _, _, _, _], _ => rfl⟩
  exact (ds_cons (ds_asg (i := 6) sc_label.nd rfl (by first | exact Or.inl rfl | exact Or.inr rfl) (de_bltFn cr_gcdN ok_gcd rfl T.i_gcd (da_cons (de_var (pv 0)) (da_cons (de_var (pv 1)) (da_cons (de_var (pv 2)) (da_cons (de_var (pv 3)) (da_cons (de_var (pv 4)) (da_cons (de_var (pv 5)) da_nil))))))))
 (ds_one (ds_ret (de_tup (da_cons (de_bin op_fdivA ok_div (de_var (pv 0)) (de_var (pv 6))) (da_cons (de_bin op_fdivA ok_div (de_var (pv 1)) (de_var (pv 6))) (da_cons (de_bin op_fdivA ok_div (de_var (pv 2)) (de_var (pv 6))) (da_cons (de_bin op_fdivA ok_div (de_var (pv 3)) (de_var (pv 6))) (da_cons (de_bin op_fdivA ok_div (de_var (pv 4)) (de_var (pv 6))) (da_cons (de_bin op_fdivA ok_div (de_var (pv 5)) (de_var (pv 6))) da_nil))))))))))

abbrev s_paint_label : Stmt := top 7
theorem sc_paint_label : FnScope n_paint_label ["ink", "share"] (defScope s_paint_label) := ⟨rfl, rfl, rfl, by decide +kernel, rfl, by decide +kernel, by decide +kernel⟩
theorem D_paint_label {f : Addr} {fd : FuncData} (F : FunD K "paint_label" "paint_label" (defArgs s_paint_label) (defBody s_paint_label) (defScope s_paint_label) [] [] f fd) (hm : mg "paint_label" = some (.ref f)) (T : Tx K mg) (H_label : Fn P w K mg base "label" 1 6 F_label) : Fn P w K mg base "paint_label" 2 2 F_paint_label := by
  refine ⟨f, fd, ["ink", "share"], fn_mkB (N := n_paint_label) (n := 2) (k := 1) (g := b_paint_label) F sc_paint_label rfl (by decide) (fun cdv A outer s H E c W b => ?_), hm, F.kp, F.bindsN fun _ _ _ _ _ _ us hl => match us, hl with | [_, _], _ => rfl⟩
  exact (ds_cons (ds_unp (de_val (pv 1)) (dg_tup b.calm (dgs_cons (dg_name (i := 2) sc_paint_label.nd rfl (by first | exact Or.inl rfl | exact Or.inr rfl)) (dgs_cons (dg_name (i := 3) sc_paint_label.nd rfl (by first | exact Or.inl rfl | exact Or.inr rfl)) dgs_nil))))
 (ds_cons (ds_if (dt_cmp (op_eqAll b.room.units) ok_eq (de_var (pv 0)) (de_c pe_str fun _ => .str _) (nomark _))
 (ds_one (ds_ret (de_fn b.toBx H_label (by decide) rfl (da_cons (de_bin op_sub ok_sub (de_var (pv 3)) (de_var (pv 2))) (da_cons (de_val (pv 2)) (da_cons (de_c pe_int fun _ => .int _) (da_cons (de_c pe_int fun _ => .int _) (da_cons (de_c pe_int fun _ => .int _) (da_cons (de_val (pv 3)) da_nil)))))))))
 ds_nil)
 (ds_cons (ds_unp (de_val (pv 0)) (dg_tup b.calm (dgs_cons (dg_name (i := 4) sc_paint_label.nd rfl (by first | exact Or.inl rfl | exact Or.inr rfl)) (dgs_cons (dg_name (i := 5) sc_paint_label.nd rfl (by first | exact Or.inl rfl | exact Or.inr rfl)) (dgs_cons (dg_name (i := 6) sc_paint_label.nd rfl (by first | exact Or.inl rfl | exact Or.inr rfl)) (dgs_cons (dg_name (i := 7) sc_paint_label.nd rfl (by first | exact Or.inl rfl | exact Or.inr rfl)) dgs_nil))))))
 (ds_one (ds_ret (de_fn b.toBx H_label (by decide) rfl (da_cons (de_bin op_mulW ok_mulI (de_bin op_sub ok_sub (de_var (pv 3)) (de_var (pv 2))) (de_var (pv 7))) (da_cons (de_c pe_int fun _ => .int _) (da_cons (de_bin op_mulW ok_mulI (de_var (pv 2)) (de_var (pv 4))) (da_cons (de_bin op_mulW ok_mulI (de_var (pv 2)) (de_var (pv 5))) (da_cons (de_bin op_mulW ok_mulI (de_var (pv 2)) (de_var (pv 6))) (da_cons (de_bin op_mulW ok_mulI (de_var (pv 3)) (de_var (pv 7))) da_nil))))))))))))

abbrev s_follow : Stmt := top 8
theorem sc_follow : FnScope n_follow ["first", "second"] (defScope s_follow) := ⟨rfl, rfl, rfl, by decide +kernel, rfl, by decide +kernel, by decide +kernel⟩
theorem D_follow {f : Addr} {fd : FuncData} (F : FunD K "follow" "follow" (defArgs s_follow) (defBody s_follow) (defScope s_follow) [] [] f fd) (hm : mg "follow" = some (.ref f)) (T : Tx K mg) (H_label : Fn P w K mg base "label" 1 6 F_label) : Fn P w K mg base "follow" 2 2 F_follow := by
  refine ⟨f, fd, ["first", "second"], fn_mkB (N := n_follow) (n := 2) (k := 1) (g := b_follow) F sc_follow rfl (by decide) (fun cdv A outer s H E c W b => ?_), hm, F.kp, F.bindsN fun _ _ _ _ _ _ us hl => match us, hl with | [_, _], _ => rfl⟩
  exact (ds_cons (ds_if (dt_cmp (op_eqAll b.room.units) ok_eq (de_var (pv 0)) (de_c (pe_glob (v := .ref _) rfl T.g_SAME rfl) T.c_SAME) (nomark _))
 (ds_one (ds_ret (de_val (pv 1))))
 ds_nil)
 (ds_cons (ds_if (dt_cmp (op_eqAll b.room.units) ok_eq (de_var (pv 1)) (de_c (pe_glob (v := .ref _) rfl T.g_SAME rfl) T.c_SAME) (nomark _))
 (ds_one (ds_ret (de_val (pv 0))))
 ds_nil)
 (ds_cons (ds_unp (de_val (pv 0)) (dg_tup b.calm (dgs_cons (dg_name (i := 2) sc_follow.nd rfl (by first | exact Or.inl rfl | exact Or.inr rfl)) (dgs_cons (dg_name (i := 3) sc_follow.nd rfl (by first | exact Or.inl rfl | exact Or.inr rfl)) (dgs_cons (dg_name (i := 4) sc_follow.nd rfl (by first | exact Or.inl rfl | exact Or.inr rfl)) (dgs_cons (dg_name (i := 5) sc_follow.nd rfl (by first | exact Or.inl rfl | exact Or.inr rfl)) (dgs_cons (dg_name (i := 6) sc_follow.nd rfl (by first | exact Or.inl rfl | exact Or.inr rfl)) (dgs_cons (dg_name (i := 7) sc_follow.nd rfl (by first | exact Or.inl rfl | exact Or.inr rfl)) dgs_nil))))))))
 (ds_cons (ds_unp (de_val (pv 1)) (dg_tup b.calm (dgs_cons (dg_name (i := 8) sc_follow.nd rfl (by first | exact Or.inl rfl | exact Or.inr rfl)) (dgs_cons (dg_name (i := 9) sc_follow.nd rfl (by first | exact Or.inl rfl | exact Or.inr rfl)) (dgs_cons (dg_name (i := 10) sc_follow.nd rfl (by first | exact Or.inl rfl | exact Or.inr rfl)) (dgs_cons (dg_name (i := 11) sc_follow.nd rfl (by first | exact Or.inl rfl | exact Or.inr rfl)) (dgs_cons (dg_name (i := 12) sc_follow.nd rfl (by first | exact Or.inl rfl | exact Or.inr rfl)) (dgs_cons (dg_name (i := 13) sc_follow.nd rfl (by first | exact Or.inl rfl | exact Or.inr rfl)) dgs_nil))))))))
 (ds_one (ds_ret (de_fn b.toBx H_label (by decide) rfl (da_cons (de_bin op_mulW ok_mulI (de_var (pv 8)) (de_var (pv 2))) (da_cons (de_bin op_addAll ok_add (de_bin op_mulW ok_mulI (de_var (pv 8)) (de_var (pv 3))) (de_bin op_mulW ok_mulI (de_var (pv 9)) (de_var (pv 7)))) (da_cons (de_bin op_addAll ok_add (de_bin op_mulW ok_mulI (de_var (pv 8)) (de_var (pv 4))) (de_bin op_mulW ok_mulI (de_var (pv 10)) (de_var (pv 7)))) (da_cons (de_bin op_addAll ok_add (de_bin op_mulW ok_mulI (de_var (pv 8)) (de_var (pv 5))) (de_bin op_mulW ok_mulI (de_var (pv 11)) (de_var (pv 7)))) (da_cons (de_bin op_addAll ok_add (de_bin op_mulW ok_mulI (de_var (pv 8)) (de_var (pv 6))) (de_bin op_mulW ok_mulI (de_var (pv 12)) (de_var (pv 7)))) (da_cons (de_bin op_mulW ok_mulI (de_var (pv 13)) (de_var (pv 7))) da_nil)))))))))))))

abbrev s_scaled : Stmt := top 9
theorem sc_scaled : FnScope n_scaled ["one", "share"] (defScope s_scaled) := ⟨rfl, rfl, rfl, by decide +kernel, rfl, by decide +kernel, by decide +kernel⟩
theorem D_scaled {f : Addr} {fd : FuncData} (F : FunD K "scaled" "scaled" (defArgs s_scaled) (defBody s_scaled) (defScope s_scaled) [] [] f fd) (hm : mg "scaled" = some (.ref f)) (T : Tx K mg) (H_label : Fn P w K mg base "label" 1 6 F_label) : Fn P w K mg base "scaled" 2 2 F_scaled := by
  refine ⟨f, fd, ["one", "share"], fn_mkB (N := n_scaled) (n := 2) (k := 1) (g := b_scaled) F sc_scaled rfl (by decide) (fun cdv A outer s H E c W b => ?_), hm, F.kp, F.bindsN fun _ _ _ _ _ _ us hl => match us, hl with | [_, _], _ => rfl⟩
  exact (ds_cons (ds_unp (de_val (pv 0)) (dg_tup b.calm (dgs_cons (dg_name (i := 2) sc_scaled.nd rfl (by first | exact Or.inl rfl | exact Or.inr rfl)) (dgs_cons (dg_name (i := 3) sc_scaled.nd rfl (by first | exact Or.inl rfl | exact Or.inr rfl)) (dgs_cons (dg_name (i := 4) sc_scaled.nd rfl (by first | exact Or.inl rfl | exact Or.inr rfl)) (dgs_cons (dg_name (i := 5) sc_scaled.nd rfl (by first | exact Or.inl rfl | exact Or.inr rfl)) (dgs_cons (dg_name (i := 6) sc_scaled.nd rfl (by first | exact Or.inl rfl | exact Or.inr rfl)) (dgs_cons (dg_name (i := 7) sc_scaled.nd rfl (by first | exact Or.inl rfl | exact Or.inr rfl)) dgs_nil))))))))
 (ds_cons (ds_unp (de_val (pv 1)) (dg_tup b.calm (dgs_cons (dg_name (i := 8) sc_scaled.nd rfl (by first | exact Or.inl rfl | exact Or.inr rfl)) (dgs_cons (dg_name (i := 9) sc_scaled.nd rfl (by first | exact Or.inl rfl | exact Or.inr rfl)) dgs_nil))))
 (ds_one (ds_ret (de_fn b.toBx H_label (by decide) rfl (da_cons (de_bin op_addAll ok_add (de_bin op_mulW ok_mulI (de_bin op_sub ok_sub (de_var (pv 9)) (de_var (pv 8))) (de_var (pv 7))) (de_bin op_mulW ok_mulI (de_var (pv 8)) (de_var (pv 2)))) (da_cons (de_bin op_mulW ok_mulI (de_var (pv 8)) (de_var (pv 3))) (da_cons (de_bin op_mulW ok_mulI (de_var (pv 8)) (de_var (pv 4))) (da_cons (de_bin op_mulW ok_mulI (de_var (pv 8)) (de_var (pv 5))) (da_cons (de_bin op_mulW ok_mulI (de_var (pv 8)) (de_var (pv 6))) (da_cons (de_bin op_mulW ok_mulI (de_var (pv 9)) (de_var (pv 7))) da_nil)))))))))))

abbrev s_coloured : Stmt := top 10
theorem sc_coloured : FnScope n_coloured ["one", "colour"] (defScope s_coloured) := ⟨rfl, rfl, rfl, by decide +kernel, rfl, by decide +kernel, by decide +kernel⟩
theorem D_coloured {f : Addr} {fd : FuncData} (F : FunD K "coloured" "coloured" (defArgs s_coloured) (defBody s_coloured) (defScope s_coloured) [] [] f fd) (hm : mg "coloured" = some (.ref f)) (T : Tx K mg) (H_label : Fn P w K mg base "label" 1 6 F_label) : Fn P w K mg base "coloured" 2 2 F_coloured := by
  refine ⟨f, fd, ["one", "colour"], fn_mkB (N := n_coloured) (n := 2) (k := 1) (g := b_coloured) F sc_coloured rfl (by decide) (fun cdv A outer s H E c W b => ?_), hm, F.kp, F.bindsN fun _ _ _ _ _ _ us hl => match us, hl with | [_, _], _ => rfl⟩
  exact (ds_cons (ds_unp (de_val (pv 0)) (dg_tup b.calm (dgs_cons (dg_name (i := 2) sc_coloured.nd rfl (by first | exact Or.inl rfl | exact Or.inr rfl)) (dgs_cons (dg_name (i := 3) sc_coloured.nd rfl (by first | exact Or.inl rfl | exact Or.inr rfl)) (dgs_cons (dg_name (i := 4) sc_coloured.nd rfl (by first | exact Or.inl rfl | exact Or.inr rfl)) (dgs_cons (dg_name (i := 5) sc_coloured.nd rfl (by first | exact Or.inl rfl | exact Or.inr rfl)) (dgs_cons (dg_name (i := 6) sc_coloured.nd rfl (by first | exact Or.inl rfl | exact Or.inr rfl)) (dgs_cons (dg_name (i := 7) sc_coloured.nd rfl (by first | exact Or.inl rfl | exact Or.inr rfl)) dgs_nil))))))))
 (ds_cons (ds_unp (de_val (pv 1)) (dg_tup b.calm (dgs_cons (dg_name (i := 8) sc_coloured.nd rfl (by first | exact Or.inl rfl | exact Or.inr rfl)) (dgs_cons (dg_name (i := 9) sc_coloured.nd rfl (by first | exact Or.inl rfl | exact Or.inr rfl)) (dgs_cons (dg_name (i := 10) sc_coloured.nd rfl (by first | exact Or.inl rfl | exact Or.inr rfl)) (dgs_cons (dg_name (i := 11) sc_coloured.nd rfl (by first | exact Or.inl rfl | exact Or.inr rfl)) dgs_nil))))))
 (ds_one (ds_ret (de_fn b.toBx H_label (by decide) rfl (da_cons (de_bin op_mulW ok_mulI (de_var (pv 2)) (de_var (pv 11))) (da_cons (de_c pe_int fun _ => .int _) (da_cons (de_bin op_addAll ok_add (de_bin op_mulW ok_mulI (de_var (pv 4)) (de_var (pv 11))) (de_bin op_mulW ok_mulI (de_var (pv 3)) (de_var (pv 8)))) (da_cons (de_bin op_addAll ok_add (de_bin op_mulW ok_mulI (de_var (pv 5)) (de_var (pv 11))) (de_bin op_mulW ok_mulI (de_var (pv 3)) (de_var (pv 9)))) (da_cons (de_bin op_addAll ok_add (de_bin op_mulW ok_mulI (de_var (pv 6)) (de_var (pv 11))) (de_bin op_mulW ok_mulI (de_var (pv 3)) (de_var (pv 10)))) (da_cons (de_bin op_mulW ok_mulI (de_var (pv 7)) (de_var (pv 11))) da_nil)))))))))))

abbrev s_tone_on : Stmt := top 11
theorem sc_tone_on : FnScope n_tone_on ["one", "ground", "colour"] (defScope s_tone_on) := ⟨rfl, rfl, rfl, by decide +kernel, rfl, by decide +kernel, by decide +kernel⟩
theorem D_tone_on {f : Addr} {fd : FuncData} (F : FunD K "tone_on" "tone_on" (defArgs s_tone_on) (defBody s_tone_on) (defScope s_tone_on) [] [] f fd) (hm : mg "tone_on" = some (.ref f)) (T : Tx K mg) (H_tone : Fn P w K mg base "tone" 1 4 F_tone) : Fn P w K mg base "tone_on" 2 3 F_tone_on := by
  refine ⟨f, fd, ["one", "ground", "colour"], fn_mkB (N := n_tone_on) (n := 3) (k := 1) (g := b_tone_on) F sc_tone_on rfl (by decide) (fun cdv A outer s H E c W b => ?_), hm, F.kp, F.bindsN fun _ _ _ _ _ _ us hl => match us, hl with | [_, _, _], _ => rfl⟩
  exact (ds_cons (ds_asg (i := 3) sc_tone_on.nd rfl (by first | exact Or.inl rfl | exact Or.inr rfl) (de_bin op_mulW ok_mulI (de_idx (de_var (pv 0)) (de_c pe_int fun _ => .int _)) (de_idx (de_var (pv 2)) (de_c pe_int fun _ => .int _))))
 (ds_cons (ds_asg (i := 4) sc_tone_on.nd rfl (by first | exact Or.inl rfl | exact Or.inr rfl) (de_bin op_mulW ok_mulI (de_idx (de_var (pv 0)) (de_c pe_int fun _ => .int _)) (de_idx (de_var (pv 1)) (de_c pe_int fun _ => .int _))))
 (ds_cons (ds_asg (i := 5) sc_tone_on.nd rfl (by first | exact Or.inl rfl | exact Or.inr rfl) (de_bin op_mulW ok_mulI (de_idx (de_var (pv 1)) (de_c pe_int fun _ => .int _)) (de_idx (de_var (pv 2)) (de_c pe_int fun _ => .int _))))
 (ds_cons (ds_unp (de_frz (de_lc (own := [("at", 9)]) b.calm sc_tone_on.nd (di_range1 rfl T.b_range (da_cons (de_c pe_int fun _ => .int _) da_nil)) (blkOk_by (own := [("at", 9)]) (N := n_tone_on) (sc := defScope s_tone_on) (by decide +kernel)) (by decide) (fun _ _ _ _ _ => (dg_name (i := 9) sc_tone_on.nd rfl (by first | exact Or.inl rfl | exact Or.inr rfl))) (fun _ _ _ _ _ => dts_nil) (fun _ _ _ _ _ => (de_bin op_addAll ok_add (de_bin op_addAll ok_add (de_bin op_mulW ok_mulI (de_var (pv 3)) (de_idx (de_var (pv 1)) (de_var (pv 9)))) (de_bin op_mulW ok_mulI (de_var (pv 4)) (de_idx (de_var (pv 2)) (de_var (pv 9))))) (de_bin op_mulW ok_mulI (de_var (pv 5)) (de_idx (de_var (pv 0)) (de_bin op_addAll ok_add (de_c pe_int fun _ => .int _) (de_var (pv 9))))))))) (dg_tup b.calm (dgs_cons (dg_name (i := 6) sc_tone_on.nd rfl (by first | exact Or.inl rfl | exact Or.inr rfl)) (dgs_cons (dg_name (i := 7) sc_tone_on.nd rfl (by first | exact Or.inl rfl | exact Or.inr rfl)) (dgs_cons (dg_name (i := 8) sc_tone_on.nd rfl (by first | exact Or.inl rfl | exact Or.inr rfl)) dgs_nil)))))
 (ds_one (ds_ret (de_fn b.toBx H_tone (by decide) rfl (da_cons (de_val (pv 6)) (da_cons (de_val (pv 7)) (da_cons (de_val (pv 8)) (da_cons (de_bin op_mulW ok_mulI (de_var (pv 5)) (de_idx (de_var (pv 0)) (de_c pe_int fun _ => .int _))) da_nil)))))))))))

abbrev s__law_gcd : Stmt := top 13
theorem sc__law_gcd : FnScope n__law_gcd ["a", "b"] (defScope s__law_gcd) := ⟨rfl, rfl, rfl, by decide +kernel, rfl, by decide +kernel, by decide +kernel⟩
theorem D__law_gcd {f : Addr} {fd : FuncData} (F : FunD K "_law_gcd" "_law_gcd" (defArgs s__law_gcd) (defBody s__law_gcd) (defScope s__law_gcd) [] [] f fd) (hm : mg "_law_gcd" = some (.ref f)) (T : Tx K mg) : Fn P w K mg base "_law_gcd" 1 2 F__law_gcd := by
  refine ⟨f, fd, ["a", "b"], fn_mkB (N := n__law_gcd) (n := 2) (k := 0) (g := b__law_gcd) F sc__law_gcd rfl (by decide) (fun cdv A outer s H E c W b => ?_), hm, F.kp, F.bindsN fun _ _ _ _ _ _ us hl => match us, hl with | [_, _], _ => rfl⟩
  exact (ds_cons (ds_asg (i := 0) sc__law_gcd.nd rfl (by first | exact Or.inl rfl | exact Or.inr rfl) (de_blt call_abs ok_abs rfl T.b_abs (by decide +kernel) (da_cons (de_var (pv 0)) da_nil)))
 (ds_cons (ds_asg (i := 1) sc__law_gcd.nd rfl (by first | exact Or.inl rfl | exact Or.inr rfl) (de_blt call_abs ok_abs rfl T.b_abs (by decide +kernel) (da_cons (de_var (pv 1)) da_nil)))
 (ds_cons (ds_for b.po b.calm (di_range1 rfl T.b_range (da_cons (de_c pe_int fun _ => .int _) da_nil)) (dg_name (i := 2) sc__law_gcd.nd rfl (by first | exact Or.inl rfl | exact Or.inr rfl))
 (ds_cons (ds_if (dt_cmp (op_eqAll b.room.units) ok_eq (de_var (pv 1)) (de_c pe_int fun _ => .int _) (nomark _))
 (ds_one ds_break)
 ds_nil)
 (ds_one (ds_par (i := 0) (j := 1) b.calm sc__law_gcd.nd rfl rfl (by decide) rfl rfl (da_cons (de_val (pv 1)) (da_cons (de_bin op_modN ok_mod (de_bltTy call_int1 ok_toInt rfl T.b_int (by decide +kernel) (da_cons (de_var (pv 0)) da_nil)) (de_var (pv 1))) da_nil)) (by rfl)))))
 (ds_one (ds_ret (de_val (pv 0)))))))

abbrev s__law_row : Stmt := top 14
theorem sc__law_row : FnScope n__law_row ["script"] (defScope s__law_row) := ⟨rfl, rfl, rfl, by decide +kernel, rfl, by decide +kernel, by decide +kernel⟩
theorem D__law_row {f : Addr} {fd : FuncData} (F : FunD K "_law_row" "_law_row" (defArgs s__law_row) (defBody s__law_row) (defScope s__law_row) [] [] f fd) (hm : mg "_law_row" = some (.ref f)) (T : Tx K mg) : Fn P w K mg base "_law_row" 1 1 F__law_row := by
  refine ⟨f, fd, ["script"], fn_mkB (N := n__law_row) (n := 1) (k := 0) (g := b__law_row) F sc__law_row rfl (by decide) (fun cdv A outer s H E c W b => ?_), hm, F.kp, F.bindsN fun _ _ _ _ _ _ us hl => match us, hl with | [_], _ => rfl⟩
  exact (ds_cons (ds_asgF (i := 1) sc__law_row.nd rfl (by first | exact Or.inl rfl | exact Or.inr rfl) (de_lstF da_nil))
 (ds_cons (ds_for b.po b.calm (di_seq (de_slice (de_var (pv 0)) do_none (do_some (de_c pe_int fun _ => .int _)))) (dg_name (i := 2) sc__law_row.nd rfl (by first | exact Or.inl rfl | exact Or.inr rfl))
 (ds_cons (ds_asg (i := 3) sc__law_row.nd rfl (by first | exact Or.inl rfl | exact Or.inr rfl) (de_blt call_abs ok_abs rfl T.b_abs (by decide +kernel) (da_cons (de_bltTy call_int1 ok_toInt rfl T.b_int (by decide +kernel) (da_cons (de_var (pv 2)) da_nil)) da_nil)))
 (ds_one (ds_for b.po b.calm (di_range1 rfl T.b_range (da_cons (de_c pe_int fun _ => .int _) da_nil)) (dg_name (i := 4) sc__law_row.nd rfl (by first | exact Or.inl rfl | exact Or.inr rfl))
 (ds_cons (ds_app (de_var (pv 1)) (de_bin op_modN ok_mod (de_bltTy call_int1 ok_toInt rfl T.b_int (by decide +kernel) (da_cons (de_var (pv 3)) da_nil)) (de_c pe_int fun _ => .int _)))
 (ds_cons (ds_asg (i := 3) sc__law_row.nd rfl (by first | exact Or.inl rfl | exact Or.inr rfl) (de_bin op_fdivA ok_div (de_var (pv 3)) (de_c pe_int fun _ => .int _)))
 (ds_one (ds_if (dt_cmp (op_eqAll b.room.units) ok_eq (de_var (pv 3)) (de_c pe_int fun _ => .int _) (nomark _))
 (ds_one ds_break)
 ds_nil))))))))
 (ds_one (ds_ret (de_val (pv 1))))))

abbrev s__law_next : Stmt := top 15
theorem sc__law_next : FnScope n__law_next ["tape", "many"] (defScope s__law_next) := ⟨rfl, rfl, rfl, by decide +kernel, rfl, by decide +kernel, by decide +kernel⟩
theorem D__law_next {f : Addr} {fd : FuncData} (F : FunD K "_law_next" "_law_next" (defArgs s__law_next) (defBody s__law_next) (defScope s__law_next) [] [] f fd) (hm : mg "_law_next" = some (.ref f)) (T : Tx K mg) : Fn P w K mg base "_law_next" 1 2 F__law_next := by
  refine ⟨f, fd, ["tape", "many"], fn_mkB (N := n__law_next) (n := 2) (k := 0) (g := b__law_next) F sc__law_next rfl (by decide) (fun cdv A outer s H E c W b => ?_), hm, F.kp, F.bindsN fun _ _ _ _ _ _ us hl => match us, hl with | [_, _], _ => rfl⟩
  exact (ds_cons (ds_asg (i := 2) sc__law_next.nd rfl (by first | exact Or.inl rfl | exact Or.inr rfl) (de_idx (de_var (pv 0)) (de_c pe_int fun _ => .int _)))
 (ds_cons (ds_sub (de_var (pv 0)) (de_c pe_int fun _ => .int _) (de_bin op_addAll ok_add (de_var (pv 2)) (de_c pe_int fun _ => .int _)))
 (ds_cons (ds_asg (i := 3) sc__law_next.nd rfl (by first | exact Or.inl rfl | exact Or.inr rfl) (de_idx (de_var (pv 0)) (de_c pe_int fun _ => .int _)))
 (ds_cons (ds_if (dt_cmp (op_eqAll b.room.units) ok_eq (de_blt call_len ok_len rfl T.b_len (by decide +kernel) (da_cons (de_var (pv 3)) da_nil)) (de_c pe_int fun _ => .int _) (nomark _))
 (ds_one (ds_ret (de_bin op_modN ok_mod (de_bltTy call_int1 ok_toInt rfl T.b_int (by decide +kernel) (da_cons (de_bin op_addAll ok_add (de_bin op_mulW ok_mulI (de_var (pv 2)) (de_c pe_int fun _ => .int _)) (de_bin op_fdivA ok_div (de_var (pv 2)) (de_c pe_int fun _ => .int _))) da_nil)) (de_var (pv 1)))))
 ds_nil)
 (ds_cons (ds_asg (i := 4) sc__law_next.nd rfl (by first | exact Or.inl rfl | exact Or.inr rfl) (de_bin op_mulW ok_mulI (de_bin op_fdivA ok_div (de_var (pv 2)) (de_blt call_len ok_len rfl T.b_len (by decide +kernel) (da_cons (de_var (pv 3)) da_nil))) (de_c pe_int fun _ => .int _)))
 (ds_one (ds_ret (de_bin op_modN ok_mod (de_bltTy call_int1 ok_toInt rfl T.b_int (by decide +kernel) (da_cons (de_bin op_addAll ok_add (de_idx (de_var (pv 3)) (de_bin op_modN ok_mod (de_bltTy call_int1 ok_toInt rfl T.b_int (by decide +kernel) (da_cons (de_var (pv 2)) da_nil)) (de_blt call_len ok_len rfl T.b_len (by decide +kernel) (da_cons (de_var (pv 3)) da_nil)))) (de_var (pv 4))) da_nil)) (de_var (pv 1))))))))))

abbrev s__law_some : Stmt := top 16
theorem sc__law_some : FnScope n__law_some ["tape", "n"] (defScope s__law_some) := ⟨rfl, rfl, rfl, by decide +kernel, rfl, by decide +kernel, by decide +kernel⟩
theorem D__law_some {f : Addr} {fd : FuncData} (F : FunD K "_law_some" "_law_some" (defArgs s__law_some) (defBody s__law_some) (defScope s__law_some) [] [] f fd) (hm : mg "_law_some" = some (.ref f)) (T : Tx K mg) (H__law_next : Fn P w K mg base "_law_next" 1 2 F__law_next) : Fn P w K mg base "_law_some" 2 2 F__law_some := by
  refine ⟨f, fd, ["tape", "n"], fn_mkB (N := n__law_some) (n := 2) (k := 1) (g := b__law_some) F sc__law_some rfl (by decide) (fun cdv A outer s H E c W b => ?_), hm, F.kp, F.bindsN fun _ _ _ _ _ _ us hl => match us, hl with | [_, _], _ => rfl⟩
  exact (ds_cons (ds_asg (i := 2) sc__law_some.nd rfl (by first | exact Or.inl rfl | exact Or.inr rfl) (de_fn b.toBx H__law_next (by decide) rfl (da_cons (de_var (pv 0)) (da_cons (de_c pe_int fun _ => .int _) da_nil))))
 (ds_cons (ds_if (dt_cmp (op_eqAll b.room.units) ok_eq (de_var (pv 2)) (de_c pe_int fun _ => .int _) (nomark _))
 (ds_one (ds_ret (de_c pe_int fun _ => .int _)))
 ds_nil)
 (ds_cons (ds_if (dt_cmp (op_eqAll b.room.units) ok_eq (de_var (pv 2)) (de_c pe_int fun _ => .int _) (nomark _))
 (ds_one (ds_ret (de_val (pv 1))))
 ds_nil)
 (ds_one (ds_ret (de_bin op_fdivA ok_div (de_bin op_mulW ok_mulI (de_var (pv 1)) (de_fn b.toBx H__law_next (by decide) rfl (da_cons (de_var (pv 0)) (da_cons (de_c pe_int fun _ => .int _) da_nil)))) (de_c pe_int fun _ => .int _)))))))

abbrev s__law_whole : Stmt := top 17
theorem sc__law_whole : FnScope n__law_whole ["tape", "great"] (defScope s__law_whole) := ⟨rfl, rfl, rfl, by decide +kernel, rfl, by decide +kernel, by decide +kernel⟩
theorem D__law_whole {f : Addr} {fd : FuncData} (F : FunD K "_law_whole" "_law_whole" (defArgs s__law_whole) (defBody s__law_whole) (defScope s__law_whole) [] [] f fd) (hm : mg "_law_whole" = some (.ref f)) (T : Tx K mg) (H__law_next : Fn P w K mg base "_law_next" 1 2 F__law_next) : Fn P w K mg base "_law_whole" 2 2 F__law_whole := by
  refine ⟨f, fd, ["tape", "great"], fn_mkB (N := n__law_whole) (n := 2) (k := 1) (g := b__law_whole) F sc__law_whole rfl (by decide) (fun cdv A outer s H E c W b => ?_), hm, F.kp, F.bindsN fun _ _ _ _ _ _ us hl => match us, hl with | [_, _], _ => rfl⟩
  exact (ds_cons (ds_asg (i := 2) sc__law_whole.nd rfl (by first | exact Or.inl rfl | exact Or.inr rfl) (de_bin op_addAll ok_add (de_c pe_int fun _ => .int _) (de_fn b.toBx H__law_next (by decide) rfl (da_cons (de_var (pv 0)) (da_cons (de_c pe_int fun _ => .int _) da_nil)))))
 (ds_cons (ds_if (dt_cmp (op_eqAll b.room.units) ok_eq (de_var (pv 1)) (de_c pe_int fun _ => .int _) (nomark _))
 (ds_one (ds_for b.po b.calm (di_range1 rfl T.b_range (da_cons (de_c pe_int fun _ => .int _) da_nil)) (dg_name (i := 3) sc__law_whole.nd rfl (by first | exact Or.inl rfl | exact Or.inr rfl))
 (ds_one (ds_asg (i := 2) sc__law_whole.nd rfl (by first | exact Or.inl rfl | exact Or.inr rfl) (de_bin op_addAll ok_add (de_bin op_mulW ok_mulI (de_var (pv 2)) (de_c pe_int fun _ => .int _)) (de_fn b.toBx H__law_next (by decide) rfl (da_cons (de_var (pv 0)) (da_cons (de_c pe_int fun _ => .int _) da_nil))))))))
 ds_nil)
 (ds_one (ds_ret (de_val (pv 2))))))

abbrev s__law_reduce : Stmt := top 18
theorem sc__law_reduce : FnScope n__law_reduce ["parts"] (defScope s__law_reduce) := ⟨rfl, rfl, rfl, by decide +kernel, rfl, by decide +kernel, by decide +kernel⟩
theorem D__law_reduce {f : Addr} {fd : FuncData} (F : FunD K "_law_reduce" "_law_reduce" (defArgs s__law_reduce) (defBody s__law_reduce) (defScope s__law_reduce) [] [] f fd) (hm : mg "_law_reduce" = some (.ref f)) (T : Tx K mg) (H__law_gcd : Fn P w K mg base "_law_gcd" 1 2 F__law_gcd) : Fn P w K mg base "_law_reduce" 2 1 F__law_reduce := by
  refine ⟨f, fd, ["parts"], fn_mkB (N := n__law_reduce) (n := 1) (k := 1) (g := b__law_reduce) F sc__law_reduce rfl (by decide) (fun cdv A outer s H E c W b => ?_), hm, F.kp, F.bindsN fun _ _ _ _ _ _ us hl => match us, hl with | [_], _ => rfl⟩
  exact (ds_cons (ds_asg (i := 1) sc__law_reduce.nd rfl (by first | exact Or.inl rfl | exact Or.inr rfl) (de_c pe_int fun _ => .int _))
 (ds_cons (ds_for b.po b.calm (di_seq (de_val (pv 0))) (dg_name (i := 2) sc__law_reduce.nd rfl (by first | exact Or.inl rfl | exact Or.inr rfl))
 (ds_one (ds_asg (i := 1) sc__law_reduce.nd rfl (by first | exact Or.inl rfl | exact Or.inr rfl) (de_fn b.toBx H__law_gcd (by decide) rfl (da_cons (de_val (pv 1)) (da_cons (de_val (pv 2)) da_nil))))))
 (ds_one (ds_ret (de_bltTy call_tuple_of ok_tuple rfl T.b_tuple (by decide +kernel) (da_cons (de_frz (de_lc (own := [("part", 2)]) b.calm sc__law_reduce.nd (di_seq (de_val (pv 0))) (blkOk_by (own := [("part", 2)]) (N := n__law_reduce) (sc := defScope s__law_reduce) (by decide +kernel)) (by decide) (fun _ _ _ _ _ => (dg_name (i := 2) sc__law_reduce.nd rfl (by first | exact Or.inl rfl | exact Or.inr rfl))) (fun _ _ _ _ _ => dts_nil) (fun _ _ _ _ _ => (de_bin op_fdivA ok_div (de_var (pv 2)) (de_var (pv 1)))))) da_nil))))))

abbrev s__law_raw_label : Stmt := top 19
theorem sc__law_raw_label : FnScope n__law_raw_label ["tape", "great"] (defScope s__law_raw_label) := ⟨rfl, rfl, rfl, by decide +kernel, rfl, by decide +kernel, by decide +kernel⟩
theorem D__law_raw_label {f : Addr} {fd : FuncData} (F : FunD K "_law_raw_label" "_law_raw_label" (defArgs s__law_raw_label) (defBody s__law_raw_label) (defScope s__law_raw_label) [] [] f fd) (hm : mg "_law_raw_label" = some (.ref f)) (T : Tx K mg) (H__law_whole : Fn P w K mg base "_law_whole" 2 2 F__law_whole) (H__law_some : Fn P w K mg base "_law_some" 2 2 F__law_some) : Fn P w K mg base "_law_raw_label" 3 2 F__law_raw_label := by
  refine ⟨f, fd, ["tape", "great"], fn_mkB (N := n__law_raw_label) (n := 2) (k := 2) (g := b__law_raw_label) F sc__law_raw_label rfl (by decide) (fun cdv A outer s H E c W b => ?_), hm, F.kp, F.bindsN fun _ _ _ _ _ _ us hl => match us, hl with | [_, _], _ => rfl⟩
  exact (ds_cons (ds_asg (i := 2) sc__law_raw_label.nd rfl (by first | exact Or.inl rfl | exact Or.inr rfl) (de_fn b.toBx H__law_whole (by decide) rfl (da_cons (de_var (pv 0)) (da_cons (de_val (pv 1)) da_nil))))
 (ds_cons (ds_asg (i := 3) sc__law_raw_label.nd rfl (by first | exact Or.inl rfl | exact Or.inr rfl) (de_fn b.toBx H__law_some (by decide) rfl (da_cons (de_var (pv 0)) (da_cons (de_val (pv 2)) da_nil))))
 (ds_cons (ds_asg (i := 4) sc__law_raw_label.nd rfl (by first | exact Or.inl rfl | exact Or.inr rfl) (de_fn b.toBx H__law_some (by decide) rfl (da_cons (de_var (pv 0)) (da_cons (de_bin op_sub ok_sub (de_var (pv 2)) (de_var (pv 3))) da_nil))))
 (ds_one (ds_ret (de_bin op_addAll ok_add (de_bin op_addAll ok_add (de_frz (de_lstF (da_cons (de_val (pv 3)) (da_cons (de_val (pv 4)) da_nil)))) (de_frz (de_lc (own := [("c", 5)]) b.calm sc__law_raw_label.nd (di_range1 rfl T.b_range (da_cons (de_c pe_int fun _ => .int _) da_nil)) (blkOk_by (own := [("c", 5)]) (N := n__law_raw_label) (sc := defScope s__law_raw_label) (by decide +kernel)) (by decide) (fun _ _ _ _ _ => (dg_name (i := 5) sc__law_raw_label.nd rfl (by first | exact Or.inl rfl | exact Or.inr rfl))) (fun _ _ _ _ _ => dts_nil) (fun _ _ _ _ _ => (de_fn (Bx.blk b.toBx) H__law_some (by decide) rfl (da_cons (de_var (pv 0)) (da_cons (de_bin op_sub ok_sub (de_bin op_sub ok_sub (de_var (pv 2)) (de_var (pv 3))) (de_var (pv 4))) da_nil))))))) (de_frz (de_lstF (da_cons (de_val (pv 2)) da_nil)))))))))

abbrev s__law_raw_tone : Stmt := top 20
theorem sc__law_raw_tone : FnScope n__law_raw_tone ["tape", "great"] (defScope s__law_raw_tone) := ⟨rfl, rfl, rfl, by decide +kernel, rfl, by decide +kernel, by decide +kernel⟩
theorem D__law_raw_tone {f : Addr} {fd : FuncData} (F : FunD K "_law_raw_tone" "_law_raw_tone" (defArgs s__law_raw_tone) (defBody s__law_raw_tone) (defScope s__law_raw_tone) [] [] f fd) (hm : mg "_law_raw_tone" = some (.ref f)) (T : Tx K mg) (H__law_whole : Fn P w K mg base "_law_whole" 2 2 F__law_whole) (H__law_some : Fn P w K mg base "_law_some" 2 2 F__law_some) : Fn P w K mg base "_law_raw_tone" 3 2 F__law_raw_tone := by
  refine ⟨f, fd, ["tape", "great"], fn_mkB (N := n__law_raw_tone) (n := 2) (k := 2) (g := b__law_raw_tone) F sc__law_raw_tone rfl (by decide) (fun cdv A outer s H E c W b => ?_), hm, F.kp, F.bindsN fun _ _ _ _ _ _ us hl => match us, hl with | [_, _], _ => rfl⟩
  exact (ds_cons (ds_asg (i := 2) sc__law_raw_tone.nd rfl (by first | exact Or.inl rfl | exact Or.inr rfl) (de_fn b.toBx H__law_whole (by decide) rfl (da_cons (de_var (pv 0)) (da_cons (de_val (pv 1)) da_nil))))
 (ds_one (ds_ret (de_bin op_addAll ok_add (de_frz (de_lc (own := [("c", 3)]) b.calm sc__law_raw_tone.nd (di_range1 rfl T.b_range (da_cons (de_c pe_int fun _ => .int _) da_nil)) (blkOk_by (own := [("c", 3)]) (N := n__law_raw_tone) (sc := defScope s__law_raw_tone) (by decide +kernel)) (by decide) (fun _ _ _ _ _ => (dg_name (i := 3) sc__law_raw_tone.nd rfl (by first | exact Or.inl rfl | exact Or.inr rfl))) (fun _ _ _ _ _ => dts_nil) (fun _ _ _ _ _ => (de_fn (Bx.blk b.toBx) H__law_some (by decide) rfl (da_cons (de_var (pv 0)) (da_cons (de_val (pv 2)) da_nil)))))) (de_frz (de_lstF (da_cons (de_val (pv 2)) da_nil)))))))

abbrev s__law_share : Stmt := top 21
theorem sc__law_share : FnScope n__law_share ["tape", "great"] (defScope s__law_share) := ⟨rfl, rfl, rfl, by decide +kernel, rfl, by decide +kernel, by decide +kernel⟩
theorem D__law_share {f : Addr} {fd : FuncData} (F : FunD K "_law_share" "_law_share" (defArgs s__law_share) (defBody s__law_share) (defScope s__law_share) [] [] f fd) (hm : mg "_law_share" = some (.ref f)) (T : Tx K mg) (H__law_whole : Fn P w K mg base "_law_whole" 2 2 F__law_whole) (H__law_some : Fn P w K mg base "_law_some" 2 2 F__law_some) (H__law_gcd : Fn P w K mg base "_law_gcd" 1 2 F__law_gcd) : Fn P w K mg base "_law_share" 3 2 F__law_share := by
  refine ⟨f, fd, ["tape", "great"], fn_mkB (N := n__law_share) (n := 2) (k := 2) (g := b__law_share) F sc__law_share rfl (by decide) (fun cdv A outer s H E c W b => ?_), hm, F.kp, F.bindsN fun _ _ _ _ _ _ us hl => match us, hl with | [_, _], _ => rfl⟩
  exact (ds_cons (ds_asg (i := 2) sc__law_share.nd rfl (by first | exact Or.inl rfl | exact Or.inr rfl) (de_fn b.toBx H__law_whole (by decide) rfl (da_cons (de_var (pv 0)) (da_cons (de_val (pv 1)) da_nil))))
 (ds_cons (ds_asg (i := 3) sc__law_share.nd rfl (by first | exact Or.inl rfl | exact Or.inr rfl) (de_fn b.toBx H__law_some (by decide) rfl (da_cons (de_var (pv 0)) (da_cons (de_val (pv 2)) da_nil))))
 (ds_cons (ds_asg (i := 4) sc__law_share.nd rfl (by first | exact Or.inl rfl | exact Or.inr rfl) (de_fn b.toBx H__law_gcd (by decide) rfl (da_cons (de_val (pv 3)) (da_cons (de_val (pv 2)) da_nil))))
 (ds_one (ds_ret (de_tup (da_cons (de_bin op_fdivA ok_div (de_var (pv 3)) (de_var (pv 4))) (da_cons (de_bin op_fdivA ok_div (de_var (pv 2)) (de_var (pv 4))) da_nil))))))))

abbrev s__law_paint : Stmt := top 22
theorem sc__law_paint : FnScope n__law_paint ["ink", "share"] (defScope s__law_paint) := ⟨rfl, rfl, rfl, by decide +kernel, rfl, by decide +kernel, by decide +kernel⟩
theorem D__law_paint {f : Addr} {fd : FuncData} (F : FunD K "_law_paint" "_law_paint" (defArgs s__law_paint) (defBody s__law_paint) (defScope s__law_paint) [] [] f fd) (hm : mg "_law_paint" = some (.ref f)) (T : Tx K mg) (H__law_reduce : Fn P w K mg base "_law_reduce" 2 1 F__law_reduce) : Fn P w K mg base "_law_paint" 3 2 F__law_paint := by
  refine ⟨f, fd, ["ink", "share"], fn_mkB (N := n__law_paint) (n := 2) (k := 2) (g := b__law_paint) F sc__law_paint rfl (by decide) (fun cdv A outer s H E c W b => ?_), hm, F.kp, F.bindsN fun _ _ _ _ _ _ us hl => match us, hl with | [_, _], _ => rfl⟩
  exact (ds_cons (ds_unp (de_val (pv 1)) (dg_tup b.calm (dgs_cons (dg_name (i := 2) sc__law_paint.nd rfl (by first | exact Or.inl rfl | exact Or.inr rfl)) (dgs_cons (dg_name (i := 3) sc__law_paint.nd rfl (by first | exact Or.inl rfl | exact Or.inr rfl)) dgs_nil))))
 (ds_cons (ds_if (dt_cmp (op_eqAll b.room.units) ok_eq (de_var (pv 0)) (de_c pe_str fun _ => .str _) (nomark _))
 (ds_one (ds_ret (de_fn b.toBx H__law_reduce (by decide) rfl (da_cons (de_frz (de_lstF (da_cons (de_bin op_sub ok_sub (de_var (pv 3)) (de_var (pv 2))) (da_cons (de_val (pv 2)) (da_cons (de_c pe_int fun _ => .int _) (da_cons (de_c pe_int fun _ => .int _) (da_cons (de_c pe_int fun _ => .int _) (da_cons (de_val (pv 3)) da_nil)))))))) da_nil))))
 ds_nil)
 (ds_cons (ds_asg (i := 4) sc__law_paint.nd rfl (by first | exact Or.inl rfl | exact Or.inr rfl) (de_idx (de_var (pv 0)) (de_c pe_int fun _ => .int _)))
 (ds_cons (ds_asg (i := 5) sc__law_paint.nd rfl (by first | exact Or.inl rfl | exact Or.inr rfl) (de_bin op_addAll ok_add (de_frz (de_lstF (da_cons (de_bin op_mulW ok_mulI (de_bin op_sub ok_sub (de_var (pv 3)) (de_var (pv 2))) (de_var (pv 4))) (da_cons (de_c pe_int fun _ => .int _) da_nil)))) (de_frz (de_lc (own := [("c", 6)]) b.calm sc__law_paint.nd (di_seq (de_slice (de_var (pv 0)) do_none (do_some (de_c pe_int fun _ => .int _)))) (blkOk_by (own := [("c", 6)]) (N := n__law_paint) (sc := defScope s__law_paint) (by decide +kernel)) (by decide) (fun _ _ _ _ _ => (dg_name (i := 6) sc__law_paint.nd rfl (by first | exact Or.inl rfl | exact Or.inr rfl))) (fun _ _ _ _ _ => dts_nil) (fun _ _ _ _ _ => (de_bin op_mulW ok_mulI (de_var (pv 2)) (de_var (pv 6))))))))
 (ds_one (ds_ret (de_fn b.toBx H__law_reduce (by decide) rfl (da_cons (de_bin op_addAll ok_add (de_var (pv 5)) (de_frz (de_lstF (da_cons (de_bin op_mulW ok_mulI (de_var (pv 3)) (de_var (pv 4))) da_nil)))) da_nil))))))))

abbrev s__law_follow : Stmt := top 23
theorem sc__law_follow : FnScope n__law_follow ["a", "b"] (defScope s__law_follow) := ⟨rfl, rfl, rfl, by decide +kernel, rfl, by decide +kernel, by decide +kernel⟩
theorem D__law_follow {f : Addr} {fd : FuncData} (F : FunD K "_law_follow" "_law_follow" (defArgs s__law_follow) (defBody s__law_follow) (defScope s__law_follow) [] [] f fd) (hm : mg "_law_follow" = some (.ref f)) (T : Tx K mg) (H__law_reduce : Fn P w K mg base "_law_reduce" 2 1 F__law_reduce) : Fn P w K mg base "_law_follow" 3 2 F__law_follow := by
  refine ⟨f, fd, ["a", "b"], fn_mkB (N := n__law_follow) (n := 2) (k := 2) (g := b__law_follow) F sc__law_follow rfl (by decide) (fun cdv A outer s H E c W b => ?_), hm, F.kp, F.bindsN fun _ _ _ _ _ _ us hl => match us, hl with | [_, _], _ => rfl⟩
  exact (ds_cons (ds_asg (i := 2) sc__law_follow.nd rfl (by first | exact Or.inl rfl | exact Or.inr rfl) (de_idx (de_var (pv 0)) (de_c pe_int fun _ => .int _)))
 (ds_cons (ds_asgF (i := 3) sc__law_follow.nd rfl (by first | exact Or.inl rfl | exact Or.inr rfl) (de_lstF (da_cons (de_bin op_mulW ok_mulI (de_idx (de_var (pv 0)) (de_c pe_int fun _ => .int _)) (de_idx (de_var (pv 1)) (de_c pe_int fun _ => .int _))) (da_cons (de_bin op_addAll ok_add (de_bin op_mulW ok_mulI (de_idx (de_var (pv 0)) (de_c pe_int fun _ => .int _)) (de_idx (de_var (pv 1)) (de_c pe_int fun _ => .int _))) (de_bin op_mulW ok_mulI (de_idx (de_var (pv 1)) (de_c pe_int fun _ => .int _)) (de_var (pv 2)))) da_nil))))
 (ds_cons (ds_for b.po b.calm (di_seq (de_frz (de_lstF (da_cons (de_c pe_int fun _ => .int _) (da_cons (de_c pe_int fun _ => .int _) (da_cons (de_c pe_int fun _ => .int _) da_nil)))))) (dg_name (i := 4) sc__law_follow.nd rfl (by first | exact Or.inl rfl | exact Or.inr rfl))
 (ds_one (ds_app (de_var (pv 3)) (de_bin op_addAll ok_add (de_bin op_mulW ok_mulI (de_idx (de_var (pv 0)) (de_var (pv 4))) (de_idx (de_var (pv 1)) (de_c pe_int fun _ => .int _))) (de_bin op_mulW ok_mulI (de_idx (de_var (pv 1)) (de_var (pv 4))) (de_var (pv 2)))))))
 (ds_one (ds_ret (de_fn b.toBx H__law_reduce (by decide) rfl (da_cons (de_bin op_addAll ok_add (de_var (pv 3)) (de_frz (de_lstF (da_cons (de_bin op_mulW ok_mulI (de_var (pv 2)) (de_idx (de_var (pv 1)) (de_c pe_int fun _ => .int _))) da_nil)))) da_nil)))))))

abbrev s__law_scaled : Stmt := top 24
theorem sc__law_scaled : FnScope n__law_scaled ["a", "share"] (defScope s__law_scaled) := ⟨rfl, rfl, rfl, by decide +kernel, rfl, by decide +kernel, by decide +kernel⟩
theorem D__law_scaled {f : Addr} {fd : FuncData} (F : FunD K "_law_scaled" "_law_scaled" (defArgs s__law_scaled) (defBody s__law_scaled) (defScope s__law_scaled) [] [] f fd) (hm : mg "_law_scaled" = some (.ref f)) (T : Tx K mg) (H__law_reduce : Fn P w K mg base "_law_reduce" 2 1 F__law_reduce) : Fn P w K mg base "_law_scaled" 3 2 F__law_scaled := by
  refine ⟨f, fd, ["a", "share"], fn_mkB (N := n__law_scaled) (n := 2) (k := 2) (g := b__law_scaled) F sc__law_scaled rfl (by decide) (fun cdv A outer s H E c W b => ?_), hm, F.kp, F.bindsN fun _ _ _ _ _ _ us hl => match us, hl with | [_, _], _ => rfl⟩
  exact (ds_cons (ds_unp (de_val (pv 1)) (dg_tup b.calm (dgs_cons (dg_name (i := 2) sc__law_scaled.nd rfl (by first | exact Or.inl rfl | exact Or.inr rfl)) (dgs_cons (dg_name (i := 3) sc__law_scaled.nd rfl (by first | exact Or.inl rfl | exact Or.inr rfl)) dgs_nil))))
 (ds_cons (ds_asg (i := 4) sc__law_scaled.nd rfl (by first | exact Or.inl rfl | exact Or.inr rfl) (de_frz (de_lstF (da_cons (de_bin op_addAll ok_add (de_bin op_mulW ok_mulI (de_bin op_sub ok_sub (de_var (pv 3)) (de_var (pv 2))) (de_idx (de_var (pv 0)) (de_c pe_int fun _ => .int _))) (de_bin op_mulW ok_mulI (de_var (pv 2)) (de_idx (de_var (pv 0)) (de_c pe_int fun _ => .int _)))) da_nil))))
 (ds_one (ds_ret (de_fn b.toBx H__law_reduce (by decide) rfl (da_cons (de_bin op_addAll ok_add (de_bin op_addAll ok_add (de_var (pv 4)) (de_frz (de_lc (own := [("c", 5)]) b.calm sc__law_scaled.nd (di_seq (de_frz (de_lstF (da_cons (de_c pe_int fun _ => .int _) (da_cons (de_c pe_int fun _ => .int _) (da_cons (de_c pe_int fun _ => .int _) (da_cons (de_c pe_int fun _ => .int _) da_nil))))))) (blkOk_by (own := [("c", 5)]) (N := n__law_scaled) (sc := defScope s__law_scaled) (by decide +kernel)) (by decide) (fun _ _ _ _ _ => (dg_name (i := 5) sc__law_scaled.nd rfl (by first | exact Or.inl rfl | exact Or.inr rfl))) (fun _ _ _ _ _ => dts_nil) (fun _ _ _ _ _ => (de_bin op_mulW ok_mulI (de_var (pv 2)) (de_idx (de_var (pv 0)) (de_var (pv 5)))))))) (de_frz (de_lstF (da_cons (de_bin op_mulW ok_mulI (de_var (pv 3)) (de_idx (de_var (pv 0)) (de_c pe_int fun _ => .int _))) da_nil)))) da_nil))))))

abbrev s__law_coloured : Stmt := top 25
theorem sc__law_coloured : FnScope n__law_coloured ["a", "x"] (defScope s__law_coloured) := ⟨rfl, rfl, rfl, by decide +kernel, rfl, by decide +kernel, by decide +kernel⟩
theorem D__law_coloured {f : Addr} {fd : FuncData} (F : FunD K "_law_coloured" "_law_coloured" (defArgs s__law_coloured) (defBody s__law_coloured) (defScope s__law_coloured) [] [] f fd) (hm : mg "_law_coloured" = some (.ref f)) (T : Tx K mg) (H__law_reduce : Fn P w K mg base "_law_reduce" 2 1 F__law_reduce) : Fn P w K mg base "_law_coloured" 3 2 F__law_coloured := by
  refine ⟨f, fd, ["a", "x"], fn_mkB (N := n__law_coloured) (n := 2) (k := 2) (g := b__law_coloured) F sc__law_coloured rfl (by decide) (fun cdv A outer s H E c W b => ?_), hm, F.kp, F.bindsN fun _ _ _ _ _ _ us hl => match us, hl with | [_, _], _ => rfl⟩
  exact (ds_cons (ds_asgF (i := 2) sc__law_coloured.nd rfl (by first | exact Or.inl rfl | exact Or.inr rfl) (de_lstF (da_cons (de_bin op_mulW ok_mulI (de_idx (de_var (pv 0)) (de_c pe_int fun _ => .int _)) (de_idx (de_var (pv 1)) (de_c pe_int fun _ => .int _))) (da_cons (de_c pe_int fun _ => .int _) da_nil))))
 (ds_cons (ds_for b.po b.calm (di_range1 rfl T.b_range (da_cons (de_c pe_int fun _ => .int _) da_nil)) (dg_name (i := 3) sc__law_coloured.nd rfl (by first | exact Or.inl rfl | exact Or.inr rfl))
 (ds_one (ds_app (de_var (pv 2)) (de_bin op_addAll ok_add (de_bin op_mulW ok_mulI (de_idx (de_var (pv 0)) (de_bin op_addAll ok_add (de_c pe_int fun _ => .int _) (de_var (pv 3)))) (de_idx (de_var (pv 1)) (de_c pe_int fun _ => .int _))) (de_bin op_mulW ok_mulI (de_idx (de_var (pv 0)) (de_c pe_int fun _ => .int _)) (de_idx (de_var (pv 1)) (de_var (pv 3))))))))
 (ds_one (ds_ret (de_fn b.toBx H__law_reduce (by decide) rfl (da_cons (de_bin op_addAll ok_add (de_var (pv 2)) (de_frz (de_lstF (da_cons (de_bin op_mulW ok_mulI (de_idx (de_var (pv 0)) (de_c pe_int fun _ => .int _)) (de_idx (de_var (pv 1)) (de_c pe_int fun _ => .int _))) da_nil)))) da_nil))))))

abbrev s__law_on : Stmt := top 26
theorem sc__law_on : FnScope n__law_on ["a", "p", "x"] (defScope s__law_on) := ⟨rfl, rfl, rfl, by decide +kernel, rfl, by decide +kernel, by decide +kernel⟩
theorem D__law_on {f : Addr} {fd : FuncData} (F : FunD K "_law_on" "_law_on" (defArgs s__law_on) (defBody s__law_on) (defScope s__law_on) [] [] f fd) (hm : mg "_law_on" = some (.ref f)) (T : Tx K mg) (H__law_reduce : Fn P w K mg base "_law_reduce" 2 1 F__law_reduce) : Fn P w K mg base "_law_on" 3 3 F__law_on := by
  refine ⟨f, fd, ["a", "p", "x"], fn_mkB (N := n__law_on) (n := 3) (k := 2) (g := b__law_on) F sc__law_on rfl (by decide) (fun cdv A outer s H E c W b => ?_), hm, F.kp, F.bindsN fun _ _ _ _ _ _ us hl => match us, hl with | [_, _, _], _ => rfl⟩
  exact (ds_cons (ds_asgF (i := 3) sc__law_on.nd rfl (by first | exact Or.inl rfl | exact Or.inr rfl) (de_lstF da_nil))
 (ds_cons (ds_for b.po b.calm (di_range1 rfl T.b_range (da_cons (de_c pe_int fun _ => .int _) da_nil)) (dg_name (i := 4) sc__law_on.nd rfl (by first | exact Or.inl rfl | exact Or.inr rfl))
 (ds_cons (ds_asg (i := 5) sc__law_on.nd rfl (by first | exact Or.inl rfl | exact Or.inr rfl) (de_bin op_addAll ok_add (de_bin op_mulW ok_mulI (de_bin op_mulW ok_mulI (de_idx (de_var (pv 0)) (de_c pe_int fun _ => .int _)) (de_idx (de_var (pv 1)) (de_var (pv 4)))) (de_idx (de_var (pv 2)) (de_c pe_int fun _ => .int _))) (de_bin op_mulW ok_mulI (de_bin op_mulW ok_mulI (de_idx (de_var (pv 0)) (de_c pe_int fun _ => .int _)) (de_idx (de_var (pv 2)) (de_var (pv 4)))) (de_idx (de_var (pv 1)) (de_c pe_int fun _ => .int _)))))
 (ds_one (ds_app (de_var (pv 3)) (de_bin op_addAll ok_add (de_var (pv 5)) (de_bin op_mulW ok_mulI (de_bin op_mulW ok_mulI (de_idx (de_var (pv 0)) (de_bin op_addAll ok_add (de_c pe_int fun _ => .int _) (de_var (pv 4)))) (de_idx (de_var (pv 1)) (de_c pe_int fun _ => .int _))) (de_idx (de_var (pv 2)) (de_c pe_int fun _ => .int _))))))))
 (ds_one (ds_ret (de_fn b.toBx H__law_reduce (by decide) rfl (da_cons (de_bin op_addAll ok_add (de_var (pv 3)) (de_frz (de_lstF (da_cons (de_bin op_mulW ok_mulI (de_bin op_mulW ok_mulI (de_idx (de_var (pv 0)) (de_c pe_int fun _ => .int _)) (de_idx (de_var (pv 1)) (de_c pe_int fun _ => .int _))) (de_idx (de_var (pv 2)) (de_c pe_int fun _ => .int _))) da_nil)))) da_nil))))))

abbrev s__law_is : Stmt := top 27
theorem sc__law_is : FnScope n__law_is ["told", "due"] (defScope s__law_is) := ⟨rfl, rfl, rfl, by decide +kernel, rfl, by decide +kernel, by decide +kernel⟩
theorem D__law_is {f : Addr} {fd : FuncData} (F : FunD K "_law_is" "_law_is" (defArgs s__law_is) (defBody s__law_is) (defScope s__law_is) [] [] f fd) (hm : mg "_law_is" = some (.ref f)) (T : Tx K mg) : Fn P w K mg base "_law_is" 1 2 F__law_is := by
  refine ⟨f, fd, ["told", "due"], fn_mkB (N := n__law_is) (n := 2) (k := 0) (g := b__law_is) F sc__law_is rfl (by decide) (fun cdv A outer s H E c W b => ?_), hm, F.kp, F.bindsN fun _ _ _ _ _ _ us hl => match us, hl with | [_, _], _ => rfl⟩
  exact (ds_cons (ds_if (PW.pt (dw_or (dt_not (dt_tru (de_blt call_isi ok_isi rfl T.b_isinstance (by decide +kernel) (da_cons (de_var (pv 0)) (da_cons (de_c (pe_bltn (v := .ty "tuple") rfl T.b_tuple (by decide +kernel) rfl) fun _ => .ty _) da_nil))))) (dw_or1 (dt_cmp (op_neAll b.room.units) ok_ne (de_blt call_len ok_len rfl T.b_len (by decide +kernel) (da_cons (de_var (pv 0)) da_nil)) (de_blt call_len ok_len rfl T.b_len (by decide +kernel) (da_cons (de_var (pv 1)) da_nil)) (nomark _)))))
 (ds_one (ds_ret (de_c pe_bl fun _ => .bl _)))
 ds_nil)
 (ds_cons (ds_for b.po b.calm (di_seq (de_val (pv 0))) (dg_name (i := 2) sc__law_is.nd rfl (by first | exact Or.inl rfl | exact Or.inr rfl))
 (ds_one (ds_if (PW.pt (dw_or (dt_not (dt_tru (de_blt call_isi ok_isi rfl T.b_isinstance (by decide +kernel) (da_cons (de_var (pv 2)) (da_cons (de_c (pe_bltn (v := .ty "int") rfl T.b_int (by decide +kernel) rfl) fun _ => .ty _) da_nil))))) (dw_or1 (dt_tru (de_blt call_isi ok_isi rfl T.b_isinstance (by decide +kernel) (da_cons (de_var (pv 2)) (da_cons (de_c (pe_bltn (v := .ty "bool") rfl T.b_bool (by decide +kernel) rfl) fun _ => .ty _) da_nil)))))))
 (ds_one (ds_ret (de_c pe_bl fun _ => .bl _)))
 ds_nil)))
 (ds_one (ds_ret (de_cmp (op_eqAll b.room.units) ok_eq (de_var (pv 0)) (de_var (pv 1)) (nomark _))))))

abbrev s__law_formed : Stmt := top 28
theorem sc__law_formed : FnScope n__law_formed ["tape", "a"] (defScope s__law_formed) := ⟨rfl, rfl, rfl, by decide +kernel, rfl, by decide +kernel, by decide +kernel⟩
theorem D__law_formed {f : Addr} {fd : FuncData} (F : FunD K "_law_formed" "_law_formed" (defArgs s__law_formed) (defBody s__law_formed) (defScope s__law_formed) [] [] f fd) (hm : mg "_law_formed" = some (.ref f)) (T : Tx K mg) (H__law_reduce : Fn P w K mg base "_law_reduce" 2 1 F__law_reduce) (H__law_is : Fn P w K mg base "_law_is" 1 2 F__law_is) (H__law_next : Fn P w K mg base "_law_next" 1 2 F__law_next) (H_label : Fn P w K mg base "label" 1 6 F_label) (H_tone : Fn P w K mg base "tone" 1 4 F_tone) : Fn P w K mg base "_law_formed" 3 2 F__law_formed := by
  refine ⟨f, fd, ["tape", "a"], fn_mkB (N := n__law_formed) (n := 2) (k := 2) (g := b__law_formed) F sc__law_formed rfl (by decide) (fun cdv A outer s H E c W b => ?_), hm, F.kp, F.bindsN fun _ _ _ _ _ _ us hl => match us, hl with | [_, _], _ => rfl⟩
  exact (ds_cons (ds_asg (i := 2) sc__law_formed.nd rfl (by first | exact Or.inl rfl | exact Or.inr rfl) (de_bin op_addAll ok_add (de_c pe_int fun _ => .int _) (de_fn b.toBx H__law_next (by decide) rfl (da_cons (de_var (pv 0)) (da_cons (de_c pe_int fun _ => .int _) da_nil)))))
 (ds_cons (ds_setLc (i := 1) (own := [("part", 3)]) b.calm sc__law_formed.nd rfl rfl (sw_true rfl rfl rfl (by decide +kernel)) (di_seq (de_val (pv 1))) (blkOk_by (own := [("part", 3)]) (N := n__law_formed) (sc := defScope s__law_formed) (by decide +kernel)) (by decide) (fun _ _ _ _ _ => (dg_name (i := 3) sc__law_formed.nd rfl (by first | exact Or.inl rfl | exact Or.inr rfl))) (fun _ _ _ _ _ => dts_nil) (fun _ _ _ _ _ => (de_bin op_mulW ok_mulI (de_var (pv 2)) (de_var (pv 3)))))
 (ds_cons (ds_asg (i := 4) sc__law_formed.nd rfl (by first | exact Or.inl rfl | exact Or.inr rfl) (de_fn b.toBx H__law_reduce (by decide) rfl (da_cons (de_val (pv 1)) da_nil)))
 (ds_cons (ds_if (dt_cmp (op_eqAll b.room.units) ok_eq (de_blt call_len ok_len rfl T.b_len (by decide +kernel) (da_cons (de_var (pv 1)) da_nil)) (de_c pe_int fun _ => .int _) (nomark _))
 (ds_one (ds_ret (de_fn b.toBx H__law_is (by decide) rfl (da_cons (de_fn b.toBx H_tone (by decide) rfl (da_cons (de_idx (de_var (pv 1)) (de_c pe_int fun _ => .int _)) (da_cons (de_idx (de_var (pv 1)) (de_c pe_int fun _ => .int _)) (da_cons (de_idx (de_var (pv 1)) (de_c pe_int fun _ => .int _)) (da_cons (de_idx (de_var (pv 1)) (de_c pe_int fun _ => .int _)) da_nil))))) (da_cons (de_val (pv 4)) da_nil)))))
 ds_nil)
 (ds_one (ds_ret (de_fn b.toBx H__law_is (by decide) rfl (da_cons (de_fn b.toBx H_label (by decide) rfl (da_cons (de_idx (de_var (pv 1)) (de_c pe_int fun _ => .int _)) (da_cons (de_idx (de_var (pv 1)) (de_c pe_int fun _ => .int _)) (da_cons (de_idx (de_var (pv 1)) (de_c pe_int fun _ => .int _)) (da_cons (de_idx (de_var (pv 1)) (de_c pe_int fun _ => .int _)) (da_cons (de_idx (de_var (pv 1)) (de_c pe_int fun _ => .int _)) (da_cons (de_idx (de_var (pv 1)) (de_c pe_int fun _ => .int _)) da_nil))))))) (da_cons (de_val (pv 4)) da_nil)))))))))

abbrev s__law_alone : Stmt := top 29
theorem sc__law_alone : FnScope n__law_alone ["a", "tones", "shares"] (defScope s__law_alone) := ⟨rfl, rfl, rfl, by decide +kernel, rfl, by decide +kernel, by decide +kernel⟩
theorem D__law_alone {f : Addr} {fd : FuncData} (F : FunD K "_law_alone" "_law_alone" (defArgs s__law_alone) (defBody s__law_alone) (defScope s__law_alone) [] [] f fd) (hm : mg "_law_alone" = some (.ref f)) (T : Tx K mg) (H_coloured : Fn P w K mg base "coloured" 2 2 F_coloured) (H_follow : Fn P w K mg base "follow" 2 2 F_follow) (H__law_is : Fn P w K mg base "_law_is" 1 2 F__law_is) (H__law_coloured : Fn P w K mg base "_law_coloured" 3 2 F__law_coloured) (H_scaled : Fn P w K mg base "scaled" 2 2 F_scaled) (H__law_scaled : Fn P w K mg base "_law_scaled" 3 2 F__law_scaled) (H_tone_on : Fn P w K mg base "tone_on" 2 3 F_tone_on) (H__law_on : Fn P w K mg base "_law_on" 3 3 F__law_on) : Fn P w K mg base "_law_alone" 4 3 F__law_alone := by
  refine ⟨f, fd, ["a", "tones", "shares"], fn_mkB (N := n__law_alone) (n := 3) (k := 3) (g := b__law_alone) F sc__law_alone rfl (by decide) (fun cdv A outer s H E c W b => ?_), hm, F.kp, F.bindsN fun _ _ _ _ _ _ us hl => match us, hl with | [_, _, _], _ => rfl⟩
  exact (ds_cons (ds_if (PW.pt (dw_or (dt_cmp (op_neAll b.room.units) ok_ne (de_fn b.toBx H_follow (by decide) rfl (da_cons (de_c (pe_glob (v := .ref _) rfl T.g_SAME rfl) T.c_SAME) (da_cons (de_val (pv 0)) da_nil))) (de_var (pv 0)) (nomark _)) (dw_or1 (dt_cmp (op_neAll b.room.units) ok_ne (de_fn b.toBx H_follow (by decide) rfl (da_cons (de_val (pv 0)) (da_cons (de_c (pe_glob (v := .ref _) rfl T.g_SAME rfl) T.c_SAME) da_nil))) (de_var (pv 0)) (nomark _)))))
 (ds_one (ds_ret (de_c pe_bl fun _ => .bl _)))
 ds_nil)
 (ds_cons (ds_for b.po b.calm (di_seq (de_bin op_addAll ok_add (de_var (pv 2)) (de_frz (de_lstF (da_cons (de_tup (da_cons (de_c pe_int fun _ => .int _) (da_cons (de_c pe_int fun _ => .int _) da_nil))) (da_cons (de_tup (da_cons (de_c pe_int fun _ => .int _) (da_cons (de_c pe_int fun _ => .int _) da_nil))) da_nil)))))) (dg_name (i := 3) sc__law_alone.nd rfl (by first | exact Or.inl rfl | exact Or.inr rfl))
 (ds_cons (ds_if (dt_not (dt_tru (de_fn b.toBx H__law_is (by decide) rfl (da_cons (de_fn b.toBx H_scaled (by decide) rfl (da_cons (de_val (pv 0)) (da_cons (de_val (pv 3)) da_nil))) (da_cons (de_fn b.toBx H__law_scaled (by decide) rfl (da_cons (de_val (pv 0)) (da_cons (de_val (pv 3)) da_nil))) da_nil)))))
 (ds_one (ds_ret (de_c pe_bl fun _ => .bl _)))
 ds_nil)
 (ds_one (ds_for b.po b.calm (di_seq (de_val (pv 1))) (dg_name (i := 4) sc__law_alone.nd rfl (by first | exact Or.inl rfl | exact Or.inr rfl))
 (ds_cons (ds_asg (i := 5) sc__law_alone.nd rfl (by first | exact Or.inl rfl | exact Or.inr rfl) (de_fn b.toBx H__law_coloured (by decide) rfl (da_cons (de_fn b.toBx H__law_scaled (by decide) rfl (da_cons (de_val (pv 0)) (da_cons (de_val (pv 3)) da_nil))) (da_cons (de_val (pv 4)) da_nil))))
 (ds_cons (ds_if (dt_cmp (op_neAll b.room.units) ok_ne (de_fn b.toBx H_coloured (by decide) rfl (da_cons (de_fn b.toBx H_scaled (by decide) rfl (da_cons (de_val (pv 0)) (da_cons (de_val (pv 3)) da_nil))) (da_cons (de_val (pv 4)) da_nil))) (de_var (pv 5)) (nomark _))
 (ds_one (ds_ret (de_c pe_bl fun _ => .bl _)))
 ds_nil)
 (ds_one (ds_if (dt_cmp (op_neAll b.room.units) ok_ne (de_fn b.toBx H_scaled (by decide) rfl (da_cons (de_fn b.toBx H_coloured (by decide) rfl (da_cons (de_val (pv 0)) (da_cons (de_val (pv 4)) da_nil))) (da_cons (de_val (pv 3)) da_nil))) (de_var (pv 5)) (nomark _))
 (ds_one (ds_ret (de_c pe_bl fun _ => .bl _)))
 ds_nil))))))))
 (ds_cons (ds_if (PW.pt (dw_or (dt_cmp (op_neAll b.room.units) ok_ne (de_fn b.toBx H_scaled (by decide) rfl (da_cons (de_val (pv 0)) (da_cons (de_tup (da_cons (de_c pe_int fun _ => .int _) (da_cons (de_c pe_int fun _ => .int _) da_nil))) da_nil))) (de_c (pe_glob (v := .ref _) rfl T.g_SAME rfl) T.c_SAME) (nomark _)) (dw_or1 (dt_cmp (op_neAll b.room.units) ok_ne (de_fn b.toBx H_scaled (by decide) rfl (da_cons (de_val (pv 0)) (da_cons (de_tup (da_cons (de_c pe_int fun _ => .int _) (da_cons (de_c pe_int fun _ => .int _) da_nil))) da_nil))) (de_var (pv 0)) (nomark _)))))
 (ds_one (ds_ret (de_c pe_bl fun _ => .bl _)))
 ds_nil)
 (ds_cons (ds_for b.po b.calm (di_seq (de_val (pv 1))) (dg_name (i := 4) sc__law_alone.nd rfl (by first | exact Or.inl rfl | exact Or.inr rfl))
 (ds_cons (ds_asg (i := 6) sc__law_alone.nd rfl (by first | exact Or.inl rfl | exact Or.inr rfl) (de_fn b.toBx H_coloured (by decide) rfl (da_cons (de_val (pv 0)) (da_cons (de_val (pv 4)) da_nil))))
 (ds_cons (ds_if (PW.pt (dw_or (dt_not (dt_tru (de_fn b.toBx H__law_is (by decide) rfl (da_cons (de_val (pv 6)) (da_cons (de_fn b.toBx H__law_coloured (by decide) rfl (da_cons (de_val (pv 0)) (da_cons (de_val (pv 4)) da_nil))) da_nil))))) (dw_or1 (dt_cmp (op_neAll b.room.units) ok_ne (de_idx (de_var (pv 6)) (de_c pe_int fun _ => .int _)) (de_c pe_int fun _ => .int _) (nomark _)))))
 (ds_one (ds_ret (de_c pe_bl fun _ => .bl _)))
 ds_nil)
 (ds_one (ds_for b.po b.calm (di_seq (de_val (pv 1))) (dg_name (i := 7) sc__law_alone.nd rfl (by first | exact Or.inl rfl | exact Or.inr rfl))
 (ds_cons (ds_if (dt_not (dt_tru (de_fn b.toBx H__law_is (by decide) rfl (da_cons (de_fn b.toBx H_tone_on (by decide) rfl (da_cons (de_val (pv 0)) (da_cons (de_val (pv 7)) (da_cons (de_val (pv 4)) da_nil)))) (da_cons (de_fn b.toBx H__law_on (by decide) rfl (da_cons (de_val (pv 0)) (da_cons (de_val (pv 7)) (da_cons (de_val (pv 4)) da_nil)))) da_nil)))))
 (ds_one (ds_ret (de_c pe_bl fun _ => .bl _)))
 ds_nil)
 (ds_cons (ds_if (dt_cmp (op_neAll b.room.units) ok_ne (de_fn b.toBx H_tone_on (by decide) rfl (da_cons (de_val (pv 6)) (da_cons (de_val (pv 7)) (da_cons (de_idx (de_var (pv 1)) (de_c pe_int fun _ => .int _)) da_nil)))) (de_fn b.toBx H__law_on (by decide) rfl (da_cons (de_val (pv 0)) (da_cons (de_val (pv 7)) (da_cons (de_val (pv 4)) da_nil)))) (nomark _))
 (ds_one (ds_ret (de_c pe_bl fun _ => .bl _)))
 ds_nil)
 (ds_one (ds_if (dt_cmp (op_neAll b.room.units) ok_ne (de_fn b.toBx H_tone_on (by decide) rfl (da_cons (de_val (pv 6)) (da_cons (de_val (pv 7)) (da_cons (de_val (pv 4)) da_nil)))) (de_fn b.toBx H_tone_on (by decide) rfl (da_cons (de_val (pv 0)) (da_cons (de_val (pv 7)) (da_cons (de_val (pv 4)) da_nil)))) (nomark _))
 (ds_one (ds_ret (de_c pe_bl fun _ => .bl _)))
 ds_nil)))))))))
 (ds_one (ds_ret (de_c pe_bl fun _ => .bl _)))))))

abbrev s__law_two : Stmt := top 30
theorem sc__law_two : FnScope n__law_two ["a", "b", "tones"] (defScope s__law_two) := ⟨rfl, rfl, rfl, by decide +kernel, rfl, by decide +kernel, by decide +kernel⟩
theorem D__law_two {f : Addr} {fd : FuncData} (F : FunD K "_law_two" "_law_two" (defArgs s__law_two) (defBody s__law_two) (defScope s__law_two) [] [] f fd) (hm : mg "_law_two" = some (.ref f)) (T : Tx K mg) (H_follow : Fn P w K mg base "follow" 2 2 F_follow) (H__law_is : Fn P w K mg base "_law_is" 1 2 F__law_is) (H__law_on : Fn P w K mg base "_law_on" 3 3 F__law_on) (H__law_follow : Fn P w K mg base "_law_follow" 3 2 F__law_follow) (H_tone_on : Fn P w K mg base "tone_on" 2 3 F_tone_on) : Fn P w K mg base "_law_two" 4 3 F__law_two := by
  refine ⟨f, fd, ["a", "b", "tones"], fn_mkB (N := n__law_two) (n := 3) (k := 3) (g := b__law_two) F sc__law_two rfl (by decide) (fun cdv A outer s H E c W b => ?_), hm, F.kp, F.bindsN fun _ _ _ _ _ _ us hl => match us, hl with | [_, _, _], _ => rfl⟩
  exact (ds_cons (ds_asg (i := 3) sc__law_two.nd rfl (by first | exact Or.inl rfl | exact Or.inr rfl) (de_fn b.toBx H_follow (by decide) rfl (da_cons (de_val (pv 0)) (da_cons (de_val (pv 1)) da_nil))))
 (ds_cons (ds_if (dt_not (dt_tru (de_fn b.toBx H__law_is (by decide) rfl (da_cons (de_val (pv 3)) (da_cons (de_fn b.toBx H__law_follow (by decide) rfl (da_cons (de_val (pv 0)) (da_cons (de_val (pv 1)) da_nil))) da_nil)))))
 (ds_one (ds_ret (de_c pe_bl fun _ => .bl _)))
 ds_nil)
 (ds_cons (ds_if (PW.pt (dw_and (dt_cmp (op_eqAll b.room.units) ok_eq (de_idx (de_var (pv 3)) (de_c pe_int fun _ => .int _)) (de_c pe_int fun _ => .int _) (nomark _)) (dw_and (dt_cmp (op_neAll b.room.units) ok_ne (de_idx (de_var (pv 0)) (de_c pe_int fun _ => .int _)) (de_c pe_int fun _ => .int _) (nomark _)) (dw_and1 (dt_cmp (op_neAll b.room.units) ok_ne (de_idx (de_var (pv 1)) (de_c pe_int fun _ => .int _)) (de_c pe_int fun _ => .int _) (nomark _))))))
 (ds_one (ds_ret (de_c pe_bl fun _ => .bl _)))
 ds_nil)
 (ds_cons (ds_if (PW.pt (dw_and (dt_cmp (op_neAll b.room.units) ok_ne (de_idx (de_var (pv 3)) (de_c pe_int fun _ => .int _)) (de_c pe_int fun _ => .int _) (nomark _)) (dw_and1 (PW.pt (dw_or (dt_cmp (op_eqAll b.room.units) ok_eq (de_idx (de_var (pv 0)) (de_c pe_int fun _ => .int _)) (de_c pe_int fun _ => .int _) (nomark _)) (dw_or1 (dt_cmp (op_eqAll b.room.units) ok_eq (de_idx (de_var (pv 1)) (de_c pe_int fun _ => .int _)) (de_c pe_int fun _ => .int _) (nomark _))))))))
 (ds_one (ds_ret (de_c pe_bl fun _ => .bl _)))
 ds_nil)
 (ds_cons (ds_for b.po b.calm (di_range1 rfl T.b_range (da_cons (de_c pe_int fun _ => .int _) da_nil)) (dg_name (i := 4) sc__law_two.nd rfl (by first | exact Or.inl rfl | exact Or.inr rfl))
 (ds_cons (ds_asg (i := 5) sc__law_two.nd rfl (by first | exact Or.inl rfl | exact Or.inr rfl) (de_idx (de_var (pv 2)) (de_bin op_modN ok_mod (de_bltTy call_int1 ok_toInt rfl T.b_int (by decide +kernel) (da_cons (de_var (pv 4)) da_nil)) (de_c pe_int fun _ => .int _))))
 (ds_cons (ds_asg (i := 6) sc__law_two.nd rfl (by first | exact Or.inl rfl | exact Or.inr rfl) (de_idx (de_var (pv 2)) (de_bin op_modN ok_mod (de_bltTy call_int1 ok_toInt rfl T.b_int (by decide +kernel) (da_cons (de_bin op_addAll ok_add (de_var (pv 4)) (de_bin op_fdivA ok_div (de_var (pv 4)) (de_c pe_int fun _ => .int _))) da_nil)) (de_c pe_int fun _ => .int _))))
 (ds_cons (ds_asg (i := 7) sc__law_two.nd rfl (by first | exact Or.inl rfl | exact Or.inr rfl) (de_fn b.toBx H__law_on (by decide) rfl (da_cons (de_val (pv 1)) (da_cons (de_fn b.toBx H__law_on (by decide) rfl (da_cons (de_val (pv 0)) (da_cons (de_val (pv 6)) (da_cons (de_val (pv 5)) da_nil)))) (da_cons (de_val (pv 5)) da_nil)))))
 (ds_cons (ds_if (dt_not (dt_tru (de_fn b.toBx H__law_is (by decide) rfl (da_cons (de_fn b.toBx H_tone_on (by decide) rfl (da_cons (de_val (pv 3)) (da_cons (de_val (pv 6)) (da_cons (de_val (pv 5)) da_nil)))) (da_cons (de_val (pv 7)) da_nil)))))
 (ds_one (ds_ret (de_c pe_bl fun _ => .bl _)))
 ds_nil)
 (ds_one (ds_if (dt_cmp (op_neAll b.room.units) ok_ne (de_fn b.toBx H_tone_on (by decide) rfl (da_cons (de_val (pv 1)) (da_cons (de_fn b.toBx H_tone_on (by decide) rfl (da_cons (de_val (pv 0)) (da_cons (de_val (pv 6)) (da_cons (de_val (pv 5)) da_nil)))) (da_cons (de_val (pv 5)) da_nil)))) (de_var (pv 7)) (nomark _))
 (ds_one (ds_ret (de_c pe_bl fun _ => .bl _)))
 ds_nil)))))))
 (ds_one (ds_ret (de_c pe_bl fun _ => .bl _))))))))

abbrev s__law_paints : Stmt := top 31
theorem sc__law_paints : FnScope n__law_paints ["inks", "shares"] (defScope s__law_paints) := ⟨rfl, rfl, rfl, by decide +kernel, rfl, by decide +kernel, by decide +kernel⟩
theorem D__law_paints {f : Addr} {fd : FuncData} (F : FunD K "_law_paints" "_law_paints" (defArgs s__law_paints) (defBody s__law_paints) (defScope s__law_paints) [] [] f fd) (hm : mg "_law_paints" = some (.ref f)) (T : Tx K mg) (H_paint_label : Fn P w K mg base "paint_label" 2 2 F_paint_label) (H_scaled : Fn P w K mg base "scaled" 2 2 F_scaled) (H__law_is : Fn P w K mg base "_law_is" 1 2 F__law_is) (H__law_paint : Fn P w K mg base "_law_paint" 3 2 F__law_paint) : Fn P w K mg base "_law_paints" 4 2 F__law_paints := by
  refine ⟨f, fd, ["inks", "shares"], fn_mkB (N := n__law_paints) (n := 2) (k := 3) (g := b__law_paints) F sc__law_paints rfl (by decide) (fun cdv A outer s H E c W b => ?_), hm, F.kp, F.bindsN fun _ _ _ _ _ _ us hl => match us, hl with | [_, _], _ => rfl⟩
  exact (ds_cons (ds_for b.po b.calm (di_seq (de_bin op_addAll ok_add (de_var (pv 1)) (de_frz (de_lstF (da_cons (de_tup (da_cons (de_c pe_int fun _ => .int _) (da_cons (de_c pe_int fun _ => .int _) da_nil))) (da_cons (de_tup (da_cons (de_c pe_int fun _ => .int _) (da_cons (de_c pe_int fun _ => .int _) da_nil))) da_nil)))))) (dg_name (i := 2) sc__law_paints.nd rfl (by first | exact Or.inl rfl | exact Or.inr rfl))
 (ds_cons (ds_for b.po b.calm (di_seq (de_val (pv 0))) (dg_name (i := 3) sc__law_paints.nd rfl (by first | exact Or.inl rfl | exact Or.inr rfl))
 (ds_one (ds_if (dt_not (dt_tru (de_fn b.toBx H__law_is (by decide) rfl (da_cons (de_fn b.toBx H_paint_label (by decide) rfl (da_cons (de_val (pv 3)) (da_cons (de_val (pv 2)) da_nil))) (da_cons (de_fn b.toBx H__law_paint (by decide) rfl (da_cons (de_val (pv 3)) (da_cons (de_val (pv 2)) da_nil))) da_nil)))))
 (ds_one (ds_ret (de_c pe_bl fun _ => .bl _)))
 ds_nil)))
 (ds_one (ds_if (dt_cmp (op_neAll b.room.units) ok_ne (de_fn b.toBx H_paint_label (by decide) rfl (da_cons (de_c pe_str fun _ => .str _) (da_cons (de_val (pv 2)) da_nil))) (de_fn b.toBx H_scaled (by decide) rfl (da_cons (de_tup (da_cons (de_c pe_int fun _ => .int _) (da_cons (de_c pe_int fun _ => .int _) (da_cons (de_c pe_int fun _ => .int _) (da_cons (de_c pe_int fun _ => .int _) (da_cons (de_c pe_int fun _ => .int _) (da_cons (de_c pe_int fun _ => .int _) da_nil))))))) (da_cons (de_val (pv 2)) da_nil))) (nomark _))
 (ds_one (ds_ret (de_c pe_bl fun _ => .bl _)))
 ds_nil))))
 (ds_one (ds_ret (de_cmp (op_eqAll b.room.units) ok_eq (de_fn b.toBx H_paint_label (by decide) rfl (da_cons (de_c pe_str fun _ => .str _) (da_cons (de_tup (da_cons (de_c pe_int fun _ => .int _) (da_cons (de_c pe_int fun _ => .int _) da_nil))) da_nil))) (de_c (pe_glob (v := .ref _) rfl T.g_SAME rfl) T.c_SAME) (nomark _)))))

abbrev s_law : Stmt := top 32
theorem sc_law : FnScope n_law ["script"] (defScope s_law) := ⟨rfl, rfl, rfl, by decide +kernel, rfl, by decide +kernel, by decide +kernel⟩
theorem D_law {f : Addr} {fd : FuncData} (F : FunD K "law" "law" (defArgs s_law) (defBody s_law) (defScope s_law) [] [] f fd) (T : Tx K mg) (H__law_follow : Fn P w K mg base "_law_follow" 3 2 F__law_follow) (H__law_row : Fn P w K mg base "_law_row" 1 1 F__law_row) (H__law_raw_label : Fn P w K mg base "_law_raw_label" 3 2 F__law_raw_label) (H__law_raw_tone : Fn P w K mg base "_law_raw_tone" 3 2 F__law_raw_tone) (H__law_share : Fn P w K mg base "_law_share" 3 2 F__law_share) (H__law_reduce : Fn P w K mg base "_law_reduce" 2 1 F__law_reduce) (H_follow : Fn P w K mg base "follow" 2 2 F_follow) (H__law_next : Fn P w K mg base "_law_next" 1 2 F__law_next) (H__law_formed : Fn P w K mg base "_law_formed" 3 2 F__law_formed) (H__law_is : Fn P w K mg base "_law_is" 1 2 F__law_is) (H__law_paints : Fn P w K mg base "_law_paints" 4 2 F__law_paints) (H__law_alone : Fn P w K mg base "_law_alone" 4 3 F__law_alone) (H__law_two : Fn P w K mg base "_law_two" 4 3 F__law_two) : FnOk P w K mg base (L2.CX P w) 5 f fd ["script"] (spF K 1 F_law) := by
  refine fn_mkB (N := n_law) (n := 1) (k := 4) (g := b_law) F sc_law rfl (by decide) (fun cdv A outer s H E c W b => ?_)
  exact (ds_cons (ds_asgF (i := 1) sc_law.nd rfl (by first | exact Or.inl rfl | exact Or.inr rfl) (de_lstF (da_cons (de_fn b.toBx H__law_row (by decide) rfl (da_cons (de_val (pv 0)) da_nil)) (da_cons (de_c pe_int fun _ => .int _) da_nil))))
 (ds_cons (ds_asg (i := 2) sc_law.nd rfl (by first | exact Or.inl rfl | exact Or.inr rfl) (de_bltTy call_int1 ok_toInt rfl T.b_int (by decide +kernel) (da_cons (de_cmp (op_eqAll b.room.units) ok_eq (de_fn b.toBx H__law_next (by decide) rfl (da_cons (de_var (pv 1)) (da_cons (de_c pe_int fun _ => .int _) da_nil))) (de_c pe_int fun _ => .int _) (nomark _)) da_nil)))
 (ds_cons (ds_setLc (i := 3) (own := [("k", 4)]) b.calm sc_law.nd rfl rfl (sw_true rfl rfl rfl (by decide +kernel)) (di_range1 rfl T.b_range (da_cons (de_c pe_int fun _ => .int _) da_nil)) (blkOk_by (own := [("k", 4)]) (N := n_law) (sc := defScope s_law) (by decide +kernel)) (by decide) (fun _ _ _ _ _ => (dg_name (i := 4) sc_law.nd rfl (by first | exact Or.inl rfl | exact Or.inr rfl))) (fun _ _ _ _ _ => dts_nil) (fun _ _ _ _ _ => (de_fn (Bx.blk b.toBx) H__law_raw_label (by decide) rfl (da_cons (de_var (pv 1)) (da_cons (de_val (pv 2)) da_nil)))))
 (ds_cons (ds_setLc (i := 5) (own := [("k", 4)]) b.calm sc_law.nd rfl rfl (sw_true rfl rfl rfl (by decide +kernel)) (di_range1 rfl T.b_range (da_cons (de_c pe_int fun _ => .int _) da_nil)) (blkOk_by (own := [("k", 4)]) (N := n_law) (sc := defScope s_law) (by decide +kernel)) (by decide) (fun _ _ _ _ _ => (dg_name (i := 4) sc_law.nd rfl (by first | exact Or.inl rfl | exact Or.inr rfl))) (fun _ _ _ _ _ => dts_nil) (fun _ _ _ _ _ => (de_fn (Bx.blk b.toBx) H__law_raw_tone (by decide) rfl (da_cons (de_var (pv 1)) (da_cons (de_val (pv 2)) da_nil)))))
 (ds_cons (ds_setLc (i := 6) (own := [("k", 4)]) b.calm sc_law.nd rfl rfl (sw_true rfl rfl rfl (by decide +kernel)) (di_range1 rfl T.b_range (da_cons (de_c pe_int fun _ => .int _) da_nil)) (blkOk_by (own := [("k", 4)]) (N := n_law) (sc := defScope s_law) (by decide +kernel)) (by decide) (fun _ _ _ _ _ => (dg_name (i := 4) sc_law.nd rfl (by first | exact Or.inl rfl | exact Or.inr rfl))) (fun _ _ _ _ _ => dts_nil) (fun _ _ _ _ _ => (de_fn (Bx.blk b.toBx) H__law_share (by decide) rfl (da_cons (de_var (pv 1)) (da_cons (de_val (pv 2)) da_nil)))))
 (ds_cons (ds_for b.po b.calm (di_seq (de_bin op_addAll ok_add (de_var (pv 3)) (de_var (pv 5)))) (dg_name (i := 7) sc_law.nd rfl (by first | exact Or.inl rfl | exact Or.inr rfl))
 (ds_one (ds_if (dt_not (dt_tru (de_fn b.toBx H__law_formed (by decide) rfl (da_cons (de_var (pv 1)) (da_cons (de_val (pv 7)) da_nil)))))
 (ds_one (ds_ret (de_c pe_bl fun _ => .bl _)))
 ds_nil)))
 (ds_cons (ds_unp (de_frz (de_lc (own := [("raw", 10)]) b.calm sc_law.nd (di_seq (de_val (pv 3))) (blkOk_by (own := [("raw", 10)]) (N := n_law) (sc := defScope s_law) (by decide +kernel)) (by decide) (fun _ _ _ _ _ => (dg_name (i := 10) sc_law.nd rfl (by first | exact Or.inl rfl | exact Or.inr rfl))) (fun _ _ _ _ _ => dts_nil) (fun _ _ _ _ _ => (de_fn (Bx.blk b.toBx) H__law_reduce (by decide) rfl (da_cons (de_val (pv 10)) da_nil))))) (dg_tup b.calm (dgs_cons (dg_name (i := 7) sc_law.nd rfl (by first | exact Or.inl rfl | exact Or.inr rfl)) (dgs_cons (dg_name (i := 8) sc_law.nd rfl (by first | exact Or.inl rfl | exact Or.inr rfl)) (dgs_cons (dg_name (i := 9) sc_law.nd rfl (by first | exact Or.inl rfl | exact Or.inr rfl)) dgs_nil)))))
 (ds_cons (ds_asg (i := 5) sc_law.nd rfl (by first | exact Or.inl rfl | exact Or.inr rfl) (de_bin op_addAll ok_add (de_frz (de_lc (own := [("raw", 10)]) b.calm sc_law.nd (di_seq (de_val (pv 5))) (blkOk_by (own := [("raw", 10)]) (N := n_law) (sc := defScope s_law) (by decide +kernel)) (by decide) (fun _ _ _ _ _ => (dg_name (i := 10) sc_law.nd rfl (by first | exact Or.inl rfl | exact Or.inr rfl))) (fun _ _ _ _ _ => dts_nil) (fun _ _ _ _ _ => (de_fn (Bx.blk b.toBx) H__law_reduce (by decide) rfl (da_cons (de_val (pv 10)) da_nil))))) (de_frz (de_lstF (da_cons (de_tup (da_cons (de_c pe_int fun _ => .int _) (da_cons (de_c pe_int fun _ => .int _) (da_cons (de_c pe_int fun _ => .int _) (da_cons (de_c pe_int fun _ => .int _) da_nil))))) (da_cons (de_tup (da_cons (de_c pe_int fun _ => .int _) (da_cons (de_c pe_int fun _ => .int _) (da_cons (de_c pe_int fun _ => .int _) (da_cons (de_c pe_int fun _ => .int _) da_nil))))) da_nil))))))
 (ds_cons (ds_if (PW.pt (dw_or (dt_not (dt_tru (de_fn b.toBx H__law_is (by decide) rfl (da_cons (de_c (pe_glob (v := .ref _) rfl T.g_BLACK rfl) T.c_BLACK) (da_cons (de_tup (da_cons (de_c pe_int fun _ => .int _) (da_cons (de_c pe_int fun _ => .int _) (da_cons (de_c pe_int fun _ => .int _) (da_cons (de_c pe_int fun _ => .int _) da_nil))))) da_nil))))) (dw_or1 (dt_not (dt_tru (de_fn b.toBx H__law_is (by decide) rfl (da_cons (de_c (pe_glob (v := .ref _) rfl T.g_WHITE rfl) T.c_WHITE) (da_cons (de_tup (da_cons (de_c pe_int fun _ => .int _) (da_cons (de_c pe_int fun _ => .int _) (da_cons (de_c pe_int fun _ => .int _) (da_cons (de_c pe_int fun _ => .int _) da_nil))))) da_nil))))))))
 (ds_one (ds_ret (de_c pe_bl fun _ => .bl _)))
 ds_nil)
 (ds_cons (ds_if (PW.pt (dw_or (dt_not (dt_tru (de_fn b.toBx H__law_is (by decide) rfl (da_cons (de_c (pe_glob (v := .ref _) rfl T.g_SAME rfl) T.c_SAME) (da_cons (de_tup (da_cons (de_c pe_int fun _ => .int _) (da_cons (de_c pe_int fun _ => .int _) (da_cons (de_c pe_int fun _ => .int _) (da_cons (de_c pe_int fun _ => .int _) (da_cons (de_c pe_int fun _ => .int _) (da_cons (de_c pe_int fun _ => .int _) da_nil))))))) da_nil))))) (dw_or1 (dt_not (dt_tru (de_fn b.toBx H__law_paints (by decide) rfl (da_cons (de_bin op_addAll ok_add (de_frz (de_lstF (da_cons (de_c pe_str fun _ => .str _) da_nil))) (de_var (pv 5))) (da_cons (de_val (pv 6)) da_nil))))))))
 (ds_one (ds_ret (de_c pe_bl fun _ => .bl _)))
 ds_nil)
 (ds_cons (ds_for b.po b.calm (di_seq (de_frz (de_lstF (da_cons (de_val (pv 7)) (da_cons (de_val (pv 8)) (da_cons (de_val (pv 9)) (da_cons (de_c (pe_glob (v := .ref _) rfl T.g_SAME rfl) T.c_SAME) da_nil))))))) (dg_name (i := 11) sc_law.nd rfl (by first | exact Or.inl rfl | exact Or.inr rfl))
 (ds_cons (ds_if (dt_not (dt_tru (de_fn b.toBx H__law_alone (by decide) rfl (da_cons (de_val (pv 11)) (da_cons (de_val (pv 5)) (da_cons (de_val (pv 6)) da_nil))))))
 (ds_one (ds_ret (de_c pe_bl fun _ => .bl _)))
 ds_nil)
 (ds_one (ds_for b.po b.calm (di_seq (de_frz (de_lstF (da_cons (de_val (pv 7)) (da_cons (de_val (pv 8)) (da_cons (de_val (pv 9)) da_nil)))))) (dg_name (i := 12) sc_law.nd rfl (by first | exact Or.inl rfl | exact Or.inr rfl))
 (ds_one (ds_if (dt_not (dt_tru (de_fn b.toBx H__law_two (by decide) rfl (da_cons (de_val (pv 11)) (da_cons (de_val (pv 12)) (da_cons (de_val (pv 5)) da_nil))))))
 (ds_one (ds_ret (de_c pe_bl fun _ => .bl _)))
 ds_nil))))))
 (ds_cons (ds_asg (i := 13) sc_law.nd rfl (by first | exact Or.inl rfl | exact Or.inr rfl) (de_fn b.toBx H__law_follow (by decide) rfl (da_cons (de_fn b.toBx H__law_follow (by decide) rfl (da_cons (de_val (pv 7)) (da_cons (de_val (pv 8)) da_nil))) (da_cons (de_val (pv 9)) da_nil))))
 (ds_cons (ds_if (dt_cmp (op_neAll b.room.units) ok_ne (de_fn b.toBx H_follow (by decide) rfl (da_cons (de_fn b.toBx H_follow (by decide) rfl (da_cons (de_val (pv 7)) (da_cons (de_val (pv 8)) da_nil))) (da_cons (de_val (pv 9)) da_nil))) (de_var (pv 13)) (nomark _))
 (ds_one (ds_ret (de_c pe_bl fun _ => .bl _)))
 ds_nil)
 (ds_one (ds_ret (de_cmp (op_eqAll b.room.units) ok_eq (de_fn b.toBx H_follow (by decide) rfl (da_cons (de_val (pv 7)) (da_cons (de_fn b.toBx H_follow (by decide) rfl (da_cons (de_val (pv 8)) (da_cons (de_val (pv 9)) da_nil))) da_nil))) (de_var (pv 13)) (nomark _)))))))))))))))))

end
end K09
end

section
set_option maxRecDepth 100000
set_option maxHeartbeats 0
namespace K09
open PySem L2 DL
def d_tone : He.DefD := ⟨("tone", none), "tone", "tone", defArgs s_tone, defBody s_tone, defScope s_tone, [], []⟩
def d_label : He.DefD := ⟨("label", none), "label", "label", defArgs s_label, defBody s_label, defScope s_label, [], []⟩
def d_paint_label : He.DefD := ⟨("paint_label", none), "paint_label", "paint_label", defArgs s_paint_label, defBody s_paint_label, defScope s_paint_label, [], []⟩
def d_follow : He.DefD := ⟨("follow", none), "follow", "follow", defArgs s_follow, defBody s_follow, defScope s_follow, [], []⟩
def d_scaled : He.DefD := ⟨("scaled", none), "scaled", "scaled", defArgs s_scaled, defBody s_scaled, defScope s_scaled, [], []⟩
def d_coloured : He.DefD := ⟨("coloured", none), "coloured", "coloured", defArgs s_coloured, defBody s_coloured, defScope s_coloured, [], []⟩
def d_tone_on : He.DefD := ⟨("tone_on", none), "tone_on", "tone_on", defArgs s_tone_on, defBody s_tone_on, defScope s_tone_on, [], []⟩
def d__law_gcd : He.DefD := ⟨("_law_gcd", none), "_law_gcd", "_law_gcd", defArgs s__law_gcd, defBody s__law_gcd, defScope s__law_gcd, [], []⟩
def d__law_row : He.DefD := ⟨("_law_row", none), "_law_row", "_law_row", defArgs s__law_row, defBody s__law_row, defScope s__law_row, [], []⟩
def d__law_next : He.DefD := ⟨("_law_next", none), "_law_next", "_law_next", defArgs s__law_next, defBody s__law_next, defScope s__law_next, [], []⟩
def d__law_some : He.DefD := ⟨("_law_some", none), "_law_some", "_law_some", defArgs s__law_some, defBody s__law_some, defScope s__law_some, [], []⟩
def d__law_whole : He.DefD := ⟨("_law_whole", none), "_law_whole", "_law_whole", defArgs s__law_whole, defBody s__law_whole, defScope s__law_whole, [], []⟩
def d__law_reduce : He.DefD := ⟨("_law_reduce", none), "_law_reduce", "_law_reduce", defArgs s__law_reduce, defBody s__law_reduce, defScope s__law_reduce, [], []⟩
def d__law_raw_label : He.DefD := ⟨("_law_raw_label", none), "_law_raw_label", "_law_raw_label", defArgs s__law_raw_label, defBody s__law_raw_label, defScope s__law_raw_label, [], []⟩
def d__law_raw_tone : He.DefD := ⟨("_law_raw_tone", none), "_law_raw_tone", "_law_raw_tone", defArgs s__law_raw_tone, defBody s__law_raw_tone, defScope s__law_raw_tone, [], []⟩
def d__law_share : He.DefD := ⟨("_law_share", none), "_law_share", "_law_share", defArgs s__law_share, defBody s__law_share, defScope s__law_share, [], []⟩
def d__law_paint : He.DefD := ⟨("_law_paint", none), "_law_paint", "_law_paint", defArgs s__law_paint, defBody s__law_paint, defScope s__law_paint, [], []⟩
def d__law_follow : He.DefD := ⟨("_law_follow", none), "_law_follow", "_law_follow", defArgs s__law_follow, defBody s__law_follow, defScope s__law_follow, [], []⟩
def d__law_scaled : He.DefD := ⟨("_law_scaled", none), "_law_scaled", "_law_scaled", defArgs s__law_scaled, defBody s__law_scaled, defScope s__law_scaled, [], []⟩
def d__law_coloured : He.DefD := ⟨("_law_coloured", none), "_law_coloured", "_law_coloured", defArgs s__law_coloured, defBody s__law_coloured, defScope s__law_coloured, [], []⟩
def d__law_on : He.DefD := ⟨("_law_on", none), "_law_on", "_law_on", defArgs s__law_on, defBody s__law_on, defScope s__law_on, [], []⟩
def d__law_is : He.DefD := ⟨("_law_is", none), "_law_is", "_law_is", defArgs s__law_is, defBody s__law_is, defScope s__law_is, [], []⟩
def d__law_formed : He.DefD := ⟨("_law_formed", none), "_law_formed", "_law_formed", defArgs s__law_formed, defBody s__law_formed, defScope s__law_formed, [], []⟩
def d__law_alone : He.DefD := ⟨("_law_alone", none), "_law_alone", "_law_alone", defArgs s__law_alone, defBody s__law_alone, defScope s__law_alone, [], []⟩
def d__law_two : He.DefD := ⟨("_law_two", none), "_law_two", "_law_two", defArgs s__law_two, defBody s__law_two, defScope s__law_two, [], []⟩
def d__law_paints : He.DefD := ⟨("_law_paints", none), "_law_paints", "_law_paints", defArgs s__law_paints, defBody s__law_paints, defScope s__law_paints, [], []⟩
def d_law : He.DefD := ⟨("law", none), "law", "law", defArgs s_law, defBody s_law, defScope s_law, [], []⟩
def fnl : List He.DefD := [d_tone, d_label, d_paint_label, d_follow, d_scaled, d_coloured, d_tone_on, d__law_gcd, d__law_row, d__law_next, d__law_some, d__law_whole, d__law_reduce, d__law_raw_label, d__law_raw_tone, d__law_share, d__law_paint, d__law_follow, d__law_scaled, d__law_coloured, d__law_on, d__law_is, d__law_formed, d__law_alone, d__law_two, d__law_paints, d_law]
def fal : List He.Fa := [.glo "tone", .glo "label", .glo "paint_label", .glo "follow", .glo "scaled", .glo "coloured", .glo "tone_on", .glo "_law_gcd", .glo "_law_row", .glo "_law_next", .glo "_law_some", .glo "_law_whole", .glo "_law_reduce", .glo "_law_raw_label", .glo "_law_raw_tone", .glo "_law_share", .glo "_law_paint", .glo "_law_follow", .glo "_law_scaled", .glo "_law_coloured", .glo "_law_on", .glo "_law_is", .glo "_law_formed", .glo "_law_alone", .glo "_law_two", .glo "_law_paints", .glo "law", .free "abs", .free "bool", .free "int", .free "isinstance", .free "len", .free "range", .free "tuple", .glo "BLACK", .glo "SAME", .glo "WHITE"]
def exl : List (PySem.W.Frag → Bool) := [bltB "gcd" "math.gcd", cstB "BLACK" c_BLACK, cstB "SAME" c_SAME, cstB "WHITE" c_WHITE]
abbrev R : PySem.W.OpenRow := PySem.W.OpenLaw.row PySem.Challenge.rw_printstacks_k09_labels_one_behind_anothe
abbrev hk : PySem.W.Hook := hookX 4 fal fnl exl
def ob (s : PySem.W.SharedT) : He.AlD := obsXG 4 fal fnl exl (HandSHeadRun.getT s)
theorem ob_eq (s : PySem.W.SharedT) : ob s = hk.obs s.abs := obsXG_eq (HandSHeadRun.getT_eq s)
def loose0 : List PySem.Str := ["BLACK", "WHITE", "SAME", "tone", "label", "paint_label", "follow", "scaled", "coloured", "tone_on", "_law_gcd", "_law_row", "_law_next", "_law_some", "_law_whole", "_law_reduce", "_law_raw_label", "_law_raw_tone", "_law_share", "_law_paint", "_law_follow", "_law_scaled", "_law_coloured", "_law_on", "_law_is", "_law_formed", "_law_alone", "_law_two", "_law_paints"]
abbrev loose : List PySem.Str := loose0
theorem run (w : World) : HandSHeadRun.RunEqI R (PySem.W.view R.prog [0, 32]) hk ob 20000 loose w := by
  unfold HandSHeadRun.RunEqI
  kernel_rfl
section
variable {P : Program} {w : World} {K : PySem.W.Frag} {h : Heap} {mg : Str → Option Value}
theorem tx (X : K.In h) (G : h.Ns mainGlobals mg) (c : SaysX fal fnl exl K) : Tx K mg where
  b_abs := He.free_ok X G (c.toD.fact 27 (f := .free "abs") rfl)
  b_bool := He.free_ok X G (c.toD.fact 28 (f := .free "bool") rfl)
  b_int := He.free_ok X G (c.toD.fact 29 (f := .free "int") rfl)
  b_isinstance := He.free_ok X G (c.toD.fact 30 (f := .free "isinstance") rfl)
  b_len := He.free_ok X G (c.toD.fact 31 (f := .free "len") rfl)
  b_range := He.free_ok X G (c.toD.fact 32 (f := .free "range") rfl)
  b_tuple := He.free_ok X G (c.toD.fact 33 (f := .free "tuple") rfl)
  i_gcd := bltB_ok X G (c.ext 0 (f := bltB "gcd" "math.gcd") rfl)
  g_BLACK := He.glo_ok X G (c.toD.fact 34 (f := .glo "BLACK") rfl)
  c_BLACK := shB_ref (c.ext 1 (f := cstB "BLACK" c_BLACK) rfl)
  g_SAME := He.glo_ok X G (c.toD.fact 35 (f := .glo "SAME") rfl)
  c_SAME := shB_ref (c.ext 2 (f := cstB "SAME" c_SAME) rfl)
  g_WHITE := He.glo_ok X G (c.toD.fact 36 (f := .glo "WHITE") rfl)
  c_WHITE := shB_ref (c.ext 3 (f := cstB "WHITE" c_WHITE) rfl)
theorem law_fn (X : K.In h) (G : h.Ns mainGlobals mg) (c : SaysX fal fnl exl K) : ∃ (fd : FuncData), (∀ (s : Shared) (u : Value), BindsTo s fd ⟨[u], []⟩ [("script", u)]) ∧ ∀ base : Heap, FnOk P w K mg base (L2.CX P w) 5 (He.fAd K ("law", none)) fd ["script"] (spF K 1 F_law) := by
  have T := tx X G c
  obtain ⟨f_tone, G_tone⟩ := c.toD.def_ 0 (d := d_tone) rfl
  have H_tone : ∀ base, Fn P w K mg base "tone" 1 4 F_tone := fun base => D_tone G_tone (He.glo_ok X G (c.toD.fact 0 (f := .glo "tone") rfl)) T
  obtain ⟨f_label, G_label⟩ := c.toD.def_ 1 (d := d_label) rfl
  have H_label : ∀ base, Fn P w K mg base "label" 1 6 F_label := fun base => D_label G_label (He.glo_ok X G (c.toD.fact 1 (f := .glo "label") rfl)) T
  obtain ⟨f_paint_label, G_paint_label⟩ := c.toD.def_ 2 (d := d_paint_label) rfl
  have H_paint_label : ∀ base, Fn P w K mg base "paint_label" 2 2 F_paint_label := fun base => D_paint_label G_paint_label (He.glo_ok X G (c.toD.fact 2 (f := .glo "paint_label") rfl)) T (H_label base)
  obtain ⟨f_follow, G_follow⟩ := c.toD.def_ 3 (d := d_follow) rfl
  have H_follow : ∀ base, Fn P w K mg base "follow" 2 2 F_follow := fun base => D_follow G_follow (He.glo_ok X G (c.toD.fact 3 (f := .glo "follow") rfl)) T (H_label base)
  obtain ⟨f_scaled, G_scaled⟩ := c.toD.def_ 4 (d := d_scaled) rfl
  have H_scaled : ∀ base, Fn P w K mg base "scaled" 2 2 F_scaled := fun base => D_scaled G_scaled (He.glo_ok X G (c.toD.fact 4 (f := .glo "scaled") rfl)) T (H_label base)
  obtain ⟨f_coloured, G_coloured⟩ := c.toD.def_ 5 (d := d_coloured) rfl
  have H_coloured : ∀ base, Fn P w K mg base "coloured" 2 2 F_coloured := fun base => D_coloured G_coloured (He.glo_ok X G (c.toD.fact 5 (f := .glo "coloured") rfl)) T (H_label base)
  obtain ⟨f_tone_on, G_tone_on⟩ := c.toD.def_ 6 (d := d_tone_on) rfl
  have H_tone_on : ∀ base, Fn P w K mg base "tone_on" 2 3 F_tone_on := fun base => D_tone_on G_tone_on (He.glo_ok X G (c.toD.fact 6 (f := .glo "tone_on") rfl)) T (H_tone base)
  obtain ⟨f__law_gcd, G__law_gcd⟩ := c.toD.def_ 7 (d := d__law_gcd) rfl
  have H__law_gcd : ∀ base, Fn P w K mg base "_law_gcd" 1 2 F__law_gcd := fun base => D__law_gcd G__law_gcd (He.glo_ok X G (c.toD.fact 7 (f := .glo "_law_gcd") rfl)) T
  obtain ⟨f__law_row, G__law_row⟩ := c.toD.def_ 8 (d := d__law_row) rfl
  have H__law_row : ∀ base, Fn P w K mg base "_law_row" 1 1 F__law_row := fun base => D__law_row G__law_row (He.glo_ok X G (c.toD.fact 8 (f := .glo "_law_row") rfl)) T
  obtain ⟨f__law_next, G__law_next⟩ := c.toD.def_ 9 (d := d__law_next) rfl
  have H__law_next : ∀ base, Fn P w K mg base "_law_next" 1 2 F__law_next := fun base => D__law_next G__law_next (He.glo_ok X G (c.toD.fact 9 (f := .glo "_law_next") rfl)) T
  obtain ⟨f__law_some, G__law_some⟩ := c.toD.def_ 10 (d := d__law_some) rfl
  have H__law_some : ∀ base, Fn P w K mg base "_law_some" 2 2 F__law_some := fun base => D__law_some G__law_some (He.glo_ok X G (c.toD.fact 10 (f := .glo "_law_some") rfl)) T (H__law_next base)
  obtain ⟨f__law_whole, G__law_whole⟩ := c.toD.def_ 11 (d := d__law_whole) rfl
  have H__law_whole : ∀ base, Fn P w K mg base "_law_whole" 2 2 F__law_whole := fun base => D__law_whole G__law_whole (He.glo_ok X G (c.toD.fact 11 (f := .glo "_law_whole") rfl)) T (H__law_next base)
  obtain ⟨f__law_reduce, G__law_reduce⟩ := c.toD.def_ 12 (d := d__law_reduce) rfl
  have H__law_reduce : ∀ base, Fn P w K mg base "_law_reduce" 2 1 F__law_reduce := fun base => D__law_reduce G__law_reduce (He.glo_ok X G (c.toD.fact 12 (f := .glo "_law_reduce") rfl)) T (H__law_gcd base)
  obtain ⟨f__law_raw_label, G__law_raw_label⟩ := c.toD.def_ 13 (d := d__law_raw_label) rfl
  have H__law_raw_label : ∀ base, Fn P w K mg base "_law_raw_label" 3 2 F__law_raw_label := fun base => D__law_raw_label G__law_raw_label (He.glo_ok X G (c.toD.fact 13 (f := .glo "_law_raw_label") rfl)) T (H__law_whole base) (H__law_some base)
  obtain ⟨f__law_raw_tone, G__law_raw_tone⟩ := c.toD.def_ 14 (d := d__law_raw_tone) rfl
  have H__law_raw_tone : ∀ base, Fn P w K mg base "_law_raw_tone" 3 2 F__law_raw_tone := fun base => D__law_raw_tone G__law_raw_tone (He.glo_ok X G (c.toD.fact 14 (f := .glo "_law_raw_tone") rfl)) T (H__law_whole base) (H__law_some base)
  obtain ⟨f__law_share, G__law_share⟩ := c.toD.def_ 15 (d := d__law_share) rfl
  have H__law_share : ∀ base, Fn P w K mg base "_law_share" 3 2 F__law_share := fun base => D__law_share G__law_share (He.glo_ok X G (c.toD.fact 15 (f := .glo "_law_share") rfl)) T (H__law_whole base) (H__law_some base) (H__law_gcd base)
  obtain ⟨f__law_paint, G__law_paint⟩ := c.toD.def_ 16 (d := d__law_paint) rfl
  have H__law_paint : ∀ base, Fn P w K mg base "_law_paint" 3 2 F__law_paint := fun base => D__law_paint G__law_paint (He.glo_ok X G (c.toD.fact 16 (f := .glo "_law_paint") rfl)) T (H__law_reduce base)
  obtain ⟨f__law_follow, G__law_follow⟩ := c.toD.def_ 17 (d := d__law_follow) rfl
  have H__law_follow : ∀ base, Fn P w K mg base "_law_follow" 3 2 F__law_follow := fun base => D__law_follow G__law_follow (He.glo_ok X G (c.toD.fact 17 (f := .glo "_law_follow") rfl)) T (H__law_reduce base)
  obtain ⟨f__law_scaled, G__law_scaled⟩ := c.toD.def_ 18 (d := d__law_scaled) rfl
  have H__law_scaled : ∀ base, Fn P w K mg base "_law_scaled" 3 2 F__law_scaled := fun base => D__law_scaled G__law_scaled (He.glo_ok X G (c.toD.fact 18 (f := .glo "_law_scaled") rfl)) T (H__law_reduce base)
  obtain ⟨f__law_coloured, G__law_coloured⟩ := c.toD.def_ 19 (d := d__law_coloured) rfl
  have H__law_coloured : ∀ base, Fn P w K mg base "_law_coloured" 3 2 F__law_coloured := fun base => D__law_coloured G__law_coloured (He.glo_ok X G (c.toD.fact 19 (f := .glo "_law_coloured") rfl)) T (H__law_reduce base)
  obtain ⟨f__law_on, G__law_on⟩ := c.toD.def_ 20 (d := d__law_on) rfl
  have H__law_on : ∀ base, Fn P w K mg base "_law_on" 3 3 F__law_on := fun base => D__law_on G__law_on (He.glo_ok X G (c.toD.fact 20 (f := .glo "_law_on") rfl)) T (H__law_reduce base)
  obtain ⟨f__law_is, G__law_is⟩ := c.toD.def_ 21 (d := d__law_is) rfl
  have H__law_is : ∀ base, Fn P w K mg base "_law_is" 1 2 F__law_is := fun base => D__law_is G__law_is (He.glo_ok X G (c.toD.fact 21 (f := .glo "_law_is") rfl)) T
  obtain ⟨f__law_formed, G__law_formed⟩ := c.toD.def_ 22 (d := d__law_formed) rfl
  have H__law_formed : ∀ base, Fn P w K mg base "_law_formed" 3 2 F__law_formed := fun base => D__law_formed G__law_formed (He.glo_ok X G (c.toD.fact 22 (f := .glo "_law_formed") rfl)) T (H__law_reduce base) (H__law_is base) (H__law_next base) (H_label base) (H_tone base)
  obtain ⟨f__law_alone, G__law_alone⟩ := c.toD.def_ 23 (d := d__law_alone) rfl
  have H__law_alone : ∀ base, Fn P w K mg base "_law_alone" 4 3 F__law_alone := fun base => D__law_alone G__law_alone (He.glo_ok X G (c.toD.fact 23 (f := .glo "_law_alone") rfl)) T (H_coloured base) (H_follow base) (H__law_is base) (H__law_coloured base) (H_scaled base) (H__law_scaled base) (H_tone_on base) (H__law_on base)
  obtain ⟨f__law_two, G__law_two⟩ := c.toD.def_ 24 (d := d__law_two) rfl
  have H__law_two : ∀ base, Fn P w K mg base "_law_two" 4 3 F__law_two := fun base => D__law_two G__law_two (He.glo_ok X G (c.toD.fact 24 (f := .glo "_law_two") rfl)) T (H_follow base) (H__law_is base) (H__law_on base) (H__law_follow base) (H_tone_on base)
  obtain ⟨f__law_paints, G__law_paints⟩ := c.toD.def_ 25 (d := d__law_paints) rfl
  have H__law_paints : ∀ base, Fn P w K mg base "_law_paints" 4 2 F__law_paints := fun base => D__law_paints G__law_paints (He.glo_ok X G (c.toD.fact 25 (f := .glo "_law_paints") rfl)) T (H_paint_label base) (H_scaled base) (H__law_is base) (H__law_paint base)
  obtain ⟨fd, F⟩ := c.toD.def_ 26 (d := d_law) rfl
  have b := FunD.bindsA (ps := ["script"]) F fun _ _ _ _ _ _ us hl => match us, hl with | [_], _ => rfl
  exact ⟨fd, fun s v => b s [v] rfl, fun base => D_law F T (H__law_follow base) (H__law_row base) (H__law_raw_label base) (H__law_raw_tone base) (H__law_share base) (H__law_reduce base) (H_follow base) (H__law_next base) (H__law_formed base) (H__law_is base) (H__law_paints base) (H__law_alone base) (H__law_two base)⟩
end
end K09
open PySem PySem.W PySem.Calls PyProof.Rows DL
theorem K09.hold (plain : ∀ ns : List Int, ns.length ≤ 63 → ∃ outs, K09.F_law [.klst (ns.map D.int)] = .ok (.bl true) outs) : PySem.Challenge.rw_printstacks_k09_labels_one_behind_anothe.Holds := by
  w_on; o_law
  refine HandSHeadRun.head_imp (r := OpenLaw.row PySem.Challenge.rw_printstacks_k09_labels_one_behind_anothe) (q := view (OpenLaw.row PySem.Challenge.rw_printstacks_k09_labels_one_behind_anothe).prog [0, 32]) (H := K09.hk) (ob := K09.ob) (M := 20000) (loose := K09.loose) (d := HandSHeadRun.topDef (OpenLaw.row PySem.Challenge.rw_printstacks_k09_labels_one_behind_anothe).prog 32) (kwd := []) K09.ob_eq
    K09.run (by kernel_rfl) (by kernel_rfl) (by kernel_rfl) (by rfl) (by first | assumption | decide +kernel) (by decide +kernel) ⟨rfl, rfl, rfl, rfl, rfl, by decide +kernel⟩ ?hw ?hc
  case hw => w_witness2
  case hc =>
    refine walk_ofW (l := PySem.Challenge.rw_printstacks_k09_labels_one_behind_anothe) (n := 63) (k := 5) (x := "script") (F := K09.F_law) rfl (by decide) (by kernel_rfl) ⟨rfl, by decide, by decide⟩ plain fun w mg fa h Y G hmg0 => ?_
    obtain ⟨K, KX, c⟩ := Y
    have hmg : mg ("law" : PySem.Str) = some (.ref fa) := by
      have e : (HandSHeadRun.topDef (OpenLaw.row PySem.Challenge.rw_printstacks_k09_labels_one_behind_anothe).prog 32).name = ("law" : PySem.Str) := by kernel_rfl
      rw [← e]
      exact hmg0
    have e := hmg.symm.trans (He.glo_ok KX G (c.toD.fact 26 (f := .glo "law") rfl))
    cases e
    obtain ⟨fd, b, F⟩ := K09.law_fn (P := (PySem.Challenge.rw_printstacks_k09_labels_one_behind_anothe).prog) (w := w) KX G c
    exact ⟨K, fd, KX, b, F⟩
end

section
set_option maxRecDepth 100000
set_option maxHeartbeats 2000000
namespace DL
open PySem

/-! ### what a run gives, told from behind -/
structure Hd {γ : Type} (Q : γ) : Type where
def Wp {α : Type} (r : Rs α) (Q : α → Env → Prop) (_ : Hd Q := ⟨⟩) : Prop := match r with
  | .ok a e => Q a e
  | _ => False
theorem Wp.ext {α : Type} {r : Rs α} {P Q : α → Env → Prop} (h : ∀ a e, P a e = Q a e) : Wp r P = Wp r Q := by
  have : P = Q := funext fun a => funext fun e => h a e
  subst this
  rfl
/-- an option that is there -/
def Op {α : Type} (o : Option α) (P : α → Prop) (_ : Hd P := ⟨⟩) : Prop := match o with
  | some a => P a
  | none => False
@[simp] theorem op_some {α : Type} {a : α} {P : α → Prop} : Op (some a) P = P a := rfl
@[simp] theorem op_none {α : Type} {P : α → Prop} : Op none P = False := rfl
@[simp] theorem op_bind {α β : Type} {o : Option α} {f : α → Option β} {P : β → Prop} : Op (o.bind f) P = Op o fun a => Op (f a) P := by cases o <;> rfl
@[simp] theorem op_ifn {α : Type} {c : Prop} [Decidable c] {a : Option α} {P : α → Prop} : Op (if c then a else none) P = (c ∧ Op a P) := by
  by_cases h : c <;> simp [h]
theorem op_if {α : Type} {c : Prop} [Decidable c] {a b : Option α} {P : α → Prop} : Op (if c then a else b) P = ((c → Op a P) ∧ (¬c → Op b P)) := by
  by_cases h : c <;> simp [h]
theorem Wp.imp {α : Type} {r : Rs α} {P Q : α → Env → Prop} (h : Wp r P) (k : ∀ a e, P a e → Q a e) : Wp r Q := by
  cases r with
  | ok a e => exact k a e h
  | _ => exact h
theorem Wp.get {α : Type} {r : Rs α} {P : α → Env → Prop} (h : Wp r P) : ∃ a e, r = .ok a e ∧ P a e := by
  cases r with
  | ok a e => exact ⟨a, e, rfl, h⟩
  | _ => exact h.elim
theorem Wp.and {α : Type} {r : Rs α} {P Q : α → Env → Prop} (h : Wp r P) (k : Wp r Q) : Wp r fun a e => P a e ∧ Q a e := by
  cases r with
  | ok a e => exact ⟨h, k⟩
  | _ => exact h
section
variable {α β : Type} {Q : α → Env → Prop} {e : Env}
@[simp] theorem wp_ok {a : α} : Wp (.ok a e) Q = Q a e := rfl
@[simp] theorem wp_mret {a : α} : Wp (mret a e) Q = Q a e := rfl
@[simp] theorem wp_bind {r : Rs β} {g : β → M α} : Wp (r.bind g) Q = Wp r fun b e' => Wp (g b e') Q := by cases r <;> rfl
@[simp] theorem wp_mbind {f : M β} {g : β → M α} : Wp (mbind f g e) Q = Wp (f e) fun b e' => Wp (g b e') Q := by
  unfold mbind
  cases f e <;> rfl
@[simp] theorem wp_some {a : α} : Wp (mopt (some a) e) Q = Q a e := rfl
@[simp] theorem wp_iteM {c : Prop} [Decidable c] {a b : M α} : Wp ((if c then a else b) e) Q = ((c → Wp (a e) Q) ∧ (¬c → Wp (b e) Q)) := by
  by_cases h : c <;> simp [h]
@[simp] theorem wp_ite {c : Prop} [Decidable c] {a b : Rs α} : Wp (if c then a else b) Q = ((c → Wp a Q) ∧ (¬c → Wp b Q)) := by
  by_cases h : c <;> simp [h]
@[simp] theorem wp_no : Wp (.no : Rs α) Q = False := rfl
end
section
variable {Q : D → Env → Prop} {QF : Fl → Env → Prop} {QL : List D → Env → Prop} {QB : Bool → Env → Prop} {e : Env}
/-- a slot's value as a name gives it -/
def seeD (i : Nat) : D → D
  | .own _ => .al i
  | .bor _ => .al i
  | d => d
@[simp] theorem see_own {i xs} : seeD i (.own xs) = .al i := rfl
@[simp] theorem see_bor {i xs} : seeD i (.bor xs) = .al i := rfl
@[simp] theorem see_int {i n} : seeD i (.int n) = .int n := rfl
@[simp] theorem see_bl {i n} : seeD i (.bl n) = .bl n := rfl
@[simp] theorem see_str {i n} : seeD i (.str n) = .str n := rfl
@[simp] theorem see_tup {i n} : seeD i (.tup n) = .tup n := rfl
@[simp] theorem see_lst {i n} : seeD i (.lst n) = .lst n := rfl
@[simp] theorem see_klst {i n} : seeD i (.klst n) = .klst n := rfl
@[simp] theorem see_non {i} : seeD i .non = .non := rfl
theorem see_al {i j} : seeD i (.al j) = .al j := rfl
@[simp] theorem wp_var {i : Nat} : Wp (eVar i e) Q = (match e[i]? with | some (some d) => Q (seeD i d) e | _ => False) := by
  unfold eVar
  cases h : e[i]? with
  | none => rfl
  | some o => cases o with
    | none => rfl
    | some d => cases d <;> rfl
/-- of a slot that is no list of one's own -/
@[simp] theorem wp_val_at {i : Nat} : Wp (eVal i e) Q = (match e[i]? with
    | some (some (.own xs)) => (xs.all isSh) = true ∧ Q (.lst xs) (e.set i (some (.lst xs)))
    | some (some (.bor _)) => False
    | some (some (.al _)) => False
    | some (some d) => Q d e
    | _ => False) := by
  unfold eVal
  cases h : e[i]? with
  | none => rfl
  | some o => cases o with
    | none => rfl
    | some d => cases d with
      | own xs =>
        by_cases q : (xs.all isSh) = true
        · simp only [q, if_true]; simp
        · simp only [q]; simp
      | _ => rfl
@[simp] theorem wp_C {d : D} : Wp (eC d e) Q = Q d e := rfl
@[simp] theorem wp_bin {op : D → D → Option D} {fa fb : M D} : Wp (eBin op fa fb e) Q = Wp (fa e) fun x e1 => Wp (fb e1) fun y e2 => Wp (mopt (op (rs e2 x) (rs e2 y)) e2) Q := by
  unfold eBin
  rw [wp_mbind]
  refine Wp.ext fun x e1 => ?_
  rw [wp_mbind]
@[simp] theorem wp_blt {op : List D → Option D} {fs : M (List D)} : Wp (eBlt op fs e) Q = Wp (fs e) fun ds e1 => Wp (mopt (op (ds.map (rs e1))) e1) Q := by
  unfold eBlt
  rw [wp_mbind]
@[simp] theorem wp_nil : Wp (aNil e) QL = QL [] e := rfl
@[simp] theorem wp_cons {f : M D} {g : M (List D)} : Wp (aCons f g e) QL = Wp (f e) fun d e1 => Wp (g e1) fun ds e2 => QL (d :: ds) e2 := by
  unfold aCons
  rw [wp_mbind]
  refine Wp.ext fun x e1 => ?_
  rw [wp_mbind]
  rfl
@[simp] theorem wp_tOf {f : M D} : Wp (tOf f e) QB = Wp (f e) fun d e1 => Wp (mopt (bOf d) e1) QB := by
  unfold tOf
  rw [wp_mbind]
@[simp] theorem wp_tTru {f : M D} : Wp (tTruD f e) QB = Wp (f e) fun d e1 => Wp (mopt (dTru (rs e1 d)) e1) QB := by
  unfold tTruD
  rw [wp_mbind]
@[simp] theorem wp_tNot {f : M Bool} : Wp (tNotD f e) QB = Wp (f e) fun k e1 => QB (!k) e1 := by
  unfold tNotD
  rw [wp_mbind]
  rfl
@[simp] theorem wp_tAnd {f g : M Bool} : Wp (tAndD f g e) QB = Wp (f e) fun k e1 => (k = true → Wp (g e1) QB) ∧ (¬k = true → QB false e1) := by
  unfold tAndD
  rw [wp_mbind]
  refine Wp.ext fun k e1 => ?_
  rw [wp_iteM]
  rfl
@[simp] theorem wp_tOr {f g : M Bool} : Wp (tOrD f g e) QB = Wp (f e) fun k e1 => (k = true → QB true e1) ∧ (¬k = true → Wp (g e1) QB) := by
  unfold tOrD
  rw [wp_mbind]
  refine Wp.ext fun k e1 => ?_
  rw [wp_iteM]
  rfl
@[simp] theorem wp_eIf {t : M Bool} {a b : M D} : Wp (eIf t a b e) Q = Wp (t e) fun k e1 => (k = true → Wp (a e1) Q) ∧ (¬k = true → Wp (b e1) Q) := by
  unfold eIf
  rw [wp_mbind]
  refine Wp.ext fun k e1 => ?_
  rw [wp_iteM]
@[simp] theorem wp_tYes : Wp (tYesD e) QB = QB true e := rfl
/-! statements -/
@[simp] theorem wp_next : Wp (sNext e) QF = QF .nx e := rfl
@[simp] theorem wp_pass : Wp (sPass e) QF = QF .nx e := rfl
@[simp] theorem wp_break : Wp (sBreak e) QF = QF .bk e := rfl
@[simp] theorem wp_cont : Wp (sCont e) QF = QF .ct e := rfl
@[simp] theorem wp_retN : Wp (sRetN e) QF = QF (.rt .non) e := rfl
/-- what follows a statement -/
def thn (b : M Fl) (Q : Fl → Env → Prop) : Fl → Env → Prop
  | .nx, e => Wp (b e) Q
  | f, e => Q f e
@[simp] theorem thn_nx {b : M Fl} : thn b QF .nx e = Wp (b e) QF := rfl
@[simp] theorem thn_bk {b : M Fl} : thn b QF .bk e = QF .bk e := rfl
@[simp] theorem thn_ct {b : M Fl} : thn b QF .ct e = QF .ct e := rfl
@[simp] theorem thn_rt {b : M Fl} {d : D} : thn b QF (.rt d) e = QF (.rt d) e := rfl
@[simp] theorem wp_seq {a b : M Fl} : Wp (sSeq a b e) QF = Wp (a e) (thn b QF) := by
  unfold sSeq
  cases a e with
  | ok f e1 => cases f <;> rfl
  | _ => rfl
@[simp] theorem wp_ret {f : M D} : Wp (sRet f e) QF = Wp (f e) fun d e1 => isSh d = true ∧ QF (.rt d) e1 := by
  unfold sRet
  rw [wp_mbind]
  refine Wp.ext fun d e1 => ?_
  rw [wp_iteM]
  by_cases h : isSh d = true <;> simp [h]
@[simp] theorem wp_if {t : M Bool} {a b : M Fl} : Wp (sIf t a b e) QF = Wp (t e) fun k e1 => (k = true → Wp (a e1) QF) ∧ (¬k = true → Wp (b e1) QF) := by
  unfold sIf
  rw [wp_mbind]
  refine Wp.ext fun k e1 => ?_
  rw [wp_iteM]
@[simp] theorem wp_asg {i : Nat} {f : M D} : Wp (sAsg i f e) QF = Wp (f e) fun d e1 => isSh d = true ∧ QF .nx (e1.set i (some d)) := by
  unfold sAsg
  rw [wp_mbind]
  refine Wp.ext fun d e1 => ?_
  rw [wp_iteM]
  by_cases h : isSh d = true <;> simp [h]
@[simp] theorem wp_asgF {i : Nat} {f : M (List D)} : Wp (sAsgF i f e) QF = Wp (f e) fun ds e1 => QF .nx (e1.set i (some (.own ds))) := by
  unfold sAsgF
  rw [wp_mbind]
  rfl
@[simp] theorem wp_drop {f : M D} : Wp (sDrop f e) QF = Wp (f e) fun _ e1 => QF .nx e1 := by
  unfold sDrop
  rw [wp_mbind]
  rfl
@[simp] theorem wp_eTup {fs : M (List D)} : Wp (eTup fs e) Q = Wp (fs e) fun ds e1 => ((ds.all isSh) = true ∧ ds.length ≤ 1000000) ∧ Q (.tup ds) e1 := by
  unfold eTup
  rw [wp_mbind]
  refine Wp.ext fun ds e1 => ?_
  rw [wp_iteM]
  by_cases h : (ds.all isSh) = true ∧ ds.length ≤ 1000000
  · simp only [h]; simp
  · simp only [h]; simp
@[simp] theorem wp_lstF {fs : M (List D)} : Wp (eLstF fs e) QL = Wp (fs e) fun ds e1 => ((ds.all isSh) = true ∧ ds.length ≤ 1000000) ∧ QL ds e1 := by
  unfold eLstF
  rw [wp_mbind]
  refine Wp.ext fun ds e1 => ?_
  rw [wp_iteM]
  by_cases h : (ds.all isSh) = true ∧ ds.length ≤ 1000000
  · simp only [h]; simp
  · simp only [h]; simp
@[simp] theorem wp_frz {f : M (List D)} : Wp (eFrz f e) Q = Wp (f e) fun ds e1 => Q (.lst ds) e1 := by
  unfold eFrz
  rw [wp_mbind]
  rfl
@[simp] theorem wp_iter {f : M D} : Wp (eIter f e) QL = Wp (f e) fun d e1 => Wp (mopt (seqSh d) e1) QL := by
  unfold eIter
  rw [wp_mbind]
@[simp] theorem wp_range {fs : M (List D)} : Wp (eRange fs e) QL = Wp (fs e) fun ds e1 => Wp (mopt (rgOf ds) e1) QL := by
  unfold eRange
  rw [wp_mbind]
@[simp] theorem wp_range2 {fs : M (List D)} : Wp (eRange2 fs e) QL = Wp (fs e) fun ds e1 => Wp (mopt (rgOf2 ds) e1) QL := by
  unfold eRange2
  rw [wp_mbind]
@[simp] theorem wp_slice {f : M D} {lo hi : M (Option Int)} : Wp (eSlice f lo hi e) Q = Wp (f e) fun x e1 => Wp (lo e1) fun l e2 => Wp (hi e2) fun h e3 => Wp (mopt (dSlice (rs e3 x) l h) e3) Q := by
  unfold eSlice
  rw [wp_mbind]
  refine Wp.ext fun x e1 => ?_
  rw [wp_mbind]
  refine Wp.ext fun l e2 => ?_
  rw [wp_mbind]
@[simp] theorem wp_noPart {QO : Option Int → Env → Prop} : Wp (eNoPart e) QO = QO none e := rfl
@[simp] theorem wp_part {QO : Option Int → Env → Prop} {f : M D} : Wp (ePart f e) QO = Wp (f e) fun d e1 => Wp (mopt (iOf d) e1) QO := by
  unfold ePart
  rw [wp_mbind]
@[simp] theorem wp_sFor {it : M (List D)} {t : TgF} {b : M Fl} : Wp (sFor it t b e) QF = Wp (it e) fun ds e1 => Wp (forL t b ds e1) QF := by
  unfold sFor
  rw [wp_mbind]
@[simp] theorem wp_comp {it : M (List D)} {vs : List Nat} {t : TgF} {ft : M Bool} {fe : M D} : Wp (eComp it vs t ft fe e) QL = Wp (it e) fun ds e1 => Wp (compL vs t ft fe ds [] (eWipe e1 vs)) QL := by
  unfold eComp
  rw [wp_mbind]
@[simp] theorem wp_unp {t : TgF} {f : M D} : Wp (sUnp t f e) QF = Wp (f e) fun d e1 => isSh d = true ∧ (Op (t d e1) fun e2 => QF .nx e2) := by
  unfold sUnp
  rw [wp_mbind]
  refine Wp.ext fun d e1 => ?_
  by_cases h : isSh d = true
  · simp only [h, if_true]
    cases t d e1 <;> simp
  · simp [h]
@[simp] theorem wp_par {i j : Nat} {fs : M (List D)} : Wp (sPar i j fs e) QF = Wp (fs e) fun ds e1 => (match ds with | [a, b] => (isSh a = true ∧ isSh b = true) ∧ QF .nx ((e1.set i (some a)).set j (some b)) | _ => False) := by
  unfold sPar
  rw [wp_mbind]
  refine Wp.ext fun ds e1 => ?_
  rcases ds with _ | ⟨a, _ | ⟨b, _ | ⟨c, r⟩⟩⟩
  · rfl
  · rfl
  · show Wp ((if isSh a = true ∧ isSh b = true then (fun e => Rs.ok Fl.nx ((e.set i (some a)).set j (some b)) : M Fl) else fun _ => Rs.no) e1) QF = _
    rw [wp_iteM]
    by_cases h : isSh a = true ∧ isSh b = true
    · simp only [h]; simp
    · simp only [h]; simp
  · rfl
@[simp] theorem wp_app {fo fy : M D} : Wp (sApp fo fy e) QF = Wp (fo e) fun o e1 => (ownAt e1 o).isSome = true ∧ Wp (fy e1) fun y e2 => Op (appE e2 o y) fun e3 => QF .nx e3 := by
  unfold sApp
  rw [wp_mbind]
  refine Wp.ext fun o e1 => ?_
  by_cases h : (ownAt e1 o).isSome = true
  · rw [if_pos h, wp_mbind]
    simp only [h, true_and]
    refine Wp.ext fun y e2 => ?_
    cases appE e2 o y <;> simp
  · rw [if_neg h]
    simp [h]
@[simp] theorem wp_sub {fo fi fy : M D} : Wp (sSub fo fi fy e) QF = Wp (fy e) fun y e1 => isSh y = true ∧ Wp (fo e1) fun o e2 => Wp (fi e2) fun i e3 => Op (subE e3 o i y) fun e4 => QF .nx e4 := by
  unfold sSub
  rw [wp_mbind]
  refine Wp.ext fun y e1 => ?_
  by_cases h : isSh y = true
  · rw [if_pos h, wp_mbind]
    simp only [h, true_and]
    refine Wp.ext fun o e2 => ?_
    rw [wp_mbind]
    refine Wp.ext fun i e3 => ?_
    cases subE e3 o i y <;> simp
  · rw [if_neg h]
    simp [h]
@[simp] theorem wp_call {n : Nat} {F : List D → Rs D} {fs : M (List D)} : Wp (eCall n F fs e) Q = Wp (fs e) fun ds e1 => (ds.length = n ∧ alN ds = true ∧ (ds.map (rsB e1)).all noOwn = true) ∧ Wp (F (ds.map (rsB e1))) fun r outs => Q r (putO e1 ds outs) := by
  unfold eCall
  rw [wp_mbind]
  refine Wp.ext fun ds e1 => ?_
  by_cases h : ds.length = n ∧ alN ds = true ∧ (ds.map (rsB e1)).all noOwn = true
  · simp only [h]
    cases F (ds.map (rsB e1)) <;> simp <;> rfl
  · simp only [h]
    simp
end
/-- a body, run -/
theorem wp_runF {N : Nat} {g : M Fl} {ds : List D} {Q : D → Env → Prop} : Wp (runF N g ds) Q = Wp (g (ds.map some ++ List.replicate (N - ds.length) none)) fun f e => borOk ds e = true ∧ (match f with | .rt d => Q d e | .nx => Q .non e | _ => False) := by
  unfold runF endF
  cases g (ds.map some ++ List.replicate (N - ds.length) none) with
  | ok f e => cases f with
    | nx =>
      by_cases h : borOk ds e = true
      · simp [h]
      · simp [h]
    | rt d =>
      by_cases h : borOk ds e = true
      · simp [h]
      · simp [h]
    | _ => simp
  | ex x e =>
    show Wp (if borOk ds e = true then Rs.ex x e else Rs.no) Q = False
    by_cases h : borOk ds e = true
    · rw [if_pos h]; rfl
    · rw [if_neg h]; rfl
  | no => rfl
/-- a turn's end -/
def trn (I : Env → Prop) (Q : Fl → Env → Prop) : Fl → Env → Prop
  | .nx, e => I e
  | .ct, e => I e
  | .bk, e => Q .nx e
  | .rt v, e => Q (.rt v) e
section
variable {I : Env → Prop} {Q : Fl → Env → Prop} {e : Env}
@[simp] theorem trn_nx : trn I Q .nx e = I e := rfl
@[simp] theorem trn_ct : trn I Q .ct e = I e := rfl
@[simp] theorem trn_bk : trn I Q .bk e = Q .nx e := rfl
@[simp] theorem trn_rt {v : D} : trn I Q (.rt v) e = Q (.rt v) e := rfl
end
theorem Op.get {α : Type} {o : Option α} {P : α → Prop} (h : Op o P) : ∃ a, o = some a ∧ P a := by
  cases o with
  | none => exact h.elim
  | some a => exact ⟨a, rfl, h⟩
/-- a loop by what holds ahead of each turn -/
theorem wp_forL {t : TgF} {b : M Fl} {Q : Fl → Env → Prop} (I : Nat → Env → Prop) : ∀ (ds : List D) (k : Nat) (e : Env), I k e →
    (∀ i d e1, ds[i]? = some d → I (k + i) e1 → Op (t d e1) fun e2 => Wp (b e2) (trn (I (k + i + 1)) Q)) →
    (∀ e1, I (k + ds.length) e1 → Q .nx e1) → Wp (forL t b ds e) Q
  | [], k, e, h, _, z => z e h
  | d :: ds, k, e, h, st, z => by
    obtain ⟨e2, h1, h2⟩ := (st 0 d e rfl h).get
    unfold forL
    simp only [h1]
    have rest : ∀ e3, I (k + 1) e3 → Wp (forL t b ds e3) Q := fun e3 h3 => wp_forL I ds (k + 1) e3 h3
      (fun i d e1 hi hI => by
        have := st (i + 1) d e1 (by simpa using hi) (by rw [show k + (i + 1) = k + 1 + i by omega]; exact hI)
        rw [show k + (i + 1) + 1 = k + 1 + i + 1 by omega] at this
        exact this)
      (fun e1 hI => z e1 (by rw [List.length_cons, show k + (ds.length + 1) = k + 1 + ds.length by omega]; exact hI))
    generalize b e2 = r at h2 ⊢
    cases r with
    | ok f e3 => cases f with
      | nx => exact rest e3 h2
      | ct => exact rest e3 h2
      | bk => exact h2
      | rt v => exact h2
    | _ => exact h2
@[simp] theorem wp_forNil {t : TgF} {b : M Fl} {Q : Fl → Env → Prop} {e : Env} : Wp (forL t b [] e) Q = Q .nx e := rfl
/-- what follows a turn -/
def turn (t : TgF) (b : M Fl) (ds : List D) (Q : Fl → Env → Prop) : Fl → Env → Prop
  | .nx, e => Wp (forL t b ds e) Q
  | .ct, e => Wp (forL t b ds e) Q
  | .bk, e => Q .nx e
  | .rt v, e => Q (.rt v) e
section
variable {t : TgF} {b : M Fl} {ds : List D} {Q : Fl → Env → Prop} {e : Env}
@[simp] theorem turn_nx : turn t b ds Q .nx e = Wp (forL t b ds e) Q := rfl
@[simp] theorem turn_ct : turn t b ds Q .ct e = Wp (forL t b ds e) Q := rfl
@[simp] theorem turn_bk : turn t b ds Q .bk e = Q .nx e := rfl
@[simp] theorem turn_rt {v : D} : turn t b ds Q (.rt v) e = Q (.rt v) e := rfl
@[simp] theorem wp_forCons {d : D} : Wp (forL t b (d :: ds) e) Q = Op (t d e) fun e1 => Wp (b e1) (turn t b ds Q) := by
  show Wp (match t d e with | none => Rs.no | some e1 => _) Q = _
  cases t d e with
  | none => rfl
  | some e1 =>
    show Wp (match b e1 with | .ok .nx e2 => forL t b ds e2 | .ok .ct e2 => forL t b ds e2 | .ok .bk e2 => .ok .nx e2 | r => r) Q = Wp (b e1) (turn t b ds Q)
    cases b e1 with
    | ok f e3 => cases f <;> rfl
    | _ => rfl
end
section
variable {vs : List Nat} {t : TgF} {ft : M Bool} {fe : M D} {Q : List D → Env → Prop}
@[simp] theorem wp_bindN {α β : Type} {r : Rs α} {f : α → M β} {Q : β → Env → Prop} : Wp (r.bindN f) Q = Wp r fun a e => Wp (f a e) Q := by cases r <;> rfl
@[simp] theorem wp_compNil {acc : List D} {e : Env} : Wp (compL vs t ft fe [] acc e) Q = Q acc e := rfl
@[simp] theorem wp_compCons {d : D} {ds acc : List D} {e : Env} : Wp (compL vs t ft fe (d :: ds) acc e) Q = Op (t d e) fun e1 => Wp (ft e1) fun k e2 => (k = true → Wp (fe e2) fun y e3 => (isSh y = true ∧ acc.length < 1000000) ∧ Wp (compL vs t ft fe ds (acc ++ [y]) (eWipe e3 vs)) Q) ∧ (¬k = true → Wp (compL vs t ft fe ds acc (eWipe e2 vs)) Q) := by
  show Wp (match t d e with | none => Rs.no | some e1 => _) Q = _
  cases t d e with
  | none => rfl
  | some e1 =>
    show Wp ((ft e1).bindN _) Q = _
    rw [wp_bindN]
    refine Wp.ext fun k e2 => ?_
    by_cases h : k = true
    · simp only [h, if_true, wp_bindN]
      simp only [not_true_eq_false, false_implies, and_true, forall_const]
      refine Wp.ext fun y e3 => ?_
      by_cases h : isSh y = true ∧ acc.length < 1000000
      · simp only [h]; simp
      · simp only [h]; simp
    · simp [h]
/-- a comprehension by what holds ahead of each turn -/
theorem wp_compL (I : Nat → List D → Env → Prop) : ∀ (ds : List D) (k : Nat) (acc : List D) (e : Env), I k acc e → acc.length + ds.length ≤ 1000000 →
    (∀ i d acc e1, ds[i]? = some d → I (k + i) acc e1 → Op (t d e1) fun e2 => Wp (ft e2) fun b e3 => (b = true → Wp (fe e3) fun y e4 => isSh y = true ∧ I (k + i + 1) (acc ++ [y]) (eWipe e4 vs)) ∧ (¬b = true → I (k + i + 1) acc (eWipe e3 vs))) →
    (∀ acc e1, I (k + ds.length) acc e1 → Q acc e1) → Wp (compL vs t ft fe ds acc e) Q
  | [], k, acc, e, h, _, _, z => z acc e h
  | d :: ds, k, acc, e, h, hl, st, z => by
    rw [List.length_cons] at hl
    obtain ⟨e2, h1, h2⟩ := (st 0 d acc e rfl h).get
    have rest : ∀ acc' e3, acc'.length ≤ acc.length + 1 → I (k + 1) acc' e3 → Wp (compL vs t ft fe ds acc' e3) Q := fun acc' e3 hl' h3 => wp_compL I ds (k + 1) acc' e3 h3 (by omega)
      (fun i d acc e1 hi hI => by
        have := st (i + 1) d acc e1 (by simpa using hi) (by rw [show k + (i + 1) = k + 1 + i by omega]; exact hI)
        rw [show k + (i + 1) + 1 = k + 1 + i + 1 by omega] at this
        exact this)
      (fun acc e1 hI => z acc e1 (by rw [List.length_cons, show k + (ds.length + 1) = k + 1 + ds.length by omega]; exact hI))
    rw [wp_compCons, h1, op_some]
    refine h2.imp fun b e3 h3 => ⟨fun hb => (h3.1 hb).imp fun y e4 h4 => ⟨⟨h4.1, by omega⟩, rest _ _ (by simp) h4.2⟩, fun hb => rest _ _ (by omega) (h3.2 hb)⟩
end
end DL
end

section
set_option maxRecDepth 100000
set_option maxHeartbeats 2000000
namespace DL
open PySem L2

/-! ### operations told -/
def MulOk (i j : Int) : Prop := i.natAbs.log2 + j.natAbs.log2 < 1000000
def DivOk (j : Int) : Prop := j ≠ 0 ∧ j.natAbs.log2 < 9000
section
variable {Q : D → Env → Prop} {e : Env} {i j : Int} {s t : Str}
@[simp] theorem rs_al {k : Nat} : rs e (.al k) = (match e[k]? with
    | some (some (.own xs)) => .own xs
    | some (some (.bor xs)) => .bor xs
    | _ => .al k) := rfl
@[simp] theorem rs_int : rs e (.int i) = .int i := rfl
@[simp] theorem rs_bl {b} : rs e (.bl b) = .bl b := rfl
@[simp] theorem rs_str : rs e (.str s) = .str s := rfl
@[simp] theorem rs_non : rs e .non = .non := rfl
@[simp] theorem rs_ty {n} : rs e (.ty n) = .ty n := rfl
@[simp] theorem rs_ref {n} : rs e (.ref n) = .ref n := rfl
@[simp] theorem rs_tup {xs} : rs e (.tup xs) = .tup xs := rfl
@[simp] theorem rs_lst {xs} : rs e (.lst xs) = .lst xs := rfl
@[simp] theorem rs_klst {xs} : rs e (.klst xs) = .klst xs := rfl
@[simp] theorem sh_int : isSh (.int i) = true := rfl
@[simp] theorem sh_bl {b} : isSh (.bl b) = true := rfl
@[simp] theorem sh_str : isSh (.str s) = true := rfl
@[simp] theorem sh_non : isSh .non = true := rfl
@[simp] theorem sh_tup {xs} : isSh (.tup xs) = true := rfl
@[simp] theorem sh_lst {xs} : isSh (.lst xs) = true := rfl
@[simp] theorem sh_klst {xs} : isSh (.klst xs) = true := rfl
@[simp] theorem sh_ints {xs : List Int} : (xs.map D.int).all isSh = true := by
  induction xs with
  | nil => rfl
  | cons x xs ih => exact ih
theorem sh_intsA {xs : List Int} : (∀ x ∈ xs.map D.int, isSh x = true) := by
  intro x h
  obtain ⟨y, _, rfl⟩ := List.mem_map.mp h
  rfl
@[simp] theorem add_int : dAdd (.int i) (.int j) = some (.int (i + j)) := rfl
@[simp] theorem sub_int : dSub (.int i) (.int j) = some (.int (i - j)) := rfl
@[simp] theorem lt_int : dLt (.int i) (.int j) = some (.bl (decide (i < j))) := rfl
@[simp] theorem le_int : dLe (.int i) (.int j) = some (.bl (decide (i ≤ j))) := rfl
@[simp] theorem gt_int : dGt (.int i) (.int j) = some (.bl (decide (j < i))) := rfl
@[simp] theorem ge_int : dGe (.int i) (.int j) = some (.bl (decide (j ≤ i))) := rfl
@[simp] theorem eq_int : dEq (.int i) (.int j) = some (.bl (decide (i = j))) := rfl
@[simp] theorem ne_int : dNe (.int i) (.int j) = some (.bl (!decide (i = j))) := rfl
@[simp] theorem eq_bl {a b} : dEq (.bl a) (.bl b) = some (.bl (decide (a = b))) := rfl
@[simp] theorem ne_bl {a b} : dNe (.bl a) (.bl b) = some (.bl (!decide (a = b))) := rfl
@[simp] theorem eq_str : dEq (.str s) (.str t) = some (.bl (decide (s = t))) := rfl
@[simp] theorem ne_str : dNe (.str s) (.str t) = some (.bl (!decide (s = t))) := rfl
@[simp] theorem wp_mulI : Wp (mopt (dMulI (.int i) (.int j)) e) Q = (MulOk i j ∧ Q (.int (i * j)) e) := by
  show Wp (mopt (if i.natAbs.log2 + j.natAbs.log2 < 1000000 then some (D.int (i * j)) else none) e) Q = ((i.natAbs.log2 + j.natAbs.log2 < 1000000) ∧ _)
  by_cases h : i.natAbs.log2 + j.natAbs.log2 < 1000000
  · rw [if_pos h]
    simp [h]
  · rw [if_neg h]
    simp [h, mopt]
@[simp] theorem wp_divI : Wp (mopt (dDiv (.int i) (.int j)) e) Q = (DivOk j ∧ Q (.int (i.fdiv j)) e) := by
  show Wp (mopt (if j ≠ 0 ∧ j.natAbs.log2 < 9000 then some (D.int (i.fdiv j)) else none) e) Q = ((j ≠ 0 ∧ j.natAbs.log2 < 9000) ∧ _)
  by_cases h : j ≠ 0 ∧ j.natAbs.log2 < 9000
  · rw [if_pos h]
    simp [h]
  · rw [if_neg h]
    simp [h, mopt]
@[simp] theorem wp_modI : Wp (mopt (dMod (.int i) (.int j)) e) Q = (j ≠ 0 ∧ Q (.int (i.fmod j)) e) := by
  show Wp (mopt (if j ≠ 0 then some (D.int (i.fmod j)) else none) e) Q = _
  by_cases h : j ≠ 0
  · rw [if_pos h]
    simp [h]
  · rw [if_neg h]
    simp [h, mopt]
@[simp] theorem bOf_bl {b} : bOf (.bl b) = some b := rfl
@[simp] theorem tru_bl {b} : dTru (.bl b) = some b := rfl
@[simp] theorem tru_int : dTru (.int i) = some (i != 0) := rfl
@[simp] theorem abs_int : dAbs [.int i] = some (.int i.natAbs) := by
  show some (D.int (if i < 0 then -i else i)) = _
  congr 2
  split <;> omega
@[simp] theorem toInt_int : dToInt [.int i] = some (.int i) := rfl
@[simp] theorem toInt_bl {b} : dToInt [.bl b] = some (.int (if b then 1 else 0)) := rfl
@[simp] theorem len_tup {xs} : dLen [.tup xs] = some (.int xs.length) := rfl
@[simp] theorem len_lst {xs} : dLen [.lst xs] = some (.int xs.length) := rfl
@[simp] theorem len_klst {xs} : dLen [.klst xs] = some (.int xs.length) := rfl
@[simp] theorem len_own {xs} : dLen [.own xs] = some (.int xs.length) := rfl
@[simp] theorem len_bor {xs} : dLen [.bor xs] = some (.int xs.length) := rfl
@[simp] theorem tuple_lst {xs} : dTuple [.lst xs] = some (.tup xs) := rfl
@[simp] theorem tuple_tup {xs} : dTuple [.tup xs] = some (.tup xs) := rfl
@[simp] theorem seq_lst {xs} : seqSh (.lst xs) = some xs := rfl
@[simp] theorem seq_klst {xs} : seqSh (.klst xs) = some xs := rfl
@[simp] theorem seq_tup {xs} : seqSh (.tup xs) = some xs := rfl
@[simp] theorem iOf_int : iOf (.int i) = some (some i) := rfl
@[simp] theorem add_lst {xs ys} : dAdd (.lst xs) (.lst ys) = if xs.length + ys.length ≤ 1000000 then some (.lst (xs ++ ys)) else none := rfl
@[simp] theorem wp_mif {c : Prop} [Decidable c] {α : Type} {a : α} {QA : α → Env → Prop} : Wp (mopt (if c then some a else none) e) QA = (c ∧ QA a e) := by
  by_cases h : c <;> simp [h, mopt]
theorem add_own {xs ys} (h : (xs.all isSh) = true) : dAdd (.own xs) (.lst ys) = if xs.length + ys.length ≤ 1000000 then some (.lst (xs ++ ys)) else none := by
  show ((if (xs.all isSh) = true then some xs else none).bind fun xs => (mls (D.lst ys)).bind fun ys => if xs.length + ys.length ≤ 1000000 then some (D.lst (xs ++ ys)) else none) = _
  rw [if_pos h]
  rfl
@[simp] theorem idx_tup {xs} : dIdx (.tup xs) (.int i) = atI xs i := rfl
@[simp] theorem idx_lst {xs} : dIdx (.lst xs) (.int i) = (atI xs i).bind shOnly := rfl
@[simp] theorem idx_klst {xs} : dIdx (.klst xs) (.int i) = (atI xs i).bind shOnly := rfl
@[simp] theorem idx_own {xs} : dIdx (.own xs) (.int i) = (atI xs i).bind shOnly := rfl
@[simp] theorem idx_bor {xs} : dIdx (.bor xs) (.int i) = (atI xs i).bind shOnly := rfl
@[simp] theorem shOnly_int : shOnly (.int i) = some (.int i) := rfl
@[simp] theorem shOnly_tup {xs} : shOnly (.tup xs) = some (.tup xs) := rfl
@[simp] theorem shOnly_lst {xs} : shOnly (.lst xs) = some (.lst xs) := rfl
@[simp] theorem shOnly_str : shOnly (.str s) = some (.str s) := rfl
@[simp] theorem wp_rgOf {j : Int} {Q : List D → Env → Prop} : Wp (mopt (rgOf [.int j]) e) Q = ((-1000000 ≤ j ∧ j ≤ 1000000) ∧ Q (rg 0 j) e) := by
  show Wp (mopt (if -1000000 ≤ j ∧ j ≤ 1000000 then some (rg 0 j) else none) e) Q = _
  rw [wp_mif]
@[simp] theorem wp_rgOf2 {i j : Int} {Q : List D → Env → Prop} : Wp (mopt (rgOf2 [.int i, .int j]) e) Q = ((-1000000 ≤ i ∧ i ≤ 1000000 ∧ -1000000 ≤ j ∧ j ≤ 1000000) ∧ Q (rg i j) e) := by
  show Wp (mopt (if -1000000 ≤ i ∧ i ≤ 1000000 ∧ -1000000 ≤ j ∧ j ≤ 1000000 then some (rg i j) else none) e) Q = _
  rw [wp_mif]
@[simp] theorem gN_eq {k : Nat} {d : D} : gN k d e = some (e.set k (some d)) := rfl
@[simp] theorem gsNil_nil : gsNil [] e = some e := rfl
@[simp] theorem gsCons_cons {t : TgF} {u : List D → Env → Option Env} {d : D} {r : List D} : gsCons t u (d :: r) e = (t d e).bind (u r) := rfl
@[simp] theorem gT_tup {n} {t} {xs : List D} : gT n t (.tup xs) e = if xs.length = n then t xs e else none := rfl
@[simp] theorem gT_lst {n} {t} {xs : List D} : gT n t (.lst xs) e = if xs.length = n then t xs e else none := rfl
@[simp] theorem wipe_nil : eWipe e [] = e := rfl
@[simp] theorem wipe_cons {v : Nat} {vs : List Nat} : eWipe e (v :: vs) = (eWipe e vs).set v none := rfl
@[simp] theorem rsB_int : rsB e (.int i) = .int i := rfl
@[simp] theorem rsB_bl {b} : rsB e (.bl b) = .bl b := rfl
@[simp] theorem rsB_str : rsB e (.str s) = .str s := rfl
@[simp] theorem rsB_non : rsB e .non = .non := rfl
@[simp] theorem rsB_tup {xs} : rsB e (.tup xs) = .tup xs := rfl
@[simp] theorem rsB_lst {xs} : rsB e (.lst xs) = .lst xs := rfl
@[simp] theorem rsB_klst {xs} : rsB e (.klst xs) = .klst xs := rfl
@[simp] theorem rsB_al {k : Nat} : rsB e (.al k) = (match e[k]? with | some (some d) => borOf d | _ => .own []) := rfl
@[simp] theorem borOf_own {xs} : borOf (.own xs) = .bor xs := rfl
@[simp] theorem borOf_bor {xs} : borOf (.bor xs) = .bor xs := rfl
@[simp] theorem noOwn_int : noOwn (.int i) = true := rfl
@[simp] theorem noOwn_bl {b} : noOwn (.bl b) = true := rfl
@[simp] theorem noOwn_str : noOwn (.str s) = true := rfl
@[simp] theorem noOwn_non : noOwn .non = true := rfl
@[simp] theorem noOwn_tup {xs} : noOwn (.tup xs) = true := rfl
@[simp] theorem noOwn_lst {xs} : noOwn (.lst xs) = true := rfl
@[simp] theorem noOwn_klst {xs} : noOwn (.klst xs) = true := rfl
@[simp] theorem noOwn_bor {xs} : noOwn (.bor xs) = true := rfl
@[simp] theorem alN_nil : alN [] = true := rfl
@[simp] theorem alN_int {r} : alN (.int i :: r) = alN r := rfl
@[simp] theorem alN_bl {b r} : alN (.bl b :: r) = alN r := rfl
@[simp] theorem alN_str {r} : alN (.str s :: r) = alN r := rfl
@[simp] theorem alN_non {r} : alN (.non :: r) = alN r := rfl
@[simp] theorem alN_tup {xs r} : alN (.tup xs :: r) = alN r := rfl
@[simp] theorem alN_lst {xs r} : alN (.lst xs :: r) = alN r := rfl
@[simp] theorem alN_klst {xs r} : alN (.klst xs :: r) = alN r := rfl
@[simp] theorem alN_al {k : Nat} {r} : alN (.al k :: r) = (!(r.any (isAl k)) && alN r) := rfl
@[simp] theorem isAl_int {k} : isAl k (.int i) = false := rfl
@[simp] theorem isAl_bl {k b} : isAl k (.bl b) = false := rfl
@[simp] theorem isAl_str {k} : isAl k (.str s) = false := rfl
@[simp] theorem isAl_non {k} : isAl k .non = false := rfl
@[simp] theorem isAl_tup {k xs} : isAl k (.tup xs) = false := rfl
@[simp] theorem isAl_lst {k xs} : isAl k (.lst xs) = false := rfl
@[simp] theorem isAl_klst {k xs} : isAl k (.klst xs) = false := rfl
@[simp] theorem isAl_al {k m} : isAl k (.al m) = (m == k) := rfl
@[simp] theorem borOk_nil : borOk [] e = true := rfl
@[simp] theorem borOk_int {r o} : borOk (.int i :: r) (o :: e) = borOk r e := rfl
@[simp] theorem borOk_bl {b r o} : borOk (.bl b :: r) (o :: e) = borOk r e := rfl
@[simp] theorem borOk_str {r o} : borOk (.str s :: r) (o :: e) = borOk r e := rfl
@[simp] theorem borOk_non {r o} : borOk (.non :: r) (o :: e) = borOk r e := rfl
@[simp] theorem borOk_tup {xs r o} : borOk (.tup xs :: r) (o :: e) = borOk r e := rfl
@[simp] theorem borOk_lst {xs r o} : borOk (.lst xs :: r) (o :: e) = borOk r e := rfl
@[simp] theorem borOk_klst {xs r o} : borOk (.klst xs :: r) (o :: e) = borOk r e := rfl
@[simp] theorem borOk_bor {xs ys r} : borOk (.bor xs :: r) (some (.bor ys) :: e) = borOk r e := rfl
/-- what was lent, put back: nothing lent -/
theorem findIdx_none {ds : List D} {j : Nat} (h : ∀ d ∈ ds, isAl j d = false) : ds.findIdx? (isAl j) = none := by
  induction ds with
  | nil => rfl
  | cons d ds ih =>
    rw [List.findIdx?_cons, h d (List.mem_cons_self ..), ih fun d m => h d (List.mem_cons_of_mem _ m)]
    rfl
def notAl : D → Bool
  | .al _ => false
  | _ => true
theorem notAl_is {d : D} {j : Nat} (h : notAl d = true) : isAl j d = false := by cases d <;> first | rfl | exact absurd h Bool.false_ne_true
@[simp] theorem notAl_int : notAl (.int i) = true := rfl
@[simp] theorem notAl_bl {b} : notAl (.bl b) = true := rfl
@[simp] theorem notAl_str : notAl (.str s) = true := rfl
@[simp] theorem notAl_non : notAl .non = true := rfl
@[simp] theorem notAl_tup {xs} : notAl (.tup xs) = true := rfl
@[simp] theorem notAl_lst {xs} : notAl (.lst xs) = true := rfl
@[simp] theorem notAl_klst {xs} : notAl (.klst xs) = true := rfl
@[simp] theorem putO_no {ds : List D} {outs : Env} (h : ds.all notAl = true) : putO e ds outs = e := by
  unfold putO
  have h2 : ∀ j, ds.findIdx? (isAl j) = none := fun j => findIdx_none fun d m => notAl_is (List.all_eq_true.mp h d m)
  apply List.ext_getElem?
  intro j
  rw [List.getElem?_mapIdx, h2]
  cases e[j]? <;> rfl
/-- .. one, the first argument -/
theorem putO_one {ds : List D} {outs : Env} {k : Nat} {ys : List D} (ho : outs[0]? = some (some (.bor ys))) (h : ds.all notAl = true) : putO e (.al k :: ds) outs = (match e[k]? with | some d => e.set k (relab d ys) | none => e) := by
  have h2 : ∀ j, ds.findIdx? (isAl j) = none := fun j => findIdx_none fun d m => notAl_is (List.all_eq_true.mp h d m)
  cases hk : e[k]? with
  | none =>
    apply List.ext_getElem?
    intro j
    unfold putO
    rw [List.getElem?_mapIdx]
    simp only [List.findIdx?_cons, isAl_al, h2]
    by_cases hj : k = j
    · subst hj
      simp [hk]
    · have : (k == j) = false := by simp [hj]
      simp only [this]
      cases e[j]? <;> rfl
  | some d =>
    apply List.ext_getElem?
    intro j
    unfold putO
    rw [List.getElem?_mapIdx]
    simp only [List.findIdx?_cons, isAl_al, h2]
    by_cases hj : k = j
    · subst hj
      simp [hk, ho]
      rw [List.getElem?_set_self (List.getElem?_eq_some_iff.mp hk).1]
    · have : (k == j) = false := by simp [hj]
      simp only [this]
      rw [List.getElem?_set_ne hj]
      cases e[j]? <;> rfl
@[simp] theorem relab_own {xs ys} : relab (some (.own xs)) ys = some (.own ys) := rfl
@[simp] theorem relab_bor {xs ys} : relab (some (.bor xs)) ys = some (.bor ys) := rfl
end

/-! ### items told -/
theorem atI_nat {α : Type} {xs : List α} {k : Nat} : atI xs (k : Int) = xs[k]? := by
  unfold atI ixN
  rw [if_pos (by omega)]
  by_cases h : (k : Int) < xs.length
  · rw [if_pos h]
    rfl
  · rw [if_neg h]
    rw [List.getElem?_eq_none (by omega)]
    rfl
section
variable {α : Type} {xs : List α} {n : Nat}
@[simp] theorem at0 : atI xs 0 = xs[0]? := atI_nat (k := 0)
@[simp] theorem at1 : atI xs 1 = xs[1]? := atI_nat (k := 1)
@[simp] theorem at2 : atI xs 2 = xs[2]? := atI_nat (k := 2)
@[simp] theorem at3 : atI xs 3 = xs[3]? := atI_nat (k := 3)
@[simp] theorem at4 : atI xs 4 = xs[4]? := atI_nat (k := 4)
@[simp] theorem at5 : atI xs 5 = xs[5]? := atI_nat (k := 5)
@[simp] theorem at6 : atI xs 6 = xs[6]? := atI_nat (k := 6)
@[simp] theorem at7 : atI xs 7 = xs[7]? := atI_nat (k := 7)
theorem ixN_nat {k : Nat} (h : k < n) : ixN n (k : Int) = some k := by
  unfold ixN
  rw [if_pos (by omega), if_pos (by omega)]
  simp
@[simp] theorem ix0 (h : 0 < n) : ixN n 0 = some 0 := ixN_nat (k := 0) h
@[simp] theorem ix1 (h : 1 < n) : ixN n 1 = some 1 := ixN_nat (k := 1) h
@[simp] theorem ix2 (h : 2 < n) : ixN n 2 = some 2 := ixN_nat (k := 2) h
@[simp] theorem ix3 (h : 3 < n) : ixN n 3 = some 3 := ixN_nat (k := 3) h
@[simp] theorem ix4 (h : 4 < n) : ixN n 4 = some 4 := ixN_nat (k := 4) h
@[simp] theorem ix5 (h : 5 < n) : ixN n 5 = some 5 := ixN_nat (k := 5) h
end
@[simp] theorem ownAt_al1 {e : Env} {k : Nat} : ownAt e (.al k) = (match e[k]? with
    | some (some (.own xs)) => some (k, .own xs, xs)
    | some (some (.bor xs)) => some (k, .bor xs, xs)
    | _ => none) := rfl
@[simp] theorem appE_eq {e : Env} {o y : D} : appE e o y = (ownAt e o).bind fun t => if (t.2.2.all isSh) = true ∧ isSh y = true ∧ t.2.2.length < 1000000 then some (e.set t.1 (relab (some t.2.1) (t.2.2 ++ [y]))) else none := rfl
@[simp] theorem subE_int {e : Env} {o y : D} {k : Int} : subE e o (.int k) y = (ownAt e o).bind fun t => (ixN t.2.2.length k).bind fun j => if (t.2.2.all isSh) = true ∧ isSh y = true then some (e.set t.1 (relab (some t.2.1) (t.2.2.set j y))) else none := rfl
theorem op_mif {α : Type} {c : Prop} [Decidable c] {a : α} {P : α → Prop} : Op (if c then some a else none) P = (c ∧ P a) := by
  by_cases h : c <;> simp [h]
@[simp] theorem wp_mbnd {α β : Type} {o : Option α} {f : α → Option β} {Q : β → Env → Prop} {e : Env} : Wp (mopt (o.bind f) e) Q = Op o fun a => Wp (mopt (f a) e) Q := by
  cases o <;> rfl
@[simp] theorem wp_mmap {α β : Type} {o : Option α} {f : α → β} {Q : β → Env → Prop} {e : Env} : Wp (mopt (o.map f) e) Q = Op o fun a => Q (f a) e := by
  cases o <;> rfl
theorem wp_mopt {α : Type} {o : Option α} {Q : α → Env → Prop} {e : Env} : Wp (mopt o e) Q = Op o fun a => Q a e := by
  cases o <;> rfl

@[simp] theorem slice_klst {xs : List D} {lo hi : Option Int} : dSlice (.klst xs) lo hi = some (.lst (cutD xs lo hi)) := rfl
@[simp] theorem slice_lst {xs : List D} {lo hi : Option Int} : dSlice (.lst xs) lo hi = some (.lst (cutD xs lo hi)) := rfl
theorem cutD_map {α : Type} {f : α → D} {xs : List α} {lo hi : Option Int} : ∃ ys : List α, cutD (xs.map f) lo hi = ys.map f ∧ ys.length ≤ xs.length ∧ ∀ y ∈ ys, y ∈ xs := by
  refine ⟨(xs.drop (HT.sIx xs.length 0 lo)).take (HT.sIx xs.length xs.length hi - HT.sIx xs.length 0 lo), ?_, ?_, fun y m => List.mem_of_mem_drop (List.mem_of_mem_take m)⟩
  · unfold cutD
    rw [List.length_map, List.map_take, List.map_drop]
  · rw [List.length_take, List.length_drop]
    omega

/-! ### sizes -/
def Bd (n : Nat) (x : Int) : Prop := x.natAbs < 2 ^ n
instance {n : Nat} {x : Int} : Decidable (Bd n x) := inferInstanceAs (Decidable (x.natAbs < 2 ^ n))
theorem Bd.mono {m n : Nat} {x : Int} (h : Bd m x) (k : m ≤ n) : Bd n x := Nat.lt_of_lt_of_le h (Nat.pow_le_pow_right (by decide) k)
theorem Bd.mul {m n : Nat} {x y : Int} (h : Bd m x) (k : Bd n y) : Bd (m + n) (x * y) := by
  unfold Bd at *
  rw [Int.natAbs_mul, Nat.pow_add]
  exact Nat.mul_lt_mul'' h k
theorem Bd.add {m n : Nat} {x y : Int} (h : Bd m x) (k : Bd n y) : Bd (max m n + 1) (x + y) := by
  have h1 := h.mono (Nat.le_max_left m n)
  have h2 := k.mono (Nat.le_max_right m n)
  unfold Bd at *
  rw [Nat.pow_succ]
  omega
theorem Bd.sub {m n : Nat} {x y : Int} (h : Bd m x) (k : Bd n y) : Bd (max m n + 1) (x - y) := by
  have h1 := h.mono (Nat.le_max_left m n)
  have h2 := k.mono (Nat.le_max_right m n)
  unfold Bd at *
  rw [Nat.pow_succ]
  omega
theorem Bd.log {n : Nat} {x : Int} (h : Bd n x) : x.natAbs.log2 ≤ n := by
  by_cases z : x.natAbs = 0
  · rw [z]
    simp
  · exact Nat.le_of_lt ((Nat.log2_lt z).mpr h)
theorem Bd.le {n : Nat} {x y : Int} (h : Bd n y) (k : x.natAbs ≤ y.natAbs) : Bd n x := Nat.lt_of_le_of_lt k h
theorem MulOk.of {m n : Nat} {x y : Int} (h : Bd m x) (k : Bd n y) (s : m + n < 1000000) : MulOk x y := by
  have h1 := h.log
  have h2 := k.log
  unfold MulOk
  omega
theorem DivOk.of {n : Nat} {x : Int} (h : Bd n x) (z : x ≠ 0) (s : n < 9000) : DivOk x := ⟨z, Nat.lt_of_le_of_lt h.log s⟩
end DL
end

section
set_option maxRecDepth 100000
set_option maxHeartbeats 2000000
namespace DL
open PySem L2

/-! ### equality of data -/
abbrev tI (xs : List Int) : D := .tup (xs.map .int)
abbrev lI (xs : List Int) : D := .lst (xs.map .int)
abbrev pI (xs : List Int) : PyData := .tuple (xs.map .int)
theorem toPys_ints : ∀ xs : List Int, toPys (xs.map D.int) = some (xs.map PyData.int)
  | [] => by rw [List.map_nil, toPys]; rfl
  | x :: xs => by rw [List.map_cons, toPys, toPys_ints xs, toPy]; rfl
theorem lay_ints : ∀ xs : List Int, PyData.canLayAll0 (xs.map PyData.int) = true
  | [] => by simp only [List.map_nil, PyData.canLayAll0]
  | x :: xs => by simp only [List.map_cons, PyData.canLayAll0, PyData.canLay0, lay_ints xs, Bool.and_self]
theorem dep_ints : ∀ xs : List Int, PyData.depthAll (xs.map PyData.int) ≤ 5
  | [] => by simp only [List.map_nil, PyData.depthAll]; omega
  | x :: xs => by
    have := dep_ints xs
    simp only [List.map_cons, PyData.depthAll, PyData.depth]
    omega
theorem eqv_ints : ∀ xs ys : List Int, PyData.eqvAll (xs.map PyData.int) (ys.map PyData.int) = decide (xs = ys)
  | [], [] => by simp [PyData.eqvAll]
  | [], _ :: _ => by simp [PyData.eqvAll]
  | _ :: _, [] => by simp [PyData.eqvAll]
  | x :: xs, y :: ys => by
    simp only [List.map_cons, PyData.eqvAll, PyData.eqv, eqv_ints xs ys, List.cons.injEq]
    by_cases h : x = y <;> by_cases k : xs = ys <;> simp [h, k]
theorem toPy_tI (xs : List Int) : toPy (tI xs) = some (pI xs) := by
  rw [toPy, toPys_ints]
  rfl
theorem toPy_lI (xs : List Int) : toPy (lI xs) = some (.list (xs.map PyData.int)) := by
  rw [toPy, toPys_ints]
  rfl
theorem shp_tI (xs : List Int) : SeqAt.shaped (pI xs) = true := by
  have := dep_ints xs
  exact Bool.and_eq_true_iff.mpr ⟨by simp only [PyData.canLay0, lay_ints], decide_eq_true (by simp only [PyData.depth]; omega)⟩
theorem shp_lI (xs : List Int) : SeqAt.shaped (.list (xs.map PyData.int)) = true := by
  have := dep_ints xs
  exact Bool.and_eq_true_iff.mpr ⟨by simp only [PyData.canLay0, lay_ints], decide_eq_true (by simp only [PyData.depth]; omega)⟩
theorem eq_of_py {x y : D} {p q : PyData} (hs : dEqS x y = none) (hx : pyOf x = some p) (hy : pyOf y = some q) (sx : SeqAt.shaped p = true) (sy : SeqAt.shaped q = true) : dEq x y = some (.bl (PyData.eqv p q)) := by
  unfold dEq dEqB
  rw [hs]
  unfold dEqG
  rw [hx, hy]
  simp [sx, sy]
theorem ne_of_py {x y : D} {p q : PyData} (hs : dEqS x y = none) (hx : pyOf x = some p) (hy : pyOf y = some q) (sx : SeqAt.shaped p = true) (sy : SeqAt.shaped q = true) : dNe x y = some (.bl (!PyData.eqv p q)) := by
  unfold dNe dEqB
  rw [hs]
  unfold dEqG
  rw [hx, hy]
  simp [sx, sy]
@[simp] theorem eq_tI {xs ys : List Int} : dEq (.tup (xs.map D.int)) (.tup (ys.map D.int)) = some (.bl (decide (xs = ys))) := by
  rw [eq_of_py (x := tI xs) (y := tI ys) rfl (toPy_tI xs) (toPy_tI ys) (shp_tI xs) (shp_tI ys), PyData.eqv, eqv_ints]
@[simp] theorem ne_tI {xs ys : List Int} : dNe (.tup (xs.map D.int)) (.tup (ys.map D.int)) = some (.bl (!decide (xs = ys))) := by
  rw [ne_of_py (x := tI xs) (y := tI ys) rfl (toPy_tI xs) (toPy_tI ys) (shp_tI xs) (shp_tI ys), PyData.eqv, eqv_ints]
@[simp] theorem eq_lI {xs ys : List Int} : dEq (.lst (xs.map D.int)) (.lst (ys.map D.int)) = some (.bl (decide (xs = ys))) := by
  rw [eq_of_py (x := lI xs) (y := lI ys) rfl (toPy_lI xs) (toPy_lI ys) (shp_lI xs) (shp_lI ys), PyData.eqv, eqv_ints]
@[simp] theorem ne_lI {xs ys : List Int} : dNe (.lst (xs.map D.int)) (.lst (ys.map D.int)) = some (.bl (!decide (xs = ys))) := by
  rw [ne_of_py (x := lI xs) (y := lI ys) rfl (toPy_lI xs) (toPy_lI ys) (shp_lI xs) (shp_lI ys), PyData.eqv, eqv_ints]
/-! lists of tuples -/
theorem toPys_tIs : ∀ xs : List (List Int), toPys (xs.map tI) = some (xs.map pI)
  | [] => by rw [List.map_nil, toPys]; rfl
  | x :: xs => by rw [List.map_cons, toPys, toPys_tIs xs, toPy_tI]; rfl
theorem lay_tIs : ∀ xs : List (List Int), PyData.canLayAll0 (xs.map pI) = true
  | [] => by simp only [List.map_nil, PyData.canLayAll0]
  | x :: xs => by simp only [List.map_cons, PyData.canLayAll0, PyData.canLay0, lay_ints, lay_tIs xs, Bool.and_self]
theorem dep_tIs : ∀ xs : List (List Int), PyData.depthAll (xs.map pI) ≤ 10
  | [] => by simp only [List.map_nil, PyData.depthAll]; omega
  | x :: xs => by
    have := dep_tIs xs
    have := dep_ints x
    simp only [List.map_cons, PyData.depthAll, PyData.depth]
    omega
theorem eqv_tIs : ∀ xs ys : List (List Int), PyData.eqvAll (xs.map pI) (ys.map pI) = decide (xs = ys)
  | [], [] => by simp [PyData.eqvAll]
  | [], _ :: _ => by simp [PyData.eqvAll]
  | _ :: _, [] => by simp [PyData.eqvAll]
  | x :: xs, y :: ys => by
    simp only [List.map_cons, PyData.eqvAll, PyData.eqv, eqv_ints, eqv_tIs xs ys, List.cons.injEq]
    by_cases h : x = y <;> by_cases k : xs = ys <;> simp [h, k]
theorem shp_tIs (xs : List (List Int)) : SeqAt.shaped (.list (xs.map pI)) = true := by
  have := dep_tIs xs
  exact Bool.and_eq_true_iff.mpr ⟨by simp only [PyData.canLay0, lay_tIs], decide_eq_true (by simp only [PyData.depth]; omega)⟩
theorem toPy_tIs (xs : List (List Int)) : toPy (.lst (xs.map tI)) = some (.list (xs.map pI)) := by
  rw [toPy, toPys_tIs]
  rfl
theorem eq_tIs {xs ys : List (List Int)} : dEq (.lst (xs.map tI)) (.lst (ys.map tI)) = some (.bl (decide (xs = ys))) := by
  rw [eq_of_py (x := .lst (xs.map tI)) (y := .lst (ys.map tI)) rfl (toPy_tIs xs) (toPy_tIs ys) (shp_tIs xs) (shp_tIs ys), PyData.eqv, eqv_tIs]
theorem ne_tIs {xs ys : List (List Int)} : dNe (.lst (xs.map tI)) (.lst (ys.map tI)) = some (.bl (!decide (xs = ys))) := by
  rw [ne_of_py (x := .lst (xs.map tI)) (y := .lst (ys.map tI)) rfl (toPy_tIs xs) (toPy_tIs ys) (shp_tIs xs) (shp_tIs ys), PyData.eqv, eqv_tIs]
/-! kinds -/
theorem kit_ii : kitB "int" "int" = some true := by decide +kernel
theorem kit_ib : kitB "int" "bool" = some false := by decide +kernel
theorem kit_tt : kitB "tuple" "tuple" = some true := by decide +kernel
@[simp] theorem isi_ii {i : Int} : dIsi [.int i, .ty "int"] = some (.bl true) := by
  show (some "int").bind (fun t => (kitB t "int").map D.bl) = _
  simp [kit_ii]
@[simp] theorem isi_ib {i : Int} : dIsi [.int i, .ty "bool"] = some (.bl false) := by
  show (some "int").bind (fun t => (kitB t "bool").map D.bl) = _
  simp [kit_ib]
@[simp] theorem isi_tt {xs : List D} : dIsi [.tup xs, .ty "tuple"] = some (.bl true) := by
  show (some "tuple").bind (fun t => (kitB t "tuple").map D.bl) = _
  simp [kit_tt]
end DL
end

section
set_option maxRecDepth 100000
set_option maxHeartbeats 1000000
namespace K09
open PySem L2 DL
/-- a tape read at most c times -/
def Tp (c : Nat) (xs : List D) : Prop := ∃ (row : List Int) (n : Nat), xs = [lI row, .int n] ∧ n ≤ c ∧ row.length ≤ 2000
/-- a call that reads the tape -/
def TpQ (c : Nat) (R : D → Prop) : D → DL.Env → Prop := fun d e => R d ∧ ∃ tp, e[0]? = some (some (.bor tp)) ∧ Tp c tp
theorem at_int {row : List Int} {i : Int} (h0 : 0 ≤ i) (h1 : i < row.length) : ∃ v, atI (row.map D.int) i = some (.int v) ∧ v ∈ row := by
  obtain ⟨k, rfl⟩ := Int.eq_ofNat_of_zero_le h0
  have hk : k < row.length := by omega
  refine ⟨row[k], ?_, List.getElem_mem hk⟩
  rw [DL.atI_nat]
  simp [hk]
theorem fmod_range {i m : Int} (h : 0 < m) : 0 ≤ i.fmod m ∧ i.fmod m < m := ⟨Int.fmod_nonneg_of_pos i h, Int.fmod_lt_of_pos i h⟩
theorem bd_nat {k n : Nat} (h : n < 2 ^ k) : Bd k (n : Int) := by
  unfold Bd
  simpa using h
theorem next_ok {c : Nat} {tp : List D} {m : Int} (h : Tp c tp) (hc : c < 100000) (hm : 0 < m) : Wp (F__law_next [.bor tp, .int m]) (TpQ (c + 1) fun d => ∃ n, d = .int n ∧ 0 ≤ n ∧ n < m) := by
  obtain ⟨row, n, rfl, h1, h2⟩ := h
  have hn : Bd 20 (n : Int) := bd_nat (by omega)
  have hl : row.length ≠ 0 → DivOk (row.length : Int) := fun z => DivOk.of (n := 20) (bd_nat (by omega)) (by omega) (by omega)
  unfold F__law_next
  rw [wp_runF]
  simp -implicitDefEqProofs -dsimp
  refine ⟨fun z => ⟨MulOk.of hn (n := 20) (by decide) (by decide), DivOk.of (n := 20) (by decide) (by decide) (by decide), by omega, ?_⟩, fun z => ⟨hl (by simpa using z), ?_⟩⟩
  · exact ⟨⟨_, rfl, fmod_range hm⟩, _, rfl, row, n + 1, by simp, by omega, h2⟩
  · have lp : 0 < (row.length : Int) := by
      have : row.length ≠ 0 := by simpa using z
      omega
    have hs : MulOk ((n : Int).fdiv row.length) 7 := MulOk.of (m := 20) (n := 20) (Bd.le hn (by
      rw [Int.fdiv_eq_ediv_of_nonneg _ (by omega)]
      rw [show ((n : Int) / row.length) = ((n / row.length : Nat) : Int) from rfl]
      simp
      exact Nat.div_le_self _ _)) (by decide) (by decide)
    obtain ⟨h3, h4⟩ := fmod_range (i := n) lp
    obtain ⟨v, h5, _⟩ := at_int h3 h4
    refine ⟨hs, ?_⟩
    have z2 : ¬row = [] := z
    simp -implicitDefEqProofs -dsimp [h5, z2]
    exact ⟨by omega, ⟨_, rfl, fmod_range hm⟩, _, rfl, row, n + 1, by simp, by omega, h2⟩
/-! gcd -/
abbrev gcdB : M Fl := sSeq (sIf (tOf (eBin dEq (eVar 1) (eC (.int 0)))) sBreak sNext) (sPar 0 1 (aCons (eVal 1) (aCons (eBin dMod (eBlt dToInt (aCons (eVar 0) aNil)) (eVar 1)) aNil)))
theorem gcd_turn {Q : Fl → DL.Env → Prop} {i j : Int} {x : D} {xs : List D} {y : Option D} (h : j ≠ 0) : Wp (forL (gN 2) gcdB (x :: xs) [some (.int i), some (.int j), y]) Q = Wp (forL (gN 2) gcdB xs [some (.int j), some (.int (i.fmod j)), some x]) Q := by
  simp -implicitDefEqProofs -dsimp [h]
theorem gcd_stop {Q : Fl → DL.Env → Prop} {i : Int} {xs : List D} {y : Option D} (hQ : ∀ y, Q .nx [some (.int i), some (.int 0), y]) : Wp (forL (gN 2) gcdB xs [some (.int i), some (.int 0), y]) Q := by
  cases xs with
  | nil => exact hQ y
  | cons x xs =>
    simp -implicitDefEqProofs -dsimp
    exact hQ _
theorem gcd_loop {Q : Fl → DL.Env → Prop} : ∀ (k a b : Nat) (xs : List D) (y : Option D), b < 2 ^ k → 2 * k ≤ xs.length → (∀ y, Q .nx [some (.int (Nat.gcd a b)), some (.int 0), y]) →
    Wp (forL (gN 2) gcdB xs [some (.int a), some (.int b), y]) Q := by
  intro k
  induction k with
  | zero =>
    intro a b xs y hb hl hQ
    have : b = 0 := by omega
    subst this
    rw [Nat.gcd_zero_right] at hQ
    exact gcd_stop hQ
  | succ k ih =>
    intro a b xs y hb hl hQ
    by_cases z : b = 0
    · subst z
      rw [Nat.gcd_zero_right] at hQ
      exact gcd_stop hQ
    · match xs, hl with
      | x :: x' :: xs, hl =>
        have e1 : Int.fmod (a : Int) (b : Int) = ((a % b : Nat) : Int) := by
          rw [Int.fmod_eq_emod_of_nonneg _ (by omega)]
          rfl
        rw [gcd_turn (by omega), e1]
        have g1 : Nat.gcd a b = Nat.gcd b (a % b) := by
          rw [Nat.gcd_comm a b, Nat.gcd_rec b a, Nat.gcd_comm]
        by_cases z2 : a % b = 0
        · rw [g1, z2, Nat.gcd_zero_right] at hQ
          rw [z2]
          exact gcd_stop hQ
        · have e2 : Int.fmod (b : Int) ((a % b : Nat) : Int) = ((b % (a % b) : Nat) : Int) := by
            rw [Int.fmod_eq_emod_of_nonneg _ (by omega)]
            rfl
          have g2 : Nat.gcd b (a % b) = Nat.gcd (a % b) (b % (a % b)) := by
            rw [Nat.gcd_comm b, Nat.gcd_rec (a % b) b, Nat.gcd_comm]
          have lt1 : a % b < b := Nat.mod_lt _ (by omega)
          have lt2 : b % (a % b) < a % b := Nat.mod_lt _ (by omega)
          have lt3 : b % (a % b) + a % b ≤ b := by
            have h := Nat.div_add_mod b (a % b)
            have h2 : 1 ≤ b / (a % b) := Nat.div_pos (by omega) (by omega)
            have h3 : (a % b) * 1 ≤ (a % b) * (b / (a % b)) := Nat.mul_le_mul_left _ h2
            omega
          rw [gcd_turn (by omega), e2]
          exact ih (a % b) (b % (a % b)) xs _ (by rw [Nat.pow_succ] at hb; omega) (by simp only [List.length_cons] at hl; omega) (fun y => by rw [← g2, ← g1]; exact hQ y)
theorem gcd_ok {a b : Int} {n : Nat} (hb : Bd n b) (hn : n ≤ 2000) : Wp (F__law_gcd [.int a, .int b]) fun d _ => d = .int (Nat.gcd a.natAbs b.natAbs) := by
  unfold F__law_gcd
  rw [wp_runF]
  simp -implicitDefEqProofs -dsimp
  refine gcd_loop n a.natAbs b.natAbs _ _ hb ?_ (fun y => ?_)
  · show 2 * n ≤ ((List.range (4000 - 0 : Int).toNat).map _).length
    rw [List.length_map, List.length_range]
    show 2 * n ≤ 4000
    omega
  · simp -implicitDefEqProofs -dsimp
/-! the script, the tape -/
def RowI (ns : List Int) (y : Int) (i : Nat) (e : DL.Env) : Prop := ∃ (row : List Int) (z : Int) (o4 : Option D), e = [some (.klst (ns.map D.int)), some (.own (row.map D.int)), some (.int y), some (.int z), o4] ∧ row.length ≤ i
def RowO (ns : List Int) (i : Nat) (e : DL.Env) : Prop := ∃ (row : List Int) (o2 o3 o4 : Option D), e = [some (.klst (ns.map D.int)), some (.own (row.map D.int)), o2, o3, o4] ∧ row.length ≤ 30 * i
theorem row_ok {ns : List Int} (h : ns.length ≤ 63) : Wp (F__law_row [.klst (ns.map D.int)]) fun d _ => ∃ row : List Int, d = lI row ∧ row.length ≤ 2000 := by
  obtain ⟨ys, hy, hl, _⟩ := cutD_map (f := D.int) (xs := ns) (lo := none) (hi := some 63)
  unfold F__law_row
  rw [wp_runF]
  simp -implicitDefEqProofs -dsimp [hy]
  refine wp_forL (RowO ns) _ 0 _ ⟨[], _, _, _, rfl, by simp⟩ ?_ ?_
  · rintro i d e hd ⟨row, o2, o3, o4, rfl, hr⟩
    have hi : i < ys.length := by
      have := (List.getElem?_eq_some_iff.mp hd).1
      simpa using this
    obtain ⟨y, _, rfl⟩ := List.mem_map.mp (List.mem_of_getElem? hd)
    simp -implicitDefEqProofs -dsimp
    refine wp_forL (fun j => RowI ns y (30 * i + j)) _ 0 _ ⟨row, _, _, rfl, by omega⟩ ?_ ?_
    · rintro j d e hd ⟨row, z, o4, rfl, hr⟩
      have hj : j < 30 := by
        have := (List.getElem?_eq_some_iff.mp hd).1
        simpa [rg] using this
      simp -implicitDefEqProofs -dsimp
      exact ⟨by omega, DivOk.of (n := 20) (by decide) (by decide) (by decide), fun _ => ⟨row ++ [z.fmod 60], _, _, _, by rw [List.map_append]; rfl, by simp; omega⟩, fun _ => ⟨row ++ [z.fmod 60], _, _, by rw [List.map_append]; rfl, by simp; omega⟩⟩
    · rintro e ⟨row, z, o4, rfl, hr⟩
      have : (rg 0 30).length = 30 := by simp [rg]
      exact ⟨row, _, _, _, rfl, by omega⟩
  · rintro e ⟨row, o2, o3, o4, rfl, hr⟩
    have : (ys.map D.int).length ≤ 63 := by
      rw [List.length_map]
      omega
    simp -implicitDefEqProofs -dsimp
    exact ⟨row, rfl, by omega⟩
theorem some_ok {c : Nat} {tp : List D} {n : Int} {k : Nat} (h : Tp c tp) (hc : c < 90000) (hn : 0 ≤ n) (hb : Bd k n) (hk : k ≤ 5000) : Wp (F__law_some [.bor tp, .int n]) (TpQ (c + 2) fun d => ∃ m, d = .int m ∧ 0 ≤ m ∧ m ≤ n) := by
  unfold F__law_some
  rw [wp_runF]
  simp -implicitDefEqProofs -dsimp
  refine (next_ok h (by omega) (by decide)).imp ?_
  rintro _ outs ⟨⟨m, rfl, h1, h2⟩, tp1, ho, T1⟩
  have up : ∀ {tp}, Tp (c + 1) tp → Tp (c + 2) tp := fun ⟨r, n, e, a, b⟩ => ⟨r, n, e, by omega, b⟩
  simp -implicitDefEqProofs -dsimp [putO_one ho]
  refine ⟨fun _ => ⟨⟨_, rfl, by omega, hn⟩, _, rfl, up T1⟩, fun _ => ⟨fun _ => ⟨⟨_, rfl, hn, by omega⟩, _, rfl, up T1⟩, fun _ => ?_⟩⟩
  refine (next_ok T1 (by omega) (by decide)).imp ?_
  rintro _ outs ⟨⟨q, rfl, q1, q2⟩, tp2, ho2, T2⟩
  simp -implicitDefEqProofs -dsimp [putO_one ho2]
  have b60 : Bd 20 q := Nat.lt_of_lt_of_le (show q.natAbs < 60 by omega) (by decide)
  refine ⟨MulOk.of hb b60 (by omega), DivOk.of (n := 20) (by decide) (by decide) (by decide), ⟨_, rfl, ?_, ?_⟩, _, rfl, T2⟩
  · exact Int.fdiv_nonneg (Int.mul_nonneg hn q1) (by decide)
  · rw [Int.fdiv_eq_ediv_of_nonneg _ (by decide)]
    refine Int.ediv_le_of_le_mul (by decide) ?_
    exact Int.mul_le_mul_of_nonneg_left (by omega) hn
def WholeI (c : Nat) (g : Int) (i : Nat) (e : DL.Env) : Prop := ∃ tp m o3, Tp (c + 1 + i) tp ∧ e = [some (.bor tp), some (.int g), some (.int m), o3] ∧ 1 ≤ m ∧ m < 2 ^ (4 + 6 * i)
theorem whole_ok {c : Nat} {tp : List D} {g : Int} (h : Tp c tp) (hc : c < 90000) : Wp (F__law_whole [.bor tp, .int g]) (TpQ (c + 13) fun d => ∃ m, d = .int m ∧ 1 ≤ m ∧ Bd 80 m) := by
  unfold F__law_whole
  rw [wp_runF]
  simp -implicitDefEqProofs -dsimp
  refine (next_ok h (by omega) (by decide)).imp ?_
  rintro _ outs ⟨⟨m, rfl, h1, h2⟩, tp1, ho, T1⟩
  simp -implicitDefEqProofs -dsimp [putO_one ho]
  refine ⟨fun _ => ?_, fun _ => ⟨⟨_, rfl, by omega, Nat.lt_of_lt_of_le (show (1 + m).natAbs < 60 by omega) (by decide)⟩, _, rfl, ?_⟩⟩
  · refine wp_forL (WholeI c g) _ 0 _ ⟨tp1, _, none, T1, rfl, by omega, by omega⟩ ?_ ?_
    · rintro i d e hd ⟨tp, m, o3, T, rfl, m1, m2⟩
      have hi : i < 12 := by
        have := (List.getElem?_eq_some_iff.mp hd).1
        simpa [rg] using this
      obtain ⟨v, _, rfl⟩ := List.mem_map.mp (List.mem_of_getElem? hd)
      rw [Nat.zero_add] at T m2
      have bm : Bd 200 m := by
        refine Nat.lt_of_lt_of_le (m := 2 ^ (4 + 6 * i)) ?_ (Nat.pow_le_pow_right (by decide) (by omega))
        have : ((m.natAbs : Nat) : Int) < ((2 ^ (4 + 6 * i) : Nat) : Int) := by
          rw [Int.natAbs_of_nonneg (by omega)]
          exact_mod_cast m2
        exact_mod_cast this
      simp -implicitDefEqProofs -dsimp
      refine ⟨MulOk.of bm (n := 20) (by decide) (by decide), ?_⟩
      refine (next_ok T (by omega) (by decide)).imp ?_
      rintro _ outs ⟨⟨q, rfl, q1, q2⟩, tp2, ho2, T2⟩
      simp -implicitDefEqProofs -dsimp [putO_one ho2]
      refine ⟨tp2, _, _, T2, rfl, by omega, ?_⟩
      have e : (2 : Int) ^ (4 + 6 * (i + 1)) = 2 ^ (4 + 6 * i) * 64 := by
        rw [show 4 + 6 * (i + 1) = (4 + 6 * i) + 6 by omega, Int.pow_add]
        rfl
      rw [e]
      omega
    · rintro e ⟨tp, m, o3, T, rfl, m1, m2⟩
      have e12 : (rg 0 12).length = 12 := by simp [rg]
      rw [e12] at T m2
      simp -implicitDefEqProofs -dsimp
      refine ⟨⟨_, rfl, m1, ?_⟩, _, rfl, ?_⟩
      · unfold Bd
        have : (m.natAbs : Int) < ((2 ^ 80 : Nat) : Int) := by
          rw [Int.natAbs_of_nonneg (by omega)]
          refine Int.lt_of_lt_of_le m2 (by decide)
        exact_mod_cast this
      · exact T
  · obtain ⟨r, n, e, a, b⟩ := T1
    exact ⟨r, n, e, by omega, b⟩
/-! reducing -/
def red (xs : List Int) : List Int := xs.map fun p => p.fdiv (gcdAll xs)
theorem gcdAll_step (xs : List Int) (g : Nat) : xs.foldl (fun (g : Nat) (n : Int) => g.gcd n.natAbs) g = g.gcd (gcdAll xs) := by
  unfold gcdAll
  induction xs generalizing g with
  | nil => simp
  | cons x xs ih =>
    rw [List.foldl_cons, List.foldl_cons, ih, ih (Nat.gcd 0 x.natAbs), Nat.gcd_assoc, Nat.gcd_zero_left]
theorem gcdAll_cons (x : Int) (xs : List Int) : gcdAll (x :: xs) = Nat.gcd x.natAbs (gcdAll xs) := by
  conv => lhs; unfold gcdAll
  rw [List.foldl_cons, gcdAll_step, Nat.gcd_zero_left]
theorem gcdAll_dvd {xs : List Int} {x : Int} (h : x ∈ xs) : (gcdAll xs : Int) ∣ x := by
  induction xs with
  | nil => cases h
  | cons y xs ih =>
    rw [gcdAll_cons]
    rcases List.mem_cons.mp h with rfl | h
    · exact Int.dvd_natAbs.mp (Int.natCast_dvd_natCast.mpr (Nat.gcd_dvd_left _ _))
    · exact Int.dvd_trans (Int.natCast_dvd_natCast.mpr (Nat.gcd_dvd_right _ _)) (ih h)
theorem gcdAll_pos {xs : List Int} {w : Int} (h : w ∈ xs) (hw : 1 ≤ w) : 0 < gcdAll xs ∧ (gcdAll xs : Int) ≤ w := by
  have d := gcdAll_dvd h
  have : (gcdAll xs : Int) ≤ w := Int.le_of_dvd (by omega) d
  refine ⟨?_, this⟩
  rcases Nat.eq_zero_or_pos (gcdAll xs) with z | z
  · rw [z] at d
    have : w = 0 := Int.zero_dvd.mp d
    omega
  · exact z
theorem gcdAll_mul (t : Nat) (xs : List Int) : gcdAll (xs.map fun p => (t : Int) * p) = t * gcdAll xs := by
  induction xs with
  | nil => rfl
  | cons x xs ih => rw [List.map_cons, gcdAll_cons, gcdAll_cons, ih, Int.natAbs_mul, Int.natAbs_natCast, Nat.gcd_mul_left]
theorem red_mul {t : Nat} (ht : 0 < t) (xs : List Int) : red (xs.map fun p => (t : Int) * p) = red xs := by
  unfold red
  rw [gcdAll_mul, List.map_map]
  apply List.map_congr_left
  intro p _
  show ((t : Int) * p).fdiv ((t * gcdAll xs : Nat) : Int) = _
  rw [Int.natCast_mul, Int.fdiv_eq_ediv_of_nonneg _ (Int.mul_nonneg (by omega) (by omega)), Int.fdiv_eq_ediv_of_nonneg _ (by omega)]
  exact Int.mul_ediv_mul_of_pos _ _ (by omega)
theorem red_back {xs : List Int} {w : Int} (h : w ∈ xs) (hw : 1 ≤ w) : xs = (red xs).map fun p => (gcdAll xs : Int) * p := by
  unfold red
  rw [List.map_map]
  conv => lhs; rw [← List.map_id xs]
  apply List.map_congr_left
  intro p m
  show p = (gcdAll xs : Int) * p.fdiv (gcdAll xs)
  rw [Int.fdiv_eq_ediv_of_nonneg _ (by omega), Int.mul_ediv_cancel' (gcdAll_dvd m)]
theorem red_one {xs : List Int} {w : Int} (h : w ∈ xs) (hw : 1 ≤ w) : gcdAll (red xs) = 1 := by
  have e := congrArg gcdAll (red_back h hw)
  rw [gcdAll_mul] at e
  have p := (gcdAll_pos h hw).1
  have : gcdAll xs * 1 = gcdAll xs * gcdAll (red xs) := by rw [Nat.mul_one]; exact e
  exact (Nat.eq_of_mul_eq_mul_left p this).symm
theorem red_red {xs : List Int} {w : Int} (h : w ∈ xs) (hw : 1 ≤ w) : red (red xs) = red xs := by
  conv => lhs; unfold red
  rw [show gcdAll (xs.map fun p => p.fdiv (gcdAll xs)) = 1 from red_one h hw]
  conv => rhs; rw [← List.map_id (red xs)]
  apply List.map_congr_left
  intro p _
  show p.fdiv 1 = p
  simp
/-! reducing in the law -/
theorem red_loop {Q : Fl → DL.Env → Prop} {d : D} (hd : seeD 0 d = d) : ∀ (xs : List Int) (g : Nat) (o : Option D), (∀ x ∈ xs, Bd 2000 x) → (∀ o, Q .nx [some d, some (.int ((xs.foldl (fun (g : Nat) (n : Int) => g.gcd n.natAbs) g : Nat) : Int)), o]) →
    Wp (forL (gN 2) (sAsg 1 (eCall 2 F__law_gcd (aCons (eVal 1) (aCons (eVal 2) aNil)))) (xs.map D.int) [some d, some (.int g), o]) Q := by
  intro xs
  induction xs with
  | nil => exact fun g o _ h => h o
  | cons x xs ih =>
    intro g o hb h
    simp -implicitDefEqProofs -dsimp
    refine (gcd_ok (hb x (List.mem_cons_self ..)) (by decide)).imp ?_
    rintro _ outs rfl
    simp -implicitDefEqProofs -dsimp
    exact ih (Nat.gcd g x.natAbs) _ (fun y m => hb y (List.mem_cons_of_mem _ m)) h
theorem div_comp {Q : List D → DL.Env → Prop} {d : D} {g : Int} (hg : DivOk g) : ∀ (xs acc : List Int), acc.length + xs.length < 1000 → (Q ((acc ++ xs.map fun p => p.fdiv g).map D.int) [some d, some (.int g), none]) →
    Wp (compL [2] (gN 2) tYesD (eBin dDiv (eVar 2) (eVar 1)) (xs.map D.int) (acc.map D.int) [some d, some (.int g), none]) Q := by
  intro xs
  induction xs with
  | nil => 
    intro acc _ h
    simpa using h
  | cons x xs ih =>
    intro acc hl h
    simp -implicitDefEqProofs -dsimp
    rw [List.length_cons] at hl
    refine ⟨hg, by omega, ?_⟩
    have := ih (acc ++ [x.fdiv g]) (by simp; omega) (by simpa using h)
    rw [List.map_append] at this
    exact this
theorem gcd_div {xs : List Int} {w : Int} (h : w ∈ xs) (hw : 1 ≤ w) (hb : ∀ x ∈ xs, Bd 2000 x) : DivOk (gcdAll xs : Int) := by
  obtain ⟨p1, p2⟩ := gcdAll_pos h hw
  exact DivOk.of (n := 2000) (Bd.le (hb w h) (by omega)) (by omega) (by decide)
theorem reduce_ok {d : D} {xs : List Int} {w : Int} (hd : d = tI xs ∨ d = lI xs) (h : w ∈ xs) (hw : 1 ≤ w) (hb : ∀ x ∈ xs, Bd 2000 x) (hl : xs.length < 1000) : Wp (F__law_reduce [d]) fun r _ => r = tI (red xs) := by
  have go : ∀ Q : List D → DL.Env → Prop, Q ((red xs).map D.int) [some d, some (.int (gcdAll xs : Int)), none] → Wp (compL [2] (gN 2) tYesD (eBin dDiv (eVar 2) (eVar 1)) (xs.map D.int) [] [some d, some (.int (gcdAll xs : Int)), none]) Q := fun Q q =>
    div_comp (gcd_div h hw hb) xs [] (by simpa using hl) (by simpa [red] using q)
  unfold F__law_reduce
  rw [wp_runF]
  rcases hd with rfl | rfl
  · simp -implicitDefEqProofs -dsimp
    refine red_loop (d := tI xs) rfl xs 0 _ hb fun o => ?_
    simp -implicitDefEqProofs -dsimp
    refine go _ ?_
    simp -implicitDefEqProofs -dsimp
  · simp -implicitDefEqProofs -dsimp
    refine red_loop (d := lI xs) rfl xs 0 _ hb fun o => ?_
    simp -implicitDefEqProofs -dsimp
    refine go _ ?_
    simp -implicitDefEqProofs -dsimp
theorem gcd4_eq {ns : List Int} (h : ns.length = 4 ∨ ns.length = 6) : dGcd (ns.map D.int) = some (.int (gcdAll ns)) := by
  have e : intsOf (ns.map D.int) = some ns := by
    clear h
    induction ns with
    | nil => rfl
    | cons n ns ih => rw [List.map_cons, intsOf, ih]; rfl
  unfold dGcd
  rw [e]
  show (if ns.length = 2 ∨ ns.length = 4 ∨ ns.length = 6 then some (D.int (gcdAll ns : Int)) else none) = _
  rw [if_pos (by omega)]
theorem tone_ok {r g b w : Int} (hw : 1 ≤ w) (hb : ∀ x ∈ [r, g, b, w], Bd 2000 x) : Wp (F_tone [.int r, .int g, .int b, .int w]) fun d _ => d = tI (red [r, g, b, w]) := by
  have e := gcd4_eq (ns := [r, g, b, w]) (.inl rfl)
  have k := gcd_div (xs := [r, g, b, w]) (w := w) (by simp) hw hb
  simp only [List.map_cons, List.map_nil] at e
  unfold F_tone
  rw [wp_runF]
  simp -implicitDefEqProofs -dsimp [e, k]
  rfl
theorem label_ok {k o r g b w : Int} (hw : 1 ≤ w) (hb : ∀ x ∈ [k, o, r, g, b, w], Bd 2000 x) : Wp (F_label [.int k, .int o, .int r, .int g, .int b, .int w]) fun d _ => d = tI (red [k, o, r, g, b, w]) := by
  have e := gcd4_eq (ns := [k, o, r, g, b, w]) (.inr rfl)
  have h := gcd_div (xs := [k, o, r, g, b, w]) (w := w) (by simp) hw hb
  simp only [List.map_cons, List.map_nil] at e
  unfold F_label
  rw [wp_runF]
  simp -implicitDefEqProofs -dsimp [e, h]
  rfl
@[simp] theorem rg3 : rg 0 3 = [.int 0, .int 1, .int 2] := rfl
/-- a label's parts: none great, the weight positive -/
def Lab (n : Nat) (xs : List Int) : Prop := ∃ k o r g b w : Int, xs = [k, o, r, g, b, w] ∧ 1 ≤ w ∧ ∀ x ∈ [k, o, r, g, b, w], Bd n x
theorem is_loop {Q : Fl → DL.Env → Prop} {d1 d2 : D} : ∀ (xs : List Int) (o : Option D), (∀ o, Q .nx [some d1, some d2, o]) →
    Wp (forL (gN 2) (sIf (tOrD (tNotD (tTruD (eBlt dIsi (aCons (eVar 2) (aCons (eC (.ty "int")) aNil))))) (tTruD (eBlt dIsi (aCons (eVar 2) (aCons (eC (.ty "bool")) aNil))))) (sRet (eC (.bl false))) sNext) (xs.map D.int) [some d1, some d2, o]) Q := by
  intro xs
  induction xs with
  | nil => exact fun o h => h o
  | cons x xs ih =>
    intro o h
    simp -implicitDefEqProofs -dsimp
    exact ih _ h
theorem is_ok {xs : List Int} : Wp (F__law_is [tI xs, tI xs]) fun d _ => d = .bl true := by
  unfold F__law_is
  rw [wp_runF]
  simp -implicitDefEqProofs -dsimp
  refine is_loop xs _ fun o => ?_
  simp -implicitDefEqProofs -dsimp
theorem red_at {xs : List Int} {w x : Int} (hw : w ∈ xs) (h1 : 1 ≤ w) (hx : x ∈ xs) : x = (gcdAll xs : Int) * x.fdiv (gcdAll xs) := by
  rw [Int.fdiv_eq_ediv_of_nonneg _ (by omega), Int.mul_ediv_cancel' (gcdAll_dvd hx)]
theorem red_bd {xs : List Int} {w x : Int} {n : Nat} (hw : w ∈ xs) (h1 : 1 ≤ w) (hx : x ∈ xs) (hb : Bd n x) : Bd n (x.fdiv (gcdAll xs)) := by
  refine Bd.le hb ?_
  conv => rhs; rw [red_at hw h1 hx]
  rw [Int.natAbs_mul]
  exact Nat.le_mul_of_pos_left _ (by have := (gcdAll_pos hw h1).1; omega)
theorem red_pos {xs : List Int} {w : Int} (hw : w ∈ xs) (h1 : 1 ≤ w) : 1 ≤ w.fdiv (gcdAll xs) := by
  have e := red_at hw h1 hw
  have p := (gcdAll_pos hw h1).1
  rcases Int.lt_or_le (w.fdiv (gcdAll xs)) 1 with h | h
  · have : (gcdAll xs : Int) * w.fdiv (gcdAll xs) ≤ (gcdAll xs : Int) * 0 := Int.mul_le_mul_of_nonneg_left (by omega) (by omega)
    omega
  · exact h
theorem Lab.red {n : Nat} {xs : List Int} (h : Lab n xs) : Lab n (red xs) := by
  obtain ⟨k, o, r, g, b, w, rfl, hw, hb⟩ := h
  have m : w ∈ [k, o, r, g, b, w] := by simp
  refine ⟨_, _, _, _, _, _, rfl, red_pos m hw, ?_⟩
  simp only [List.mem_cons, List.not_mem_nil, or_false]
  rintro x (rfl | rfl | rfl | rfl | rfl | rfl) <;> exact red_bd m hw (by simp) (hb _ (by simp))
theorem Lab.same {n : Nat} {xs : List Int} (h : Lab n xs) : K09.red (K09.red xs) = K09.red xs := by
  obtain ⟨k, o, r, g, b, w, rfl, hw, hb⟩ := h
  exact red_red (w := w) (by simp) hw
theorem reduce_lab {d : D} {xs : List Int} {n : Nat} (hn : n < 1800) (hd : d = tI xs ∨ d = lI xs) (h : Lab n xs) : Wp (F__law_reduce [d]) fun r _ => r = tI (red xs) := by
  obtain ⟨k, o, r, g, b, w, rfl, hw, hb⟩ := h
  exact reduce_ok (w := w) hd (by simp) hw (fun x m => (hb x m).mono (by omega)) (by simp)
theorem raw_ok {c : Nat} {tp : List D} {g : Int} (h : Tp c tp) (hc : c < 80000) : Wp (F__law_raw_label [.bor tp, .int g]) (TpQ (c + 23) fun d => ∃ xs, d = lI xs ∧ Lab 100 xs) := by
  unfold F__law_raw_label
  rw [wp_runF]
  simp -implicitDefEqProofs -dsimp
  refine (whole_ok h (by omega)).imp ?_
  rintro _ outs ⟨⟨w, rfl, w1, w2⟩, tp1, ho1, T1⟩
  simp -implicitDefEqProofs -dsimp [putO_one ho1]
  refine (some_ok T1 (by omega) (by omega) w2 (by decide)).imp ?_
  rintro _ outs ⟨⟨k, rfl, k1, k2⟩, tp2, ho2, T2⟩
  simp -implicitDefEqProofs -dsimp [putO_one ho2]
  refine (some_ok T2 (by omega) (by omega) (Bd.le w2 (by omega)) (by decide)).imp ?_
  rintro _ outs ⟨⟨o, rfl, o1, o2⟩, tp3, ho3, T3⟩
  simp -implicitDefEqProofs -dsimp [putO_one ho3]
  refine (some_ok T3 (by omega) (by omega) (Bd.le w2 (by omega)) (by decide)).imp ?_
  rintro _ outs ⟨⟨r, rfl, r1, r2⟩, tp4, ho4, T4⟩
  simp -implicitDefEqProofs -dsimp [putO_one ho4]
  refine (some_ok T4 (by omega) (by omega) (Bd.le w2 (by omega)) (by decide)).imp ?_
  rintro _ outs ⟨⟨g, rfl, g1, g2⟩, tp5, ho5, T5⟩
  simp -implicitDefEqProofs -dsimp [putO_one ho5]
  refine (some_ok T5 (by omega) (by omega) (Bd.le w2 (by omega)) (by decide)).imp ?_
  rintro _ outs ⟨⟨b, rfl, b1, b2⟩, tp6, ho6, T6⟩
  simp -implicitDefEqProofs -dsimp [putO_one ho6]
  refine ⟨⟨[k, o, r, g, b, w], rfl, k, o, r, g, b, w, rfl, w1, ?_⟩, _, rfl, T6⟩
  simp only [List.mem_cons, List.not_mem_nil, or_false]
  rintro x (rfl | rfl | rfl | rfl | rfl | rfl) <;> exact (Bd.le w2 (by omega)).mono (by decide)
theorem lab_of {n : Nat} {a b c d e f : Int} (h : 1 ≤ f) (h1 : Bd n a) (h2 : Bd n b) (h3 : Bd n c) (h4 : Bd n d) (h5 : Bd n e) (h6 : Bd n f) : Lab n [a, b, c, d, e, f] := by
  refine ⟨a, b, c, d, e, f, rfl, h, ?_⟩
  simp only [List.mem_cons, List.not_mem_nil, or_false]
  rintro x (rfl | rfl | rfl | rfl | rfl | rfl) <;> assumption
end K09
end

section
set_option maxRecDepth 100000
set_option maxHeartbeats 1000000
namespace K09
open PySem L2 DL
/-- a tone; a share -/
def Ton (n : Nat) (xs : List Int) : Prop := ∃ r g b w : Int, xs = [r, g, b, w] ∧ 1 ≤ w ∧ Bd n r ∧ Bd n g ∧ Bd n b ∧ Bd n w
def Shr (n : Nat) (xs : List Int) : Prop := ∃ m d : Int, xs = [m, d] ∧ 1 ≤ d ∧ Bd n m ∧ Bd n d
theorem Lab.six {n : Nat} {xs : List Int} (h : Lab n xs) : ∃ k o r g b w : Int, xs = [k, o, r, g, b, w] ∧ 1 ≤ w ∧ Bd n k ∧ Bd n o ∧ Bd n r ∧ Bd n g ∧ Bd n b ∧ Bd n w := by
  obtain ⟨k, o, r, g, b, w, rfl, hw, hb⟩ := h
  exact ⟨k, o, r, g, b, w, rfl, hw, hb _ (by simp), hb _ (by simp), hb _ (by simp), hb _ (by simp), hb _ (by simp), hb _ (by simp)⟩
theorem all4 {n : Nat} {a b c d : Int} (h1 : Bd n a) (h2 : Bd n b) (h3 : Bd n c) (h4 : Bd n d) : ∀ x ∈ [a, b, c, d], Bd n x := by
  simp only [List.mem_cons, List.not_mem_nil, or_false]
  rintro x (rfl | rfl | rfl | rfl) <;> assumption
theorem all6 {n : Nat} {a b c d e f : Int} (h1 : Bd n a) (h2 : Bd n b) (h3 : Bd n c) (h4 : Bd n d) (h5 : Bd n e) (h6 : Bd n f) : ∀ x ∈ [a, b, c, d, e, f], Bd n x := by
  simp only [List.mem_cons, List.not_mem_nil, or_false]
  rintro x (rfl | rfl | rfl | rfl | rfl | rfl) <;> assumption
theorem Ton.red {n : Nat} {xs : List Int} (h : Ton n xs) : Ton n (red xs) := by
  obtain ⟨r, g, b, w, rfl, hw, h1, h2, h3, h4⟩ := h
  have m : w ∈ [r, g, b, w] := by simp
  exact ⟨_, _, _, _, rfl, red_pos m hw, red_bd m hw (by simp) h1, red_bd m hw (by simp) h2, red_bd m hw (by simp) h3, red_bd m hw (by simp) h4⟩
theorem reduce_ton {d : D} {xs : List Int} {n : Nat} (hn : n < 1900) (hd : d = tI xs ∨ d = lI xs) (h : Ton n xs) : Wp (F__law_reduce [d]) fun r _ => r = tI (red xs) := by
  obtain ⟨r, g, b, w, rfl, hw, h1, h2, h3, h4⟩ := h
  exact reduce_ok (w := w) hd (by simp) hw (all4 (h1.mono (by omega)) (h2.mono (by omega)) (h3.mono (by omega)) (h4.mono (by omega))) (by simp)
theorem Lab.pos {n : Nat} {xs : List Int} (h : Lab n xs) : ∃ w ∈ xs, 1 ≤ w := by
  obtain ⟨k, o, r, g, b, w, rfl, hw, hb⟩ := h
  exact ⟨w, by simp, hw⟩
theorem Ton.pos {n : Nat} {xs : List Int} (h : Ton n xs) : ∃ w ∈ xs, 1 ≤ w := by
  obtain ⟨r, g, b, w, rfl, hw, _⟩ := h
  exact ⟨w, by simp, hw⟩
/-- two lists of one form -/
theorem red_prop {xs ys : List Int} {s t : Int} (hs : 1 ≤ s) (ht : 1 ≤ t) (h : xs.map (fun p => s * p) = ys.map fun p => t * p) : red xs = red ys := by
  obtain ⟨S, rfl⟩ := Int.eq_ofNat_of_zero_le (show 0 ≤ s by omega)
  obtain ⟨T, rfl⟩ := Int.eq_ofNat_of_zero_le (show 0 ≤ t by omega)
  rw [← red_mul (t := S) (by omega) xs, ← red_mul (t := T) (by omega) ys]
  exact congrArg red h
theorem red_of {xs : List Int} (h : ∃ w ∈ xs, 1 ≤ w) : ∃ G : Int, 1 ≤ G ∧ xs = (red xs).map fun p => G * p := by
  obtain ⟨w, hw, h1⟩ := h
  exact ⟨gcdAll xs, by have := (gcdAll_pos hw h1).1; omega, red_back hw h1⟩
/-! the operations, unreduced -/
def onL : List Int → List Int → List Int → List Int
  | [k, o, r, g, b, w], [p0, p1, p2, P], [x0, x1, x2, X] => [k * p0 * X + o * x0 * P + r * P * X, k * p1 * X + o * x1 * P + g * P * X, k * p2 * X + o * x2 * P + b * P * X, w * P * X]
  | _, _, _ => []
def sclL : List Int → List Int → List Int
  | [k, o, r, g, b, w], [n, d] => [(d - n) * w + n * k, n * o, n * r, n * g, n * b, d * w]
  | _, _ => []
def colL : List Int → List Int → List Int
  | [k, o, r, g, b, w], [x0, x1, x2, X] => [k * X, 0, r * X + o * x0, g * X + o * x1, b * X + o * x2, w * X]
  | _, _ => []
def folL : List Int → List Int → List Int
  | [k, o, r, g, b, w], [K, O, R, G, B, W] => [k * K, o * K + O * w, r * K + R * w, g * K + G * w, b * K + B * w, w * W]
  | _, _ => []
section
variable {m n : Nat}
theorem pos2 {x y : Int} (h : 1 ≤ x) (k : 1 ≤ y) : 1 ≤ x * y := by
  have := Int.mul_le_mul h k (by decide) (by omega)
  omega
theorem zbd (n : Nat) : Bd n 0 := by
  unfold Bd
  exact Nat.pos_of_ne_zero (by simp)
theorem onL_ton {a p x : List Int} (ha : Lab n a) (hp : Ton m p) (hx : Ton m x) : Ton (n + 2 * m + 5) (onL a p x) := by
  obtain ⟨k, o, r, g, b, w, rfl, hw, ak, ao, ar, ag, ab, aw⟩ := ha.six
  obtain ⟨p0, p1, p2, P, rfl, hP, bp0, bp1, bp2, bP⟩ := hp
  obtain ⟨x0, x1, x2, X, rfl, hX, bx0, bx1, bx2, bX⟩ := hx
  exact ⟨_, _, _, _, rfl, pos2 (pos2 hw hP) hX, by (apply Bd.mono; (case h => (repeat' first | assumption | apply Bd.mul | apply Bd.sub | apply Bd.add)); (case k => omega)), by (apply Bd.mono; (case h => (repeat' first | assumption | apply Bd.mul | apply Bd.sub | apply Bd.add)); (case k => omega)), by (apply Bd.mono; (case h => (repeat' first | assumption | apply Bd.mul | apply Bd.sub | apply Bd.add)); (case k => omega)), by (apply Bd.mono; (case h => (repeat' first | assumption | apply Bd.mul | apply Bd.sub | apply Bd.add)); (case k => omega))⟩
theorem sclL_lab {a s : List Int} (ha : Lab n a) (hs : Shr m s) : Lab (n + m + 5) (sclL a s) := by
  obtain ⟨k, o, r, g, b, w, rfl, hw, ak, ao, ar, ag, ab, aw⟩ := ha.six
  obtain ⟨i, d, rfl, hd, bi, bd⟩ := hs
  exact lab_of (pos2 hd hw) (by (apply Bd.mono; (case h => (repeat' first | assumption | apply Bd.mul | apply Bd.sub | apply Bd.add)); (case k => omega))) (by (apply Bd.mono; (case h => (repeat' first | assumption | apply Bd.mul | apply Bd.sub | apply Bd.add)); (case k => omega))) (by (apply Bd.mono; (case h => (repeat' first | assumption | apply Bd.mul | apply Bd.sub | apply Bd.add)); (case k => omega))) (by (apply Bd.mono; (case h => (repeat' first | assumption | apply Bd.mul | apply Bd.sub | apply Bd.add)); (case k => omega))) (by (apply Bd.mono; (case h => (repeat' first | assumption | apply Bd.mul | apply Bd.sub | apply Bd.add)); (case k => omega))) (by (apply Bd.mono; (case h => (repeat' first | assumption | apply Bd.mul | apply Bd.sub | apply Bd.add)); (case k => omega)))
theorem colL_lab {a x : List Int} (ha : Lab n a) (hx : Ton m x) : Lab (n + m + 5) (colL a x) := by
  obtain ⟨k, o, r, g, b, w, rfl, hw, ak, ao, ar, ag, ab, aw⟩ := ha.six
  obtain ⟨x0, x1, x2, X, rfl, hX, bx0, bx1, bx2, bX⟩ := hx
  exact lab_of (pos2 hw hX) (by (apply Bd.mono; (case h => (repeat' first | assumption | apply Bd.mul | apply Bd.sub | apply Bd.add)); (case k => omega))) (zbd _) (by (apply Bd.mono; (case h => (repeat' first | assumption | apply Bd.mul | apply Bd.sub | apply Bd.add)); (case k => omega))) (by (apply Bd.mono; (case h => (repeat' first | assumption | apply Bd.mul | apply Bd.sub | apply Bd.add)); (case k => omega))) (by (apply Bd.mono; (case h => (repeat' first | assumption | apply Bd.mul | apply Bd.sub | apply Bd.add)); (case k => omega))) (by (apply Bd.mono; (case h => (repeat' first | assumption | apply Bd.mul | apply Bd.sub | apply Bd.add)); (case k => omega)))
theorem folL_lab {a x : List Int} (ha : Lab n a) (hx : Lab m x) : Lab (n + m + 5) (folL a x) := by
  obtain ⟨k, o, r, g, b, w, rfl, hw, ak, ao, ar, ag, ab, aw⟩ := ha.six
  obtain ⟨K, O, R, G, B, W, rfl, hW, bK, bO, bR, bG, bB, bW⟩ := hx.six
  exact lab_of (pos2 hw hW) (by (apply Bd.mono; (case h => (repeat' first | assumption | apply Bd.mul | apply Bd.sub | apply Bd.add)); (case k => omega))) (by (apply Bd.mono; (case h => (repeat' first | assumption | apply Bd.mul | apply Bd.sub | apply Bd.add)); (case k => omega))) (by (apply Bd.mono; (case h => (repeat' first | assumption | apply Bd.mul | apply Bd.sub | apply Bd.add)); (case k => omega))) (by (apply Bd.mono; (case h => (repeat' first | assumption | apply Bd.mul | apply Bd.sub | apply Bd.add)); (case k => omega))) (by (apply Bd.mono; (case h => (repeat' first | assumption | apply Bd.mul | apply Bd.sub | apply Bd.add)); (case k => omega))) (by (apply Bd.mono; (case h => (repeat' first | assumption | apply Bd.mul | apply Bd.sub | apply Bd.add)); (case k => omega)))
theorem tone_on_ok {a p x : List Int} (ha : Lab n a) (hp : Ton m p) (hx : Ton m x) (hl : n + 2 * m < 1900) : Wp (F_tone_on [tI a, tI p, tI x]) fun d _ => d = tI (red (onL a p x)) := by
  have hT := onL_ton ha hp hx
  obtain ⟨k, o, r, g, b, w, rfl, hw, ak, ao, ar, ag, ab, aw⟩ := ha.six
  obtain ⟨p0, p1, p2, P, rfl, hP, bp0, bp1, bp2, bP⟩ := hp
  obtain ⟨x0, x1, x2, X, rfl, hX, bx0, bx1, bx2, bX⟩ := hx
  unfold F_tone_on
  rw [wp_runF]
  simp -implicitDefEqProofs -dsimp
  refine ⟨?_, ?_, ?_, ?_, ?_, ?_, ?_, ?_, ?_, ?_, ?_, ?_, ?_, ?z⟩
  case z =>
    refine (tone_ok (pos2 (pos2 hP hX) hw) (all4 (by (apply Bd.mono; (case h => (repeat' first | assumption | apply Bd.mul | apply Bd.sub | apply Bd.add)); (case k => omega))) (by (apply Bd.mono; (case h => (repeat' first | assumption | apply Bd.mul | apply Bd.sub | apply Bd.add)); (case k => omega))) (by (apply Bd.mono; (case h => (repeat' first | assumption | apply Bd.mul | apply Bd.sub | apply Bd.add)); (case k => omega))) (by (apply Bd.mono; (case h => (repeat' first | assumption | apply Bd.mul | apply Bd.sub | apply Bd.add)); (case k => omega))))).imp ?_
    rintro _ _ rfl
    simp -implicitDefEqProofs -dsimp
    have e : [k * X * p0 + o * P * x0 + P * X * r, k * X * p1 + o * P * x1 + P * X * g, k * X * p2 + o * P * x2 + P * X * b, P * X * w] = onL [k, o, r, g, b, w] [p0, p1, p2, P] [x0, x1, x2, X] := by
      show _ = [_, _, _, _]
      congr 1
      · grind
      · congr 1
        · grind
        · congr 1
          · grind
          · congr 1
            grind
    rw [e]
  all_goals (apply DL.MulOk.of; (case h => (repeat' first | assumption | apply Bd.mul | apply Bd.sub | apply Bd.add)); (case k => (repeat' first | assumption | apply Bd.mul | apply Bd.sub | apply Bd.add)); (case s => omega))
end
end K09
end

section
set_option maxRecDepth 100000
set_option maxHeartbeats 1000000
namespace K09
open PySem L2 DL
section
variable {m n : Nat}
theorem on_ok {a p x : List Int} (ha : Lab n a) (hp : Ton m p) (hx : Ton m x) (hl : n + 2 * m < 1700) : Wp (F__law_on [tI a, tI p, tI x]) fun d _ => d = tI (red (onL a p x)) := by
  have hT := onL_ton ha hp hx
  have hr := reduce_ton (by omega) (.inr rfl) hT
  obtain ⟨k, o, r, g, b, w, rfl, hw, ak, ao, ar, ag, ab, aw⟩ := ha.six
  obtain ⟨p0, p1, p2, P, rfl, hP, bp0, bp1, bp2, bP⟩ := hp
  obtain ⟨x0, x1, x2, X, rfl, hX, bx0, bx1, bx2, bX⟩ := hx
  unfold F__law_on
  rw [wp_runF]
  simp -implicitDefEqProofs -dsimp [add_own]
  have e : [D.int (k * p0 * X + o * x0 * P + r * P * X), D.int (k * p1 * X + o * x1 * P + g * P * X), D.int (k * p2 * X + o * x2 * P + b * P * X), D.int (w * P * X)] = (onL [k, o, r, g, b, w] [p0, p1, p2, P] [x0, x1, x2, X]).map D.int := rfl
  rw [e]
  refine ⟨?_, ?_, ?_, ?_, ?_, ?_, ?_, ?_, ?_, ?_, ?_, ?_, ?_, ?_, ?_, ?_, ?_, ?_, ?_, ?_, ?z⟩
  case z =>
    refine hr.imp ?_
    rintro _ _ rfl
    simp -implicitDefEqProofs -dsimp
  all_goals (apply DL.MulOk.of; (case h => (repeat' first | assumption | apply Bd.mul | apply Bd.sub | apply Bd.add)); (case k => (repeat' first | assumption | apply Bd.mul | apply Bd.sub | apply Bd.add)); (case s => omega))
theorem label_list {a : List Int} (ha : Lab n a) (hn : n < 1900) : ∀ k o r g b w : Int, a = [k, o, r, g, b, w] → Wp (F_label [.int k, .int o, .int r, .int g, .int b, .int w]) fun d _ => d = tI (red a) := by
  intro k o r g b w e
  obtain ⟨k', o', r', g', b', w', rfl, hw, ak, ao, ar, ag, ab, aw⟩ := ha.six
  simp only [List.cons.injEq, and_true] at e
  obtain ⟨rfl, rfl, rfl, rfl, rfl, rfl⟩ := e
  exact label_ok hw (all6 (ak.mono (by omega)) (ao.mono (by omega)) (ar.mono (by omega)) (ag.mono (by omega)) (ab.mono (by omega)) (aw.mono (by omega)))
theorem scaled_ok {a s : List Int} (ha : Lab n a) (hs : Shr m s) (hl : n + m < 1800) : Wp (F_scaled [tI a, tI s]) fun d _ => d = tI (red (sclL a s)) := by
  have hL := label_list (sclL_lab ha hs) (by omega)
  obtain ⟨k, o, r, g, b, w, rfl, hw, ak, ao, ar, ag, ab, aw⟩ := ha.six
  obtain ⟨i, d, rfl, hd, bi, bd⟩ := hs
  unfold F_scaled
  rw [wp_runF]
  simp -implicitDefEqProofs -dsimp
  refine ⟨?_, ?_, ?_, ?_, ?_, ?_, ?_, ?z⟩
  case z =>
    refine (hL _ _ _ _ _ _ rfl).imp ?_
    rintro _ _ rfl
    simp -implicitDefEqProofs -dsimp
  all_goals (apply DL.MulOk.of; (case h => (repeat' first | assumption | apply Bd.mul | apply Bd.sub | apply Bd.add)); (case k => (repeat' first | assumption | apply Bd.mul | apply Bd.sub | apply Bd.add)); (case s => omega))
theorem lscaled_ok {a s : List Int} (ha : Lab n a) (hs : Shr m s) (hl : n + m < 1700) : Wp (F__law_scaled [tI a, tI s]) fun d _ => d = tI (red (sclL a s)) := by
  have hL := reduce_lab (by omega) (.inr rfl) (sclL_lab ha hs)
  obtain ⟨k, o, r, g, b, w, rfl, hw, ak, ao, ar, ag, ab, aw⟩ := ha.six
  obtain ⟨i, d, rfl, hd, bi, bd⟩ := hs
  unfold F__law_scaled
  rw [wp_runF]
  simp -implicitDefEqProofs -dsimp [add_own]
  have e : [D.int ((d - i) * w + i * k), D.int (i * o), D.int (i * r), D.int (i * g), D.int (i * b), D.int (d * w)] = (sclL [k, o, r, g, b, w] [i, d]).map D.int := rfl
  rw [e]
  refine ⟨?_, ?_, ?_, ?_, ?_, ?_, ?_, ?z⟩
  case z =>
    refine hL.imp ?_
    rintro _ _ rfl
    simp -implicitDefEqProofs -dsimp
  all_goals (apply DL.MulOk.of; (case h => (repeat' first | assumption | apply Bd.mul | apply Bd.sub | apply Bd.add)); (case k => (repeat' first | assumption | apply Bd.mul | apply Bd.sub | apply Bd.add)); (case s => omega))
theorem coloured_ok {a s : List Int} (ha : Lab n a) (hs : Ton m s) (hl : n + m < 1700) : Wp (F_coloured [tI a, tI s]) fun d _ => d = tI (red (colL a s)) := by
  have hL := label_list (colL_lab ha hs) (by omega)
  obtain ⟨k, o, r, g, b, w, rfl, hw, ak, ao, ar, ag, ab, aw⟩ := ha.six
  obtain ⟨x0, x1, x2, X, rfl, hX, bx0, bx1, bx2, bX⟩ := hs
  unfold F_coloured
  rw [wp_runF]
  simp -implicitDefEqProofs -dsimp
  refine ⟨?_, ?_, ?_, ?_, ?_, ?_, ?_, ?_, ?z⟩
  case z =>
    refine (hL _ _ _ _ _ _ rfl).imp ?_
    rintro _ _ rfl
    simp -implicitDefEqProofs -dsimp
  all_goals (apply DL.MulOk.of; (case h => (repeat' first | assumption | apply Bd.mul | apply Bd.sub | apply Bd.add)); (case k => (repeat' first | assumption | apply Bd.mul | apply Bd.sub | apply Bd.add)); (case s => omega))
theorem lcoloured_ok {a s : List Int} (ha : Lab n a) (hs : Ton m s) (hl : n + m < 1700) : Wp (F__law_coloured [tI a, tI s]) fun d _ => d = tI (red (colL a s)) := by
  have hL := reduce_lab (by omega) (.inr rfl) (colL_lab ha hs)
  obtain ⟨k, o, r, g, b, w, rfl, hw, ak, ao, ar, ag, ab, aw⟩ := ha.six
  obtain ⟨x0, x1, x2, X, rfl, hX, bx0, bx1, bx2, bX⟩ := hs
  unfold F__law_coloured
  rw [wp_runF]
  simp -implicitDefEqProofs -dsimp [add_own]
  have e : [D.int (k * X), D.int 0, D.int (r * X + o * x0), D.int (g * X + o * x1), D.int (b * X + o * x2), D.int (w * X)] = (colL [k, o, r, g, b, w] [x0, x1, x2, X]).map D.int := rfl
  rw [e]
  refine ⟨?_, ?_, ?_, ?_, ?_, ?_, ?_, ?_, ?z⟩
  case z =>
    refine hL.imp ?_
    rintro _ _ rfl
    simp -implicitDefEqProofs -dsimp
  all_goals (apply DL.MulOk.of; (case h => (repeat' first | assumption | apply Bd.mul | apply Bd.sub | apply Bd.add)); (case k => (repeat' first | assumption | apply Bd.mul | apply Bd.sub | apply Bd.add)); (case s => omega))
theorem lfollow_ok {a s : List Int} (ha : Lab n a) (hs : Lab m s) (hl : n + m < 1700) : Wp (F__law_follow [tI a, tI s]) fun d _ => d = tI (red (folL a s)) := by
  have hL := reduce_lab (by omega) (.inr rfl) (folL_lab ha hs)
  obtain ⟨k, o, r, g, b, w, rfl, hw, ak, ao, ar, ag, ab, aw⟩ := ha.six
  obtain ⟨K, O, R, G, B, W, rfl, hW, bK, bO, bR, bG, bB, bW⟩ := hs.six
  unfold F__law_follow
  rw [wp_runF]
  simp -implicitDefEqProofs -dsimp [add_own]
  have e : [D.int (k * K), D.int (o * K + O * w), D.int (r * K + R * w), D.int (g * K + G * w), D.int (b * K + B * w), D.int (w * W)] = (folL [k, o, r, g, b, w] [K, O, R, G, B, W]).map D.int := rfl
  rw [e]
  refine ⟨?_, ?_, ?_, ?_, ?_, ?_, ?_, ?_, ?_, ?_, ?z⟩
  case z =>
    refine hL.imp ?_
    rintro _ _ rfl
    simp -implicitDefEqProofs -dsimp
  all_goals (apply DL.MulOk.of; (case h => (repeat' first | assumption | apply Bd.mul | apply Bd.sub | apply Bd.add)); (case k => (repeat' first | assumption | apply Bd.mul | apply Bd.sub | apply Bd.add)); (case s => omega))
end
end K09
end

section
set_option maxRecDepth 100000
set_option maxHeartbeats 1000000
namespace K09
open PySem L2 DL
section
variable {m n : Nat}
abbrev same : List Int := [1, 0, 0, 0, 0, 1]
theorem follow_ok {a s : List Int} (ha : Lab n a) (hs : Lab m s) (ra : red a = a) (rs : red s = s) (hl : n + m < 1700) : Wp (F_follow [tI a, tI s]) fun d _ => d = tI (red (folL a s)) := by
  have hL := label_list (folL_lab ha hs) (by omega)
  have dA : ∀ x : List Int, dEq (.tup (x.map D.int)) c_SAME = some (.bl (decide (x = same))) := fun x => eq_tI (ys := same)
  have rC : ∀ e : DL.Env, DL.rs e c_SAME = c_SAME := fun _ => rfl
  unfold F_follow
  rw [wp_runF]
  by_cases h1 : a = same
  · have q : red (folL a s) = s := by
      subst h1
      obtain ⟨K, O, R, G, B, W, rfl, hW, bK, bO, bR, bG, bB, bW⟩ := hs.six
      rw [show folL same [K, O, R, G, B, W] = [K, O, R, G, B, W] by simp [folL]]
      exact rs
    have t1 : decide (a = same) = true := decide_eq_true h1
    simp -implicitDefEqProofs -dsimp [rC, dA, t1, q]
  · have f1 : decide (a = same) = false := decide_eq_false h1
    by_cases h2 : s = same
    · have q : red (folL a s) = a := by
        subst h2
        obtain ⟨k, o, r, g, b, w, rfl, hw, ak, ao, ar, ag, ab, aw⟩ := ha.six
        rw [show folL [k, o, r, g, b, w] same = [k, o, r, g, b, w] by simp [folL]]
        exact ra
      have t2 : decide (s = same) = true := decide_eq_true h2
      simp -implicitDefEqProofs -dsimp [rC, dA, f1, t2, q]
    · have f2 : decide (s = same) = false := decide_eq_false h2
      simp -implicitDefEqProofs -dsimp [rC, dA, f1, f2]
      obtain ⟨k, o, r, g, b, w, rfl, hw, ak, ao, ar, ag, ab, aw⟩ := ha.six
      obtain ⟨K, O, R, G, B, W, rfl, hW, bK, bO, bR, bG, bB, bW⟩ := hs.six
      simp -implicitDefEqProofs -dsimp
      refine ⟨?_, ?_, ?_, ?_, ?_, ?_, ?_, ?_, ?_, ?_, ?z⟩
      case z =>
        refine (hL (K * k) (K * o + O * w) (K * r + R * w) (K * g + G * w) (K * b + B * w) (W * w) (by simp [folL, Int.mul_comm])).imp ?_
        rintro _ _ rfl
        simp -implicitDefEqProofs -dsimp
      all_goals (apply DL.MulOk.of; (case h => (repeat' first | assumption | apply Bd.mul | apply Bd.sub | apply Bd.add)); (case k => (repeat' first | assumption | apply Bd.mul | apply Bd.sub | apply Bd.add)); (case s => omega))
end
end K09
end

section
set_option maxRecDepth 100000
set_option maxHeartbeats 1000000
namespace K09
open PySem L2 DL
section
variable {m n : Nat}
theorem eq_tup_own {xs : List Int} : dEq (.tup (xs.map D.int)) (.str "own") = some (.bl false) := by
  rw [eq_of_py (x := tI xs) (y := .str "own") (q := .str "own") rfl (toPy_tI xs) (by show toPy _ = _; rw [toPy]) (shp_tI xs) (by decide +kernel), PyData.eqv]
def ownL : List Int → List Int
  | [n, d] => [d - n, n, 0, 0, 0, d]
  | _ => []
def pntL : List Int → List Int → List Int
  | [r, g, b, w], [n, d] => [(d - n) * w, 0, n * r, n * g, n * b, d * w]
  | _, _ => []
theorem ownL_lab {s : List Int} (hs : Shr m s) : Lab (m + 5) (ownL s) := by
  obtain ⟨i, d, rfl, hd, bi, bd⟩ := hs
  exact lab_of hd (by (apply Bd.mono; (case h => (repeat' first | assumption | apply Bd.mul | apply Bd.sub | apply Bd.add)); (case k => omega))) (by (apply Bd.mono; (case h => (repeat' first | assumption | apply Bd.mul | apply Bd.sub | apply Bd.add)); (case k => omega))) (zbd _) (zbd _) (zbd _) (by (apply Bd.mono; (case h => (repeat' first | assumption | apply Bd.mul | apply Bd.sub | apply Bd.add)); (case k => omega)))
theorem pntL_lab {x s : List Int} (hx : Ton n x) (hs : Shr m s) : Lab (n + m + 5) (pntL x s) := by
  obtain ⟨r, g, b, w, rfl, hw, br, bg, bb, bw⟩ := hx
  obtain ⟨i, d, rfl, hd, bi, bd⟩ := hs
  exact lab_of (pos2 hd hw) (by (apply Bd.mono; (case h => (repeat' first | assumption | apply Bd.mul | apply Bd.sub | apply Bd.add)); (case k => omega))) (zbd _) (by (apply Bd.mono; (case h => (repeat' first | assumption | apply Bd.mul | apply Bd.sub | apply Bd.add)); (case k => omega))) (by (apply Bd.mono; (case h => (repeat' first | assumption | apply Bd.mul | apply Bd.sub | apply Bd.add)); (case k => omega))) (by (apply Bd.mono; (case h => (repeat' first | assumption | apply Bd.mul | apply Bd.sub | apply Bd.add)); (case k => omega))) (by (apply Bd.mono; (case h => (repeat' first | assumption | apply Bd.mul | apply Bd.sub | apply Bd.add)); (case k => omega)))
theorem paint_own {s : List Int} (hs : Shr m s) (hl : m < 1700) : Wp (F_paint_label [.str "own", tI s]) fun d _ => d = tI (red (ownL s)) := by
  have hL := label_list (ownL_lab hs) (by omega)
  obtain ⟨i, d, rfl, hd, bi, bd⟩ := hs
  unfold F_paint_label
  rw [wp_runF]
  simp -implicitDefEqProofs -dsimp
  refine (hL _ _ _ _ _ _ rfl).imp ?_
  rintro _ _ rfl
  simp -implicitDefEqProofs -dsimp
theorem paint_ink {x s : List Int} (hx : Ton n x) (hs : Shr m s) (hl : n + m < 1700) : Wp (F_paint_label [tI x, tI s]) fun d _ => d = tI (red (pntL x s)) := by
  have hL := label_list (pntL_lab hx hs) (by omega)
  have e := eq_tup_own (xs := x)
  obtain ⟨r, g, b, w, rfl, hw, br, bg, bb, bw⟩ := hx
  obtain ⟨i, d, rfl, hd, bi, bd⟩ := hs
  simp only [List.map_cons, List.map_nil] at e
  unfold F_paint_label
  rw [wp_runF]
  simp -implicitDefEqProofs -dsimp [e]
  refine ⟨?_, ?_, ?_, ?_, ?_, ?z⟩
  case z =>
    refine (hL _ _ _ _ _ _ rfl).imp ?_
    rintro _ _ rfl
    simp -implicitDefEqProofs -dsimp
  all_goals (apply DL.MulOk.of; (case h => (repeat' first | assumption | apply Bd.mul | apply Bd.sub | apply Bd.add)); (case k => (repeat' first | assumption | apply Bd.mul | apply Bd.sub | apply Bd.add)); (case s => omega))
theorem lpaint_own {s : List Int} (hs : Shr m s) (hl : m < 1600) : Wp (F__law_paint [.str "own", tI s]) fun d _ => d = tI (red (ownL s)) := by
  have hL := reduce_lab (by omega) (.inr rfl) (ownL_lab hs)
  obtain ⟨i, d, rfl, hd, bi, bd⟩ := hs
  unfold F__law_paint
  rw [wp_runF]
  simp -implicitDefEqProofs -dsimp
  refine hL.imp ?_
  rintro _ _ rfl
  simp -implicitDefEqProofs -dsimp
theorem lpaint_ink {x s : List Int} (hx : Ton n x) (hs : Shr m s) (hl : n + m < 1700) : Wp (F__law_paint [tI x, tI s]) fun d _ => d = tI (red (pntL x s)) := by
  have hL := reduce_lab (by omega) (.inr rfl) (pntL_lab hx hs)
  have e := eq_tup_own (xs := x)
  obtain ⟨r, g, b, w, rfl, hw, br, bg, bb, bw⟩ := hx
  obtain ⟨i, d, rfl, hd, bi, bd⟩ := hs
  have s3 : dSlice (.tup [.int r, .int g, .int b, .int w]) none (some 3) = some (.tup [.int r, .int g, .int b]) := rfl
  simp only [List.map_cons, List.map_nil] at e
  unfold F__law_paint
  rw [wp_runF]
  simp -implicitDefEqProofs -dsimp [e, s3]
  have e : [D.int ((d - i) * w), D.int 0, D.int (i * r), D.int (i * g), D.int (i * b), D.int (d * w)] = (pntL [r, g, b, w] [i, d]).map D.int := rfl
  rw [e]
  refine ⟨?_, ?_, ?_, ?_, ?_, ?z⟩
  case z =>
    refine hL.imp ?_
    rintro _ _ rfl
    simp -implicitDefEqProofs -dsimp
  all_goals (apply DL.MulOk.of; (case h => (repeat' first | assumption | apply Bd.mul | apply Bd.sub | apply Bd.add)); (case k => (repeat' first | assumption | apply Bd.mul | apply Bd.sub | apply Bd.add)); (case s => omega))
/-! the law's parts -/
def AllT (n : Nat) (ts : List (List Int)) : Prop := ∀ t ∈ ts, Ton n t ∧ red t = t
def AllS (n : Nat) (ts : List (List Int)) : Prop := ∀ t ∈ ts, Shr n t
theorem AllS.more {ss : List (List Int)} (h : AllS 100 ss) : AllS 100 (ss ++ [[0, 1], [1, 1]]) := by
  intro t m
  rcases List.mem_append.mp m with m | m
  · exact h t m
  · simp only [List.mem_cons, List.not_mem_nil, or_false] at m
    rcases m with rfl | rfl
    · exact ⟨0, 1, rfl, by decide, zbd _, Bd.mono (show Bd 1 1 by decide) (by decide)⟩
    · exact ⟨1, 1, rfl, by decide, Bd.mono (show Bd 1 1 by decide) (by decide), Bd.mono (show Bd 1 1 by decide) (by decide)⟩
theorem bd1 {k : Nat} (h : 1 ≤ k) : Bd k 1 := Bd.mono (show Bd 1 1 by decide) h
def PaiI (a b : D) (_ : Nat) (e : DL.Env) : Prop := ∃ o2 o3, e = [some a, some b, o2, o3]
def PaiJ (a b s : D) (_ : Nat) (e : DL.Env) : Prop := ∃ o3, e = [some a, some b, some s, o3]
theorem paints_ok {ts ss : List (List Int)} (ht : AllT 100 ts) (hs : AllS 100 ss) (hl : ss.length < 1000) : Wp (F__law_paints [.lst (.str "own" :: ts.map tI), .lst (ss.map tI)]) fun d _ => d = .bl true := by
  have hM := hs.more
  unfold F__law_paints
  rw [wp_runF]
  simp -implicitDefEqProofs -dsimp
  refine ⟨by omega, ?_⟩
  have e : ss.map tI ++ [.tup [.int 0, .int 1], .tup [.int 1, .int 1]] = (ss ++ [[0, 1], [1, 1]]).map tI := by simp
  rw [e]
  refine wp_forL (PaiI (.lst (.str "own" :: ts.map tI)) (.lst (ss.map tI))) _ 0 _ ⟨_, _, rfl⟩ ?_ ?_
  · rintro i d e hd ⟨o2, o3, rfl⟩
    obtain ⟨s, ms, rfl⟩ := List.mem_map.mp (List.mem_of_getElem? hd)
    have S := hM s ms
    simp -implicitDefEqProofs -dsimp
    refine (paint_own S (by decide)).imp ?_
    rintro _ _ rfl
    simp -implicitDefEqProofs -dsimp
    refine (lpaint_own S (by decide)).imp ?_
    rintro _ _ rfl
    simp -implicitDefEqProofs -dsimp
    refine (is_ok).imp ?_
    rintro _ _ rfl
    simp -implicitDefEqProofs -dsimp
    refine wp_forL (PaiJ (.lst (.str "own" :: ts.map tI)) (.lst (ss.map tI)) (tI s)) _ 0 _ ⟨_, rfl⟩ ?_ ?_
    · rintro j d e hd ⟨o3, rfl⟩
      obtain ⟨x, mx, rfl⟩ := List.mem_map.mp (List.mem_of_getElem? hd)
      have X := (ht x mx).1
      simp -implicitDefEqProofs -dsimp
      refine (paint_ink X S (by decide)).imp ?_
      rintro _ _ rfl
      simp -implicitDefEqProofs -dsimp
      refine (lpaint_ink X S (by decide)).imp ?_
      rintro _ _ rfl
      simp -implicitDefEqProofs -dsimp
      refine (is_ok).imp ?_
      rintro _ _ rfl
      simp -implicitDefEqProofs -dsimp
      exact ⟨_, rfl⟩
    · rintro e ⟨o3, rfl⟩
      have Z : Lab 100 [0, 1, 0, 0, 0, 1] := lab_of (by decide) (zbd _) (bd1 (by decide)) (zbd _) (zbd _) (zbd _) (bd1 (by decide))
      have eo : sclL [0, 1, 0, 0, 0, 1] s = ownL s := by
        obtain ⟨i, d, rfl, hd, bi, bd⟩ := S
        simp [sclL, ownL]
      have sc := scaled_ok Z S (by decide)
      rw [eo] at sc
      simp -implicitDefEqProofs -dsimp
      refine (paint_own S (by decide)).imp ?_
      rintro _ _ rfl
      simp -implicitDefEqProofs -dsimp
      refine (sc).imp ?_
      rintro _ _ rfl
      simp -implicitDefEqProofs -dsimp
      exact ⟨_, _, rfl⟩
  · rintro e ⟨o2, o3, rfl⟩
    have S : Shr 100 [0, 1] := hM [0, 1] (by simp)
    have rC : ∀ e : DL.Env, DL.rs e c_SAME = c_SAME := fun _ => rfl
    have q : red (ownL [0, 1]) = same := by decide +kernel
    have p := paint_own S (by decide)
    rw [q] at p
    have eq : dEq (.tup (same.map D.int)) c_SAME = some (.bl true) := by
      rw [show c_SAME = .tup (same.map D.int) from rfl, eq_tI]
      simp
    simp -implicitDefEqProofs -dsimp
    refine p.imp ?_
    rintro _ _ rfl
    simp only [List.map_cons, List.map_nil] at eq
    simp -implicitDefEqProofs -dsimp [rC, eq]
theorem is_no {xs : List Int} : True := trivial
theorem formed_lab {c : Nat} {tp : List D} {xs : List Int} (h : Tp c tp) (hc : c < 80000) (hx : Lab 100 xs) : Wp (F__law_formed [.bor tp, lI xs]) (TpQ (c + 1) fun d => d = .bl true) := by
  obtain ⟨k, o, r, g, b, w, rfl, hw, ak, ao, ar, ag, ab, aw⟩ := hx.six
  unfold F__law_formed
  rw [wp_runF]
  simp -implicitDefEqProofs -dsimp
  refine (next_ok h (by omega) (by decide)).imp ?_
  rintro _ outs ⟨⟨f, rfl, f1, f2⟩, tp1, ho, T1⟩
  have bf : Bd 8 (1 + f) := Nat.lt_of_lt_of_le (show (1 + f).natAbs < 7 by omega) (by decide)
  have L : Lab 110 [(1 + f) * k, (1 + f) * o, (1 + f) * r, (1 + f) * g, (1 + f) * b, (1 + f) * w] := lab_of (pos2 (by omega) hw) (by (apply Bd.mono; (case h => (repeat' first | assumption | apply Bd.mul | apply Bd.sub | apply Bd.add)); (case k => omega))) (by (apply Bd.mono; (case h => (repeat' first | assumption | apply Bd.mul | apply Bd.sub | apply Bd.add)); (case k => omega))) (by (apply Bd.mono; (case h => (repeat' first | assumption | apply Bd.mul | apply Bd.sub | apply Bd.add)); (case k => omega))) (by (apply Bd.mono; (case h => (repeat' first | assumption | apply Bd.mul | apply Bd.sub | apply Bd.add)); (case k => omega))) (by (apply Bd.mono; (case h => (repeat' first | assumption | apply Bd.mul | apply Bd.sub | apply Bd.add)); (case k => omega))) (by (apply Bd.mono; (case h => (repeat' first | assumption | apply Bd.mul | apply Bd.sub | apply Bd.add)); (case k => omega)))
  have hr := reduce_lab (by decide) (.inr rfl) L
  have hL := label_list L (by decide) _ _ _ _ _ _ rfl
  generalize red [(1 + f) * k, (1 + f) * o, (1 + f) * r, (1 + f) * g, (1 + f) * b, (1 + f) * w] = A at *
  simp -implicitDefEqProofs -dsimp [putO_one ho]
  refine ⟨?_, ?_, ?_, ?_, ?_, ?_, ?z⟩
  case z =>
    refine (hr).imp ?_
    rintro _ _ rfl
    simp -implicitDefEqProofs -dsimp
    refine (hL).imp ?_
    rintro _ _ rfl
    simp -implicitDefEqProofs -dsimp
    refine (is_ok).imp ?_
    rintro _ _ rfl
    simp -implicitDefEqProofs -dsimp
    exact ⟨rfl, _, rfl, T1⟩
  all_goals (apply DL.MulOk.of; (case h => (repeat' first | assumption | apply Bd.mul | apply Bd.sub | apply Bd.add)); (case k => (repeat' first | assumption | apply Bd.mul | apply Bd.sub | apply Bd.add)); (case s => omega))
theorem formed_ton {c : Nat} {tp : List D} {xs : List Int} (h : Tp c tp) (hc : c < 80000) (hx : Ton 100 xs) : Wp (F__law_formed [.bor tp, lI xs]) (TpQ (c + 1) fun d => d = .bl true) := by
  obtain ⟨r, g, b, w, rfl, hw, ar, ag, ab, aw⟩ := hx
  unfold F__law_formed
  rw [wp_runF]
  simp -implicitDefEqProofs -dsimp
  refine (next_ok h (by omega) (by decide)).imp ?_
  rintro _ outs ⟨⟨f, rfl, f1, f2⟩, tp1, ho, T1⟩
  have bf : Bd 8 (1 + f) := Nat.lt_of_lt_of_le (show (1 + f).natAbs < 7 by omega) (by decide)
  have L : Ton 110 [(1 + f) * r, (1 + f) * g, (1 + f) * b, (1 + f) * w] := ⟨_, _, _, _, rfl, pos2 (by omega) hw, by (apply Bd.mono; (case h => (repeat' first | assumption | apply Bd.mul | apply Bd.sub | apply Bd.add)); (case k => omega)), by (apply Bd.mono; (case h => (repeat' first | assumption | apply Bd.mul | apply Bd.sub | apply Bd.add)); (case k => omega)), by (apply Bd.mono; (case h => (repeat' first | assumption | apply Bd.mul | apply Bd.sub | apply Bd.add)); (case k => omega)), by (apply Bd.mono; (case h => (repeat' first | assumption | apply Bd.mul | apply Bd.sub | apply Bd.add)); (case k => omega))⟩
  have hr := reduce_ton (by decide) (.inr rfl) L
  have hL := tone_ok (r := (1 + f) * r) (g := (1 + f) * g) (b := (1 + f) * b) (w := (1 + f) * w) (pos2 (by omega) hw) (all4 (by (apply Bd.mono; (case h => (repeat' first | assumption | apply Bd.mul | apply Bd.sub | apply Bd.add)); (case k => omega))) (by (apply Bd.mono; (case h => (repeat' first | assumption | apply Bd.mul | apply Bd.sub | apply Bd.add)); (case k => omega))) (by (apply Bd.mono; (case h => (repeat' first | assumption | apply Bd.mul | apply Bd.sub | apply Bd.add)); (case k => omega))) (by (apply Bd.mono; (case h => (repeat' first | assumption | apply Bd.mul | apply Bd.sub | apply Bd.add)); (case k => omega))))
  generalize red [(1 + f) * r, (1 + f) * g, (1 + f) * b, (1 + f) * w] = A at *
  simp -implicitDefEqProofs -dsimp [putO_one ho]
  refine ⟨?_, ?_, ?_, ?_, ?z⟩
  case z =>
    refine (hr).imp ?_
    rintro _ _ rfl
    simp -implicitDefEqProofs -dsimp
    refine (hL).imp ?_
    rintro _ _ rfl
    simp -implicitDefEqProofs -dsimp
    refine (is_ok).imp ?_
    rintro _ _ rfl
    simp -implicitDefEqProofs -dsimp
    exact ⟨rfl, _, rfl, T1⟩
  all_goals (apply DL.MulOk.of; (case h => (repeat' first | assumption | apply Bd.mul | apply Bd.sub | apply Bd.add)); (case k => (repeat' first | assumption | apply Bd.mul | apply Bd.sub | apply Bd.add)); (case s => omega))
end
end K09
end

section
set_option maxRecDepth 100000
set_option maxHeartbeats 1000000
namespace K09
open PySem L2 DL
section
variable {m n l : Nat}
theorem redG {G : Int} (h : 1 ≤ G) (xs : List Int) : red (xs.map fun p => G * p) = red xs := by
  obtain ⟨T, rfl⟩ := Int.eq_ofNat_of_zero_le (show 0 ≤ G by omega)
  exact red_mul (by omega) xs
theorem col_map {G k o r g b w : Int} {x : List Int} (hx : Ton m x) : colL ([k, o, r, g, b, w].map fun p => G * p) x = (colL [k, o, r, g, b, w] x).map fun p => G * p := by
  obtain ⟨x0, x1, x2, X, rfl, _⟩ := hx
  simp only [colL, List.map_cons, List.map_nil, List.cons.injEq, and_true]
  refine ⟨?_, ?_, ?_, ?_, ?_, ?_⟩ <;> grind
theorem scl_map {G k o r g b w : Int} {x : List Int} (hx : Shr m x) : sclL ([k, o, r, g, b, w].map fun p => G * p) x = (sclL [k, o, r, g, b, w] x).map fun p => G * p := by
  obtain ⟨i, d, rfl, _⟩ := hx
  simp only [sclL, List.map_cons, List.map_nil, List.cons.injEq, and_true]
  refine ⟨?_, ?_, ?_, ?_, ?_, ?_⟩ <;> grind
theorem on_map {G k o r g b w : Int} {p x : List Int} (hp : Ton m p) (hx : Ton l x) : onL ([k, o, r, g, b, w].map fun p => G * p) p x = (onL [k, o, r, g, b, w] p x).map fun p => G * p := by
  obtain ⟨p0, p1, p2, P, rfl, _⟩ := hp
  obtain ⟨x0, x1, x2, X, rfl, _⟩ := hx
  simp only [onL, List.map_cons, List.map_nil, List.cons.injEq, and_true]
  refine ⟨?_, ?_, ?_, ?_⟩ <;> grind
theorem on_map2 {G p0 p1 p2 P : Int} {a x : List Int} (ha : Lab m a) (hx : Ton l x) : onL a ([p0, p1, p2, P].map fun p => G * p) x = (onL a [p0, p1, p2, P] x).map fun p => G * p := by
  obtain ⟨k, o, r, g, b, w, rfl, _⟩ := ha.six
  obtain ⟨x0, x1, x2, X, rfl, _⟩ := hx
  simp only [onL, List.map_cons, List.map_nil, List.cons.injEq, and_true]
  refine ⟨?_, ?_, ?_, ?_⟩ <;> grind
theorem fol_map {G k o r g b w : Int} {x : List Int} (hx : Lab m x) : folL ([k, o, r, g, b, w].map fun p => G * p) x = (folL [k, o, r, g, b, w] x).map fun p => G * p := by
  obtain ⟨K, O, R, GG, B, W, rfl, _⟩ := hx.six
  simp only [folL, List.map_cons, List.map_nil, List.cons.injEq, and_true]
  refine ⟨?_, ?_, ?_, ?_, ?_, ?_⟩ <;> grind
theorem fol_map2 {G k o r g b w : Int} {x : List Int} (hx : Lab m x) : folL x ([k, o, r, g, b, w].map fun p => G * p) = (folL x [k, o, r, g, b, w]).map fun p => G * p := by
  obtain ⟨K, O, R, GG, B, W, rfl, _⟩ := hx.six
  simp only [folL, List.map_cons, List.map_nil, List.cons.injEq, and_true]
  refine ⟨?_, ?_, ?_, ?_, ?_, ?_⟩ <;> grind
theorem colH {a x : List Int} (ha : Lab n a) (hx : Ton m x) : red (colL (red a) x) = red (colL a x) := by
  obtain ⟨G, hG, e⟩ := red_of ha.pos
  obtain ⟨k, o, r, g, b, w, er, _⟩ := ha.red.six
  rw [er] at e
  conv => rhs; rw [e, col_map hx, redG hG]
  rw [er]
theorem sclH {a x : List Int} (ha : Lab n a) (hx : Shr m x) : red (sclL (red a) x) = red (sclL a x) := by
  obtain ⟨G, hG, e⟩ := red_of ha.pos
  obtain ⟨k, o, r, g, b, w, er, _⟩ := ha.red.six
  rw [er] at e
  conv => rhs; rw [e, scl_map hx, redG hG]
  rw [er]
theorem onH {a p x : List Int} (ha : Lab n a) (hp : Ton m p) (hx : Ton l x) : red (onL (red a) p x) = red (onL a p x) := by
  obtain ⟨G, hG, e⟩ := red_of ha.pos
  obtain ⟨k, o, r, g, b, w, er, _⟩ := ha.red.six
  rw [er] at e
  conv => rhs; rw [e, on_map hp hx, redG hG]
  rw [er]
theorem onH2 {a p x : List Int} (ha : Lab n a) (hp : Ton m p) (hx : Ton l x) : red (onL a (red p) x) = red (onL a p x) := by
  obtain ⟨G, hG, e⟩ := red_of hp.pos
  obtain ⟨r, g, b, w, er, _⟩ := hp.red
  rw [er] at e
  conv => rhs; rw [e, on_map2 ha hx, redG hG]
  rw [er]
theorem folH {a x : List Int} (ha : Lab n a) (hx : Lab m x) : red (folL (red a) x) = red (folL a x) := by
  obtain ⟨G, hG, e⟩ := red_of ha.pos
  obtain ⟨k, o, r, g, b, w, er, _⟩ := ha.red.six
  rw [er] at e
  conv => rhs; rw [e, fol_map hx, redG hG]
  rw [er]
theorem folH2 {a x : List Int} (ha : Lab n a) (hx : Lab m x) : red (folL a (red x)) = red (folL a x) := by
  obtain ⟨G, hG, e⟩ := red_of hx.pos
  obtain ⟨k, o, r, g, b, w, er, _⟩ := hx.red.six
  rw [er] at e
  conv => rhs; rw [e, fol_map2 ha, redG hG]
  rw [er]
theorem col_scl {a x s : List Int} (ha : Lab n a) (hx : Ton m x) (hs : Shr l s) : red (colL (red (sclL a s)) x) = red (sclL (red (colL a x)) s) := by
  rw [colH (sclL_lab ha hs) hx, sclH (colL_lab ha hx) hs]
  obtain ⟨k, o, r, g, b, w, rfl, _⟩ := ha.six
  obtain ⟨x0, x1, x2, X, rfl, _⟩ := hx
  obtain ⟨i, d, rfl, _⟩ := hs
  congr 1
  simp only [sclL, colL, List.cons.injEq, and_true]
  refine ⟨?_, ?_, ?_, ?_, ?_, ?_⟩ <;> grind
theorem on_col {a p x y : List Int} (ha : Lab n a) (hp : Ton m p) (hx : Ton l x) (hy : Ton l y) : red (onL (red (colL a x)) p y) = red (onL a p x) := by
  rw [onH (colL_lab ha hx) hp hy]
  obtain ⟨k, o, r, g, b, w, rfl, _⟩ := ha.six
  obtain ⟨x0, x1, x2, X, rfl, _⟩ := hx
  obtain ⟨y0, y1, y2, Y, rfl, hY, _⟩ := hy
  obtain ⟨p0, p1, p2, P, rfl, _⟩ := hp
  refine red_prop (s := 1) (t := Y) (by decide) hY ?_
  simp only [onL, colL, List.map_cons, List.map_nil, List.cons.injEq, and_true]
  refine ⟨?_, ?_, ?_, ?_⟩ <;> grind
theorem on_fol {a b p x : List Int} (ha : Lab n a) (hb : Lab n b) (hp : Ton m p) (hx : Ton m x) : red (onL (red (folL a b)) p x) = red (onL b (red (onL a p x)) x) := by
  rw [onH (folL_lab ha hb) hp hx, onH2 hb (onL_ton ha hp hx) hx]
  obtain ⟨k, o, r, g, b, w, rfl, _⟩ := ha.six
  obtain ⟨K, O, R, GG, B, W, rfl, _⟩ := hb.six
  obtain ⟨x0, x1, x2, X, rfl, hX, _⟩ := hx
  obtain ⟨p0, p1, p2, P, rfl, _⟩ := hp
  refine red_prop (s := X) (t := 1) hX (by decide) ?_
  simp only [onL, folL, List.map_cons, List.map_nil, List.cons.injEq, and_true]
  refine ⟨?_, ?_, ?_, ?_⟩ <;> grind
theorem fol_fol {a b c : List Int} (ha : Lab n a) (hb : Lab n b) (hc : Lab n c) : red (folL (red (folL a b)) c) = red (folL a (red (folL b c))) := by
  rw [folH (folL_lab ha hb) hc, folH2 ha (folL_lab hb hc)]
  obtain ⟨k, o, r, g, b, w, rfl, _⟩ := ha.six
  obtain ⟨K, O, R, GG, B, W, rfl, _⟩ := hb.six
  obtain ⟨k2, o2, r2, g2, b2, w2, rfl, _⟩ := hc.six
  congr 1
  simp only [folL, List.cons.injEq, and_true]
  refine ⟨?_, ?_, ?_, ?_, ?_, ?_⟩ <;> grind
theorem scl01 {a : List Int} (ha : Lab n a) : red (sclL a [0, 1]) = same := by
  obtain ⟨k, o, r, g, b, w, rfl, hw, _⟩ := ha.six
  have e : sclL [k, o, r, g, b, w] [0, 1] = same.map fun p => w * p := by
    simp [sclL]
  rw [e, redG hw]
  decide +kernel
theorem scl11 {a : List Int} (ha : Lab n a) : sclL a [1, 1] = a := by
  obtain ⟨k, o, r, g, b, w, rfl, hw, _⟩ := ha.six
  simp [sclL]
theorem same_lab : Lab 100 same := lab_of (by decide) (bd1 (by decide)) (zbd _) (zbd _) (zbd _) (zbd _) (bd1 (by decide))
theorem same_red : red same = same := by decide +kernel
theorem fol1 {a : List Int} (ha : Lab n a) : folL same a = a := by
  obtain ⟨k, o, r, g, b, w, rfl, hw, _⟩ := ha.six
  simp [folL]
theorem fol2 {a : List Int} (ha : Lab n a) : folL a same = a := by
  obtain ⟨k, o, r, g, b, w, rfl, hw, _⟩ := ha.six
  simp [folL]
end
end K09
end

section
set_option maxRecDepth 100000
set_option maxHeartbeats 1000000
namespace K09
open PySem L2 DL
theorem Ton.mono {m n : Nat} {xs : List Int} (h : Ton m xs) (q : m ≤ n) : Ton n xs := by
  obtain ⟨r, g, b, w, rfl, hw, h1, h2, h3, h4⟩ := h
  exact ⟨r, g, b, w, rfl, hw, h1.mono q, h2.mono q, h3.mono q, h4.mono q⟩
theorem raw_tone_ok {c : Nat} {tp : List D} {g : Int} (h : Tp c tp) (hc : c < 80000) : Wp (F__law_raw_tone [.bor tp, .int g]) (TpQ (c + 19) fun d => ∃ xs, d = lI xs ∧ Ton 100 xs) := by
  unfold F__law_raw_tone
  rw [wp_runF]
  simp -implicitDefEqProofs -dsimp
  refine (whole_ok h (by omega)).imp ?_
  rintro _ outs ⟨⟨w, rfl, w1, w2⟩, tp1, ho1, T1⟩
  simp -implicitDefEqProofs -dsimp [putO_one ho1]
  refine (some_ok T1 (by omega) (by omega) w2 (by decide)).imp ?_
  rintro _ outs ⟨⟨r, rfl, r1, r2⟩, tp2, ho2, T2⟩
  simp -implicitDefEqProofs -dsimp [putO_one ho2]
  refine (some_ok T2 (by omega) (by omega) w2 (by decide)).imp ?_
  rintro _ outs ⟨⟨g, rfl, g1, g2⟩, tp3, ho3, T3⟩
  simp -implicitDefEqProofs -dsimp [putO_one ho3]
  refine (some_ok T3 (by omega) (by omega) w2 (by decide)).imp ?_
  rintro _ outs ⟨⟨b, rfl, b1, b2⟩, tp4, ho4, T4⟩
  simp -implicitDefEqProofs -dsimp [putO_one ho4]
  exact ⟨⟨[r, g, b, w], rfl, r, g, b, w, rfl, w1, (Bd.le w2 (by omega)).mono (by decide), (Bd.le w2 (by omega)).mono (by decide), (Bd.le w2 (by omega)).mono (by decide), w2.mono (by decide)⟩, _, rfl, T4⟩
theorem share_ok {c : Nat} {tp : List D} {g : Int} (h : Tp c tp) (hc : c < 80000) : Wp (F__law_share [.bor tp, .int g]) (TpQ (c + 15) fun d => ∃ xs, d = tI xs ∧ Shr 100 xs) := by
  unfold F__law_share
  rw [wp_runF]
  simp -implicitDefEqProofs -dsimp
  refine (whole_ok h (by omega)).imp ?_
  rintro _ outs ⟨⟨w, rfl, w1, w2⟩, tp1, ho1, T1⟩
  simp -implicitDefEqProofs -dsimp [putO_one ho1]
  refine (some_ok T1 (by omega) (by omega) w2 (by decide)).imp ?_
  rintro _ outs ⟨⟨r, rfl, r1, r2⟩, tp2, ho2, T2⟩
  simp -implicitDefEqProofs -dsimp [putO_one ho2]
  refine (gcd_ok w2 (by decide)).imp ?_
  rintro _ outs rfl
  have gp : 0 < Nat.gcd r.natAbs w.natAbs := Nat.gcd_pos_of_pos_right _ (by omega)
  have gl : Nat.gcd r.natAbs w.natAbs ≤ w.natAbs := Nat.gcd_le_right _ (by omega)
  have gd : ((Nat.gcd r.natAbs w.natAbs : Nat) : Int) ∣ w := Int.dvd_natAbs.mp (Int.natCast_dvd_natCast.mpr (Nat.gcd_dvd_right _ _))
  generalize Nat.gcd r.natAbs w.natAbs = G at *
  have dG : DivOk (G : Int) := DivOk.of (n := 80) (Bd.le w2 (by omega)) (by omega) (by decide)
  simp -implicitDefEqProofs -dsimp [dG]
  have small : ∀ {x : Int}, 0 ≤ x → x ≤ w → Bd 100 (x.fdiv G) := fun {x} h0 h1 => by
    rw [Int.fdiv_eq_ediv_of_nonneg _ (by omega)]
    have h2 := Int.ediv_le_self (a := x) (G : Int) (by omega)
    have h3 := Int.ediv_nonneg (show 0 ≤ x by omega) (show (0 : Int) ≤ G by omega)
    exact (Bd.le w2 (by omega)).mono (by decide)
  refine ⟨⟨[r.fdiv G, w.fdiv G], rfl, _, _, rfl, ?_, small r1 r2, small (by omega) (by omega)⟩, _, rfl, T2⟩
  rw [Int.fdiv_eq_ediv_of_nonneg _ (by omega)]
  obtain ⟨q, rfl⟩ := gd
  rw [Int.mul_ediv_cancel_left _ (by omega)]
  rcases Int.lt_or_le q 1 with h | h
  · have : (G : Int) * q ≤ (G : Int) * 0 := Int.mul_le_mul_of_nonneg_left (by omega) (by omega)
    omega
  · exact h
theorem at_ts {ts : List (List Int)} (h4 : ts.length = 4) (j : Int) : ∃ t ∈ ts, atI (ts.map tI) (j.fmod 4) = some (tI t) := by
  obtain ⟨h0, h1⟩ := fmod_range (i := j) (m := 4) (by decide)
  obtain ⟨k, hk⟩ := Int.eq_ofNat_of_zero_le h0
  rw [hk] at h1 ⊢
  have lt : k < ts.length := by omega
  refine ⟨ts[k], List.getElem_mem lt, ?_⟩
  rw [DL.atI_nat]
  simp [lt]
def TwoI (a b c d : D) (_ : Nat) (e : DL.Env) : Prop := ∃ o4 o5 o6 o7, e = [some a, some b, some c, some d, o4, o5, o6, o7]
abbrev twoB : M Fl := (sSeq (sAsg 5 (eBin dIdx (eVar 2) (eBin dMod (eBlt dToInt (aCons (eVar 4) aNil)) (eC (.int 4)))))
  (sSeq (sAsg 6 (eBin dIdx (eVar 2) (eBin dMod (eBlt dToInt (aCons (eBin dAdd (eVar 4) (eBin dDiv (eVar 4) (eC (.int 4)))) aNil)) (eC (.int 4)))))
  (sSeq (sAsg 7 (eCall 3 F__law_on (aCons (eVal 1) (aCons (eCall 3 F__law_on (aCons (eVal 0) (aCons (eVal 6) (aCons (eVal 5) aNil)))) (aCons (eVal 5) aNil)))))
  (sSeq (sIf (tNotD (tTruD (eCall 2 F__law_is (aCons (eCall 3 F_tone_on (aCons (eVal 3) (aCons (eVal 6) (aCons (eVal 5) aNil)))) (aCons (eVal 7) aNil))))) (sRet (eC (.bl false))) sNext)
  (sIf (tOf (eBin dNe (eCall 3 F_tone_on (aCons (eVal 1) (aCons (eCall 3 F_tone_on (aCons (eVal 0) (aCons (eVal 6) (aCons (eVal 5) aNil)))) (aCons (eVal 5) aNil)))) (eVar 7))) (sRet (eC (.bl false))) sNext)))))
theorem two_loop {a b : List Int} {ts : List (List Int)} (ha : Lab 100 a) (hb : Lab 100 b) (ht : AllT 100 ts) (h4 : ts.length = 4) {Q : Fl → DL.Env → Prop} {o4 o5 o6 o7 : Option D}
    (h : ∀ o4 o5 o6 o7, Q .nx [some (tI a), some (tI b), some (.lst (ts.map tI)), some (tI (red (folL a b))), o4, o5, o6, o7]) : Wp (forL (gN 4) twoB (rg 0 8) [some (tI a), some (tI b), some (.lst (ts.map tI)), some (tI (red (folL a b))), o4, o5, o6, o7]) Q := by
  refine wp_forL (TwoI (tI a) (tI b) (.lst (ts.map tI)) (tI (red (folL a b)))) _ 0 _ ⟨_, _, _, _, rfl⟩ ?_ ?_
  · rintro i d e hd ⟨o4, o5, o6, o7, rfl⟩
    obtain ⟨v, _, rfl⟩ := List.mem_map.mp (List.mem_of_getElem? hd)
    generalize (0 : Int) + (v : Int) = j
    obtain ⟨x, mx, ex⟩ := at_ts h4 j
    obtain ⟨p, mp, ep⟩ := at_ts h4 (j + j.fdiv 4)
    have X := (ht x mx).1
    have P := (ht p mp).1
    have d4 : DivOk 4 := DivOk.of (n := 20) (by decide) (by decide) (by decide)
    have q1 := on_ok ha P X (by decide)
    have q2 := on_ok hb ((onL_ton ha P X).red) (X.mono (show 100 ≤ 305 by decide)) (by decide)
    have q3 := tone_on_ok (folL_lab ha hb).red (P.mono (show 100 ≤ 200 by decide)) (X.mono (show 100 ≤ 200 by decide)) (by decide)
    have q4 := tone_on_ok ha P X (by decide)
    have q5 := tone_on_ok hb ((onL_ton ha P X).red) (X.mono (show 100 ≤ 305 by decide)) (by decide)
    rw [on_fol ha hb P X] at q3
    simp -implicitDefEqProofs -dsimp [ex, ep, d4]
    refine (q1).imp ?_
    rintro _ _ rfl
    simp -implicitDefEqProofs -dsimp
    refine (q2).imp ?_
    rintro _ _ rfl
    simp -implicitDefEqProofs -dsimp
    refine (q3).imp ?_
    rintro _ _ rfl
    simp -implicitDefEqProofs -dsimp
    refine (is_ok).imp ?_
    rintro _ _ rfl
    simp -implicitDefEqProofs -dsimp
    refine (q4).imp ?_
    rintro _ _ rfl
    simp -implicitDefEqProofs -dsimp
    refine (q5).imp ?_
    rintro _ _ rfl
    simp -implicitDefEqProofs -dsimp
    exact ⟨_, _, _, _, rfl⟩
  · rintro e ⟨o4, o5, o6, o7, rfl⟩
    exact h _ _ _ _
theorem two_ok {a b : List Int} {ts : List (List Int)} (ha : Lab 100 a) (hb : Lab 100 b) (ra : red a = a) (rb : red b = b) (ht : AllT 100 ts) (h4 : ts.length = 4) : Wp (F__law_two [tI a, tI b, .lst (ts.map tI)]) fun d _ => d = .bl true := by
  have fo := follow_ok ha hb ra rb (by decide)
  have lf := lfollow_ok ha hb (by decide)
  have loop := @two_loop a b ts ha hb ht h4
  obtain ⟨G, hG, eG⟩ := red_of (folL_lab ha hb).pos
  obtain ⟨z0, z1, z2, z3, z4, z5, eT, _⟩ := (folL_lab ha hb).red.six
  rw [eT] at fo lf loop eG
  obtain ⟨k, o, r, g, b', w, rfl, hw, _⟩ := ha.six
  obtain ⟨K, O, R, GG, B, W, rfl, hW, _⟩ := hb.six
  have e0 : k * K = G * z0 := by
    simp only [folL, List.map_cons, List.cons.injEq] at eG
    exact eG.1
  have hz : z0 = 0 ↔ k = 0 ∨ K = 0 := by
    rw [← Int.mul_eq_zero, e0, Int.mul_eq_zero]
    constructor
    · exact fun h => .inr h
    · rintro (h | h)
      · omega
      · exact h
  unfold F__law_two
  rw [wp_runF]
  simp -implicitDefEqProofs -dsimp
  refine (fo).imp ?_
  rintro _ _ rfl
  simp -implicitDefEqProofs -dsimp
  refine (lf).imp ?_
  rintro _ _ rfl
  simp -implicitDefEqProofs -dsimp
  refine (is_ok (xs := [z0, z1, z2, z3, z4, z5])).imp ?_
  rintro _ _ rfl
  by_cases h1 : k = 0
  · have h3 : z0 = 0 := hz.mpr (.inl h1)
    subst h1
    subst h3
    simp -implicitDefEqProofs -dsimp
    refine loop fun o4 o5 o6 o7 => ?_
    simp -implicitDefEqProofs -dsimp
  · by_cases h2 : K = 0
    · have h3 : z0 = 0 := hz.mpr (.inr h2)
      subst h2
      subst h3
      simp -implicitDefEqProofs -dsimp [h1]
      refine loop fun o4 o5 o6 o7 => ?_
      simp -implicitDefEqProofs -dsimp
    · have h3 : ¬z0 = 0 := fun h => (hz.mp h).elim h1 h2
      simp -implicitDefEqProofs -dsimp [h1, h2, h3]
      refine loop fun o4 o5 o6 o7 => ?_
      simp -implicitDefEqProofs -dsimp
def AloI (a b c : D) (_ : Nat) (e : DL.Env) : Prop := ∃ o3 o4 o5 o6 o7, e = [some a, some b, some c, o3, o4, o5, o6, o7]
def AloJ (a b c s : D) (_ : Nat) (e : DL.Env) : Prop := ∃ o4 o5 o6 o7, e = [some a, some b, some c, some s, o4, o5, o6, o7]
def AloK (a b c x t : D) (_ : Nat) (e : DL.Env) : Prop := ∃ o3 o5 o7, e = [some a, some b, some c, o3, some x, o5, some t, o7]
theorem alone_ok {a y : List Int} {ts' ts ss : List (List Int)} (ha : Lab 100 a) (ra : red a = a) (ht : AllT 100 ts) (hts : ts = y :: ts') (hs : AllS 100 ss) (hl : ss.length < 1000) : Wp (F__law_alone [tI a, .lst (ts.map tI), .lst (ss.map tI)]) fun d _ => d = .bl true := by
  have hM := hs.more
  have f1 := follow_ok same_lab ha same_red ra (by decide)
  have f2 := follow_ok ha same_lab ra same_red (by decide)
  rw [fol1 ha, ra] at f1
  rw [fol2 ha, ra] at f2
  have Y := (ht y (by rw [hts]; simp)).1
  have e0 : atI (ts.map tI) 0 = some (tI y) := by
    rw [at0, hts]
    rfl
  have rC : ∀ e : DL.Env, DL.rs e c_SAME = c_SAME := fun _ => rfl
  unfold F__law_alone
  rw [wp_runF]
  simp -implicitDefEqProofs -dsimp [c_SAME]
  refine (f1).imp ?_
  rintro _ _ rfl
  simp -implicitDefEqProofs -dsimp
  refine (f2).imp ?_
  rintro _ _ rfl
  simp -implicitDefEqProofs -dsimp
  refine ⟨by omega, ?_⟩
  have e : ss.map tI ++ [.tup [.int 0, .int 1], .tup [.int 1, .int 1]] = (ss ++ [[0, 1], [1, 1]]).map tI := by simp
  rw [e]
  refine wp_forL (AloI (tI a) (.lst (ts.map tI)) (.lst (ss.map tI))) _ 0 _ ⟨_, _, _, _, _, rfl⟩ ?_ ?_
  · rintro i d e hd ⟨o3, o4, o5, o6, o7, rfl⟩
    obtain ⟨s, ms, rfl⟩ := List.mem_map.mp (List.mem_of_getElem? hd)
    have S := hM s ms
    have q1 := scaled_ok ha S (by decide)
    have q2 := lscaled_ok ha S (by decide)
    have LS := (sclL_lab ha S).red
    simp -implicitDefEqProofs -dsimp
    refine (q1).imp ?_
    rintro _ _ rfl
    simp -implicitDefEqProofs -dsimp
    refine (q2).imp ?_
    rintro _ _ rfl
    simp -implicitDefEqProofs -dsimp
    refine (is_ok).imp ?_
    rintro _ _ rfl
    simp -implicitDefEqProofs -dsimp
    refine wp_forL (AloJ (tI a) (.lst (ts.map tI)) (.lst (ss.map tI)) (tI s)) _ 0 _ ⟨_, _, _, _, rfl⟩ ?_ ?_
    · rintro j d e hd ⟨o4, o5, o6, o7, rfl⟩
      obtain ⟨x, mx, rfl⟩ := List.mem_map.mp (List.mem_of_getElem? hd)
      have X := (ht x mx).1
      have q3 := lcoloured_ok LS X (by decide)
      have q4 := coloured_ok LS X (by decide)
      have q5 := coloured_ok ha X (by decide)
      have q6 := scaled_ok (colL_lab ha X).red S (by decide)
      rw [← col_scl ha X S] at q6
      simp -implicitDefEqProofs -dsimp
      refine (q2).imp ?_
      rintro _ _ rfl
      simp -implicitDefEqProofs -dsimp
      refine (q3).imp ?_
      rintro _ _ rfl
      simp -implicitDefEqProofs -dsimp
      refine (q1).imp ?_
      rintro _ _ rfl
      simp -implicitDefEqProofs -dsimp
      refine (q4).imp ?_
      rintro _ _ rfl
      simp -implicitDefEqProofs -dsimp
      refine (q5).imp ?_
      rintro _ _ rfl
      simp -implicitDefEqProofs -dsimp
      refine (q6).imp ?_
      rintro _ _ rfl
      simp -implicitDefEqProofs -dsimp
      exact ⟨_, _, _, _, rfl⟩
    · rintro e ⟨o4, o5, o6, o7, rfl⟩
      exact ⟨_, _, _, _, _, rfl⟩
  · rintro e ⟨o3, o4, o5, o6, o7, rfl⟩
    have q1 := scaled_ok (s := [0, 1]) ha (hM _ (by simp)) (by decide)
    have q2 := scaled_ok (s := [1, 1]) ha (hM _ (by simp)) (by decide)
    rw [scl01 ha] at q1
    rw [scl11 ha, ra] at q2
    have eq : dNe (.tup [.int 1, .int 0, .int 0, .int 0, .int 0, .int 1]) (.tup [.int 1, .int 0, .int 0, .int 0, .int 0, .int 1]) = some (.bl false) := by
      have := ne_tI (xs := same) (ys := same)
      simpa using this
    simp -implicitDefEqProofs -dsimp [c_SAME]
    refine (q1).imp ?_
    rintro _ _ rfl
    simp -implicitDefEqProofs -dsimp
    simp -implicitDefEqProofs -dsimp [eq]
    refine (q2).imp ?_
    rintro _ _ rfl
    simp -implicitDefEqProofs -dsimp
    refine wp_forL (AloI (tI a) (.lst (ts.map tI)) (.lst (ss.map tI))) _ 0 _ ⟨_, _, _, _, _, rfl⟩ ?_ ?_
    · rintro i d e hd ⟨o3, o4, o5, o6, o7, rfl⟩
      obtain ⟨x, mx, rfl⟩ := List.mem_map.mp (List.mem_of_getElem? hd)
      have X := (ht x mx).1
      have q3 := coloured_ok ha X (by decide)
      have q4 := lcoloured_ok ha X (by decide)
      have LC := (colL_lab ha X).red
      have oc : ∀ {p y}, Ton 100 p → Ton 100 y → red (onL (red (colL a x)) p y) = red (onL a p x) := fun hp hy => on_col ha hp X hy
      obtain ⟨b0, b2, b3, b4, b5, eB⟩ : ∃ b0 b2 b3 b4 b5 : Int, red (colL a x) = [b0, 0, b2, b3, b4, b5] := by
        obtain ⟨k, o, r, g, b, w, rfl, _⟩ := ha.six
        obtain ⟨x0, x1, x2, X', rfl, _⟩ := X
        have z : ∀ {A B C E F : Int} {G : Int}, [A, Int.fdiv 0 G, B, C, E, F] = [A, 0, B, C, E, F] := fun {_ _ _ _ _ _} => by rw [Int.zero_fdiv]
        exact ⟨_, _, _, _, _, z⟩
      rw [eB] at q3 q4 LC
      rw [eB] at oc
      simp -implicitDefEqProofs -dsimp
      refine (q3).imp ?_
      rintro _ _ rfl
      simp -implicitDefEqProofs -dsimp
      refine (q4).imp ?_
      rintro _ _ rfl
      simp -implicitDefEqProofs -dsimp
      refine (is_ok (xs := [b0, 0, b2, b3, b4, b5])).imp ?_
      rintro _ _ rfl
      simp -implicitDefEqProofs -dsimp
      refine wp_forL (AloK (tI a) (.lst (ts.map tI)) (.lst (ss.map tI)) (tI x) (tI [b0, 0, b2, b3, b4, b5])) _ 0 _ ⟨_, _, _, rfl⟩ ?_ ?_
      · rintro j d e hd ⟨o3, o5, o7, rfl⟩
        obtain ⟨p, mp, rfl⟩ := List.mem_map.mp (List.mem_of_getElem? hd)
        have P := (ht p mp).1
        have q5 := tone_on_ok ha P X (by decide)
        have q6 := on_ok ha P X (by decide)
        have q7 := tone_on_ok LC (P.mono (show 100 ≤ 205 by decide)) (Y.mono (show 100 ≤ 205 by decide)) (by decide)
        have q8 := tone_on_ok LC (P.mono (show 100 ≤ 205 by decide)) (X.mono (show 100 ≤ 205 by decide)) (by decide)
        rw [oc P Y] at q7
        rw [oc P X] at q8
        simp -implicitDefEqProofs -dsimp
        refine (q5).imp ?_
        rintro _ _ rfl
        simp -implicitDefEqProofs -dsimp
        refine (q6).imp ?_
        rintro _ _ rfl
        simp -implicitDefEqProofs -dsimp
        refine is_ok.imp ?_
        rintro _ _ rfl
        simp -implicitDefEqProofs -dsimp [-at0, e0]
        refine (q7).imp ?_
        rintro _ _ rfl
        simp -implicitDefEqProofs -dsimp
        refine (q6).imp ?_
        rintro _ _ rfl
        simp -implicitDefEqProofs -dsimp
        refine (q8).imp ?_
        rintro _ _ rfl
        simp -implicitDefEqProofs -dsimp
        refine (q5).imp ?_
        rintro _ _ rfl
        simp -implicitDefEqProofs -dsimp
        exact ⟨_, _, _, rfl⟩
      · rintro e ⟨o3, o5, o7, rfl⟩
        exact ⟨_, _, _, _, _, rfl⟩
    · rintro e ⟨o3, o4, o5, o6, o7, rfl⟩
      simp -implicitDefEqProofs -dsimp
end K09
end

section
set_option maxRecDepth 100000
set_option maxHeartbeats 1000000
namespace K09
open PySem L2 DL
theorem add_own3 {xs ys : List D} (h : (xs.all isSh) = true) (k : (ys.all isSh) = true) : dAdd (.own xs) (.own ys) = if xs.length + ys.length ≤ 1000000 then some (.lst (xs ++ ys)) else none := by
  show ((if (xs.all isSh) = true then some xs else none).bind fun xs => (if (ys.all isSh) = true then some ys else none).bind fun ys => if xs.length + ys.length ≤ 1000000 then some (D.lst (xs ++ ys)) else none) = _
  rw [if_pos h, if_pos k]
  rfl
theorem law_ok {ns : List Int} (h : ns.length ≤ 63) : Wp (F_law [.klst (ns.map D.int)]) fun d _ => d = .bl true := by
  have rg2 : rg 0 2 = [.int 0, .int 1] := rfl
  unfold F_law
  rw [wp_runF]
  simp -implicitDefEqProofs -dsimp
  refine (row_ok h).imp ?_
  rintro _ outs ⟨row, rfl, hr⟩
  have T0 : Tp 0 [lI row, .int 0] := ⟨row, 0, rfl, by omega, hr⟩
  simp -implicitDefEqProofs -dsimp
  refine (next_ok T0 (by decide) (by decide)).imp ?_
  rintro _ outs ⟨⟨v, rfl, v1, v2⟩, tp1, ho, T1⟩
  simp -implicitDefEqProofs -dsimp [putO_one ho]
  generalize (if v = 5 then (1 : Int) else 0) = gr
  refine (raw_ok T1 (by decide)).imp ?_
  rintro _ outs ⟨⟨xs, rfl, hx⟩, tp2, ho, T2⟩
  simp -implicitDefEqProofs -dsimp [putO_one ho]
  refine (raw_ok T2 (by decide)).imp ?_
  rintro _ outs ⟨⟨ys, rfl, hy⟩, tp3, ho, T3⟩
  simp -implicitDefEqProofs -dsimp [putO_one ho]
  refine (raw_ok T3 (by decide)).imp ?_
  rintro _ outs ⟨⟨zs, rfl, hz⟩, tp4, ho, T4⟩
  simp -implicitDefEqProofs -dsimp [putO_one ho, rg2]
  refine (raw_tone_ok T4 (by decide)).imp ?_
  rintro _ outs ⟨⟨ps, rfl, hp⟩, tp5, ho, T5⟩
  simp -implicitDefEqProofs -dsimp [putO_one ho]
  refine (raw_tone_ok T5 (by decide)).imp ?_
  rintro _ outs ⟨⟨qs, rfl, hq⟩, tp6, ho, T6⟩
  simp -implicitDefEqProofs -dsimp [putO_one ho, rg2]
  refine (share_ok T6 (by decide)).imp ?_
  rintro _ outs ⟨⟨s1, rfl, hs1⟩, tp7, ho, T7⟩
  simp -implicitDefEqProofs -dsimp [putO_one ho]
  refine (share_ok T7 (by decide)).imp ?_
  rintro _ outs ⟨⟨s2, rfl, hs2⟩, tp8, ho, T8⟩
  simp -implicitDefEqProofs -dsimp [putO_one ho, add_own3]
  refine (formed_lab T8 (by decide) hx).imp ?_
  rintro _ outs ⟨rfl, tp9, ho, T9⟩
  simp -implicitDefEqProofs -dsimp [putO_one ho]
  refine (formed_lab T9 (by decide) hy).imp ?_
  rintro _ outs ⟨rfl, tp10, ho, T10⟩
  simp -implicitDefEqProofs -dsimp [putO_one ho]
  refine (formed_lab T10 (by decide) hz).imp ?_
  rintro _ outs ⟨rfl, tp11, ho, T11⟩
  simp -implicitDefEqProofs -dsimp [putO_one ho]
  refine (formed_ton T11 (by decide) hp).imp ?_
  rintro _ outs ⟨rfl, tp12, ho, T12⟩
  simp -implicitDefEqProofs -dsimp [putO_one ho]
  refine (formed_ton T12 (by decide) hq).imp ?_
  rintro _ outs ⟨rfl, tp13, ho, T13⟩
  simp -implicitDefEqProofs -dsimp [putO_one ho]
  have hA := hx.red
  have hB := hy.red
  have hC := hz.red
  have hP := hp.red
  have hQ := hq.red
  have rx := reduce_lab (by decide) (.inr rfl) hx
  have ry := reduce_lab (by decide) (.inr rfl) hy
  have rz := reduce_lab (by decide) (.inr rfl) hz
  have rp := reduce_ton (by decide) (.inr rfl) hp
  have rq := reduce_ton (by decide) (.inr rfl) hq
  have eA := hx.same
  have eB := hy.same
  have eC := hz.same
  have eP : red (red ps) = red ps := by
    obtain ⟨w, hw, h1⟩ := hp.pos
    exact red_red hw h1
  have eQ : red (red qs) = red qs := by
    obtain ⟨w, hw, h1⟩ := hq.pos
    exact red_red hw h1
  generalize red xs = A at *
  generalize red ys = B at *
  generalize red zs = C at *
  generalize red ps = P at *
  generalize red qs = Qq at *
  refine (rx).imp ?_
  rintro _ _ rfl
  simp -implicitDefEqProofs -dsimp
  refine (ry).imp ?_
  rintro _ _ rfl
  simp -implicitDefEqProofs -dsimp
  refine (rz).imp ?_
  rintro _ _ rfl
  simp -implicitDefEqProofs -dsimp
  refine (rp).imp ?_
  rintro _ _ rfl
  simp -implicitDefEqProofs -dsimp
  refine (rq).imp ?_
  rintro _ _ rfl
  simp -implicitDefEqProofs -dsimp
  have tsP : AllT 100 [P, Qq, [0, 0, 0, 1], [1, 1, 1, 1]] := by
    intro t m
    simp only [List.mem_cons, List.not_mem_nil, or_false] at m
    rcases m with rfl | rfl | rfl | rfl
    · exact ⟨hP, eP⟩
    · exact ⟨hQ, eQ⟩
    · exact ⟨⟨0, 0, 0, 1, rfl, by decide, zbd _, zbd _, zbd _, bd1 (by decide)⟩, by decide +kernel⟩
    · exact ⟨⟨1, 1, 1, 1, rfl, by decide, bd1 (by decide), bd1 (by decide), bd1 (by decide), bd1 (by decide)⟩, by decide +kernel⟩
  have ssS : AllS 100 [s1, s2] := by
    intro t m
    simp only [List.mem_cons, List.not_mem_nil, or_false] at m
    rcases m with rfl | rfl
    · exact hs1
    · exact hs2
  have pk := paints_ok tsP ssS (by simp)
  have aA := alone_ok (a := A) (ss := [s1, s2]) hA eA tsP rfl ssS (by simp)
  have aB := alone_ok (a := B) (ss := [s1, s2]) hB eB tsP rfl ssS (by simp)
  have aC := alone_ok (a := C) (ss := [s1, s2]) hC eC tsP rfl ssS (by simp)
  have aS := alone_ok (a := same) (ss := [s1, s2]) same_lab same_red tsP rfl ssS (by simp)
  have two : ∀ {a b : List Int}, Lab 100 a → Lab 100 b → red a = a → red b = b → Wp (F__law_two [tI a, tI b, .lst ([P, Qq, [0, 0, 0, 1], [1, 1, 1, 1]].map tI)]) fun d _ => d = .bl true := fun h1 h2 h3 h4 => two_ok h1 h2 h3 h4 tsP rfl
  simp -implicitDefEqProofs -dsimp [c_BLACK, c_WHITE]
  refine (is_ok (xs := [0, 0, 0, 1])).imp ?_
  rintro _ _ rfl
  simp -implicitDefEqProofs -dsimp [c_BLACK, c_WHITE]
  refine (is_ok (xs := [1, 1, 1, 1])).imp ?_
  rintro _ _ rfl
  simp -implicitDefEqProofs -dsimp [c_SAME]
  refine (is_ok (xs := same)).imp ?_
  rintro _ _ rfl
  simp -implicitDefEqProofs -dsimp
  refine (pk).imp ?_
  rintro _ _ rfl
  simp -implicitDefEqProofs -dsimp
  refine (aA).imp ?_
  rintro _ _ rfl
  simp -implicitDefEqProofs -dsimp
  refine (two hA hA eA eA).imp ?_
  rintro _ _ rfl
  simp -implicitDefEqProofs -dsimp
  refine (two hA hB eA eB).imp ?_
  rintro _ _ rfl
  simp -implicitDefEqProofs -dsimp
  refine (two hA hC eA eC).imp ?_
  rintro _ _ rfl
  simp -implicitDefEqProofs -dsimp
  refine (aB).imp ?_
  rintro _ _ rfl
  simp -implicitDefEqProofs -dsimp
  refine (two hB hA eB eA).imp ?_
  rintro _ _ rfl
  simp -implicitDefEqProofs -dsimp
  refine (two hB hB eB eB).imp ?_
  rintro _ _ rfl
  simp -implicitDefEqProofs -dsimp
  refine (two hB hC eB eC).imp ?_
  rintro _ _ rfl
  simp -implicitDefEqProofs -dsimp
  refine (aC).imp ?_
  rintro _ _ rfl
  simp -implicitDefEqProofs -dsimp
  refine (two hC hA eC eA).imp ?_
  rintro _ _ rfl
  simp -implicitDefEqProofs -dsimp
  refine (two hC hB eC eB).imp ?_
  rintro _ _ rfl
  simp -implicitDefEqProofs -dsimp
  refine (two hC hC eC eC).imp ?_
  rintro _ _ rfl
  simp -implicitDefEqProofs -dsimp
  refine (aS).imp ?_
  rintro _ _ rfl
  simp -implicitDefEqProofs -dsimp
  refine (two same_lab hA same_red eA).imp ?_
  rintro _ _ rfl
  simp -implicitDefEqProofs -dsimp
  refine (two same_lab hB same_red eB).imp ?_
  rintro _ _ rfl
  simp -implicitDefEqProofs -dsimp
  refine (two same_lab hC same_red eC).imp ?_
  rintro _ _ rfl
  simp -implicitDefEqProofs -dsimp
  have e1 := lfollow_ok hA hB (by decide)
  have e2 := lfollow_ok (folL_lab hA hB).red hC (by decide)
  have e3 := follow_ok hA hB eA eB (by decide)
  have e4 := follow_ok (folL_lab hA hB).red hC (folL_lab hA hB).same eC (by decide)
  have e5 := follow_ok hB hC eB eC (by decide)
  have e6 := follow_ok hA (folL_lab hB hC).red eA (folL_lab hB hC).same (by decide)
  rw [← fol_fol hA hB hC] at e6
  refine (e1).imp ?_
  rintro _ _ rfl
  simp -implicitDefEqProofs -dsimp
  refine (e2).imp ?_
  rintro _ _ rfl
  simp -implicitDefEqProofs -dsimp
  refine (e3).imp ?_
  rintro _ _ rfl
  simp -implicitDefEqProofs -dsimp
  refine (e4).imp ?_
  rintro _ _ rfl
  simp -implicitDefEqProofs -dsimp
  refine (e5).imp ?_
  rintro _ _ rfl
  simp -implicitDefEqProofs -dsimp
  refine (e6).imp ?_
  rintro _ _ rfl
  simp -implicitDefEqProofs -dsimp
theorem plain : ∀ ns : List Int, ns.length ≤ 63 → ∃ outs, F_law [.klst (ns.map D.int)] = .ok (.bl true) outs := fun ns h => by
  obtain ⟨d, e, q, rfl⟩ := (law_ok h).get
  exact ⟨e, q⟩
end K09
end

theorem PySem.Challenge.cw_printstacks_k09_labels_one_behind_anothe_holds : PySem.Challenge.rw_printstacks_k09_labels_one_behind_anothe.Holds := by
  exact K09.hold K09.plain
